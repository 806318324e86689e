import PyProof.Rows.All
import Wide.All
import OpenK.AllK
import Wide.FinOn
import HandS.ForMost
import HandS.CallSlots
import HandS.ExcInit
import HandS.TryMany
import HandS.TryOnly
import HandS.ExcField
import HandS.ExcIs
import HandS.Small
import HandS.IsInst
import HandS.Defaults
import HandS.Head2
import HandS.HeadEnd
import HandS.HeadHook3
import HandS.TupAny
import HandS.TupMul
import HandS.Rev
import HandS.Zip
import HandS.Conv
import HandS.OwnEq
import HandS.Flow
import HandS.Style
import HandS.Wide
import HandS.HeadHook4
import HandS.Ends
import PySem.Challenge.RW_cutlinked_k07_whole_shapes_judged
set_option Elab.async false
set_option linter.all false
set_option maxRecDepth 100000
set_option maxHeartbeats 4000000
/-! L3: deep data over the hand layer. -/
namespace L3
open PySem PySem.Spec PyProof.Rows L2
open He (ga)

/-! ### data -/
/-- the exception that an except suite holds: where, its class, its dict -/
structure Zx where
  a : Addr
  c : Value
  d : Option Addr
structure K3 where
  f : PySem.W.Frag
  z : Zx
abbrev Z0 : Zx := ⟨0, .none, none⟩
abbrev Cxk (X : Cx) (Z : Zx) : K3 := ⟨X.K, Z⟩
inductive D where
  | non | bl (b : Bool) | int (i : Int) | str (x : Str)
  | tup (xs : List D)
  | fl (xs : List D)
  | sl (xs : List D)
  | ob (c : Str) (ns : List Str) (xs : List D)
  | emp
  | ref (a : Addr)
  | ex (c : Str)
  | exf (c f : Str) (y : D)
inductive GO where
  | lst (xs : List D) | dic (kvs : List (Key × D)) | ins (c : Str) (fs : List (Str × D))
abbrev Gp := Addr → Option GO
def up (G : Gp) (a : Addr) (o : GO) : Gp := fun b => if b = a then some o else G b
def dl (G : Gp) (a : Addr) : Gp := fun b => if b = a then none else G b
theorem up_same {G : Gp} {a : Addr} {o : GO} : up G a o a = some o := if_pos rfl
theorem up_ne {G : Gp} {a b : Addr} {o : GO} (h : b ≠ a) : up G a o b = G b := if_neg h
theorem dl_same {G : Gp} {a : Addr} : dl G a a = none := if_pos rfl
theorem dl_ne {G : Gp} {a b : Addr} (h : b ≠ a) : dl G a b = G b := if_neg h
theorem up_up {G : Gp} {a : Addr} {o u : GO} : up (up G a o) a u = up G a u := by
  funext b; unfold up; split <;> rfl
theorem up_self {G : Gp} {a : Addr} {o : GO} (h : G a = some o) : up G a o = G := by
  funext b; unfold up; split
  · rename_i e; rw [e, h]
  · rfl
theorem dl_up {G : Gp} {a : Addr} {o : GO} (h : G a = none) : dl (up G a o) a = G := by
  funext b; unfold dl up; split
  · rename_i e; rw [e, h]
  · rfl
theorem up_comm {G : Gp} {a b : Addr} {o u : GO} (h : a ≠ b) : up (up G b u) a o = up (up G a o) b u := by
  funext c; unfold up
  by_cases h1 : c = a
  · subst h1; rw [if_pos rfl, if_neg h, if_pos rfl]
  · rw [if_neg h1]; by_cases h2 : c = b
    · rw [if_pos h2, if_pos h2]
    · rw [if_neg h2, if_neg h2, if_neg h1]

/-- an exception: its class, its field -/
structure X3 where
  c : Str
  f : Option (Str × D) := none

/-- the written part's lists -/
def KL (K : PySem.W.Frag) (a : Addr) (xs : List V) : Prop :=
  ∃ (o : Obj) (its : Array Value) (n : Nat), K.lookup a = some o ∧ o.cls = .type "list" ∧ o.dict = none ∧ o.data = .seq its n ∧ its.size ≤ sizeLine ∧ Vals xs its.toList
/-- a list that is only read -/
def SqF (K : K3) (G : Gp) (H : Hp) (a : Addr) (vs : List V) : Prop := (Rd H a (.lst vs) ∧ G a = none) ∨ KL K.f a vs
mutual
inductive Dv (K : K3) (G : Gp) (H : Hp) : D → V → Prop
  | non : Dv K G H .non .non
  | bl (b : Bool) : Dv K G H (.bl b) (.bl b)
  | int (i : Int) : Dv K G H (.int i) (.int i)
  | str (x : Str) : Dv K G H (.str x) (.str x)
  | tup {a : Addr} {vs : List V} {xs : List D} : SqT K.f H a vs → DvL K G H xs vs → Dv K G H (.tup xs) (.ref a)
  | fl {a : Addr} {vs : List V} {xs : List D} : H a = some (.lst vs) → G a = none → DvL K G H xs vs → Dv K G H (.fl xs) (.ref a)
  | sl {a : Addr} {vs : List V} {xs : List D} : SqF K G H a vs → DvL K G H xs vs → Dv K G H (.sl xs) (.ref a)
  | ob {a dx : Addr} {c : Str} {ns : List Str} {vs : List V} {xs : List D} : H a = some (.ins (ga K.f c) dx (ns.zip vs)) → ns.length = vs.length → G a = none → DvL K G H xs vs → Dv K G H (.ob c ns xs) (.ref a)
  | emp {a : Addr} {kvs : List (Key × V)} : H a = some (.dK kvs) → G a = none → Dv K G H .emp (.ref a)
  | ref (a : Addr) : Dv K G H (.ref a) (.ref a)
  | ex {c : Str} : K.z.c = .ref (ga K.f c) → Dv K G H (.ex c) (.ref K.z.a)
  | exf {c f : Str} {y : D} {d : Addr} {v : V} : K.z.c = .ref (ga K.f c) → K.z.d = some d → H d = some (.xd [(f, v)]) → Dv K G H y v → Dv K G H (.exf c f y) (.ref K.z.a)
inductive DvL (K : K3) (G : Gp) (H : Hp) : List D → List V → Prop
  | nil : DvL K G H [] []
  | cons {d : D} {v : V} {ds : List D} {vs : List V} : Dv K G H d v → DvL K G H ds vs → DvL K G H (d :: ds) (v :: vs)
end

def OkO (K : K3) (G : Gp) (H : Hp) (a : Addr) : GO → Prop
  | .lst xs => ∃ vs, H a = some (.lst vs) ∧ DvL K G H xs vs
  | .dic kvs => ∃ vs, H a = some (.dK ((kvs.map (·.1)).zip vs)) ∧ DvL K G H (kvs.map (·.2)) vs
  | .ins c fs => ∃ dx vs, H a = some (.ins (ga K.f c) dx ((fs.map (·.1)).zip vs)) ∧ DvL K G H (fs.map (·.2)) vs
def GH (K : K3) (G : Gp) (H : Hp) : Prop := ∀ a o, G a = some o → OkO K G H a o
/-- what is outside G is kept, and stays outside -/
def Keep (G : Gp) (H : Hp) (G' : Gp) (H' : Hp) : Prop := ∀ a o, H a = some o → G a = none → H' a = some o ∧ G' a = none

section
variable {K : K3} {G G' G1 G2 : Gp} {H H' H1 H2 : Hp}
theorem Keep.refl : Keep G H G H := fun _ _ h g => ⟨h, g⟩
theorem Keep.trans (a : Keep G H G1 H1) (b : Keep G1 H1 G2 H2) : Keep G H G2 H2 := fun c o h g => let ⟨h1, g1⟩ := a c o h g; b c o h1 g1
theorem DvL.length : ∀ {xs : List D} {vs : List V}, DvL K G H xs vs → xs.length = vs.length
  | _, _, .nil => rfl
  | _, _, .cons _ r => congrArg Nat.succ (DvL.length r)
theorem DvL.get : ∀ {xs : List D} {vs : List V} {i : Nat} {d : D}, DvL K G H xs vs → xs[i]? = some d → ∃ v, vs[i]? = some v ∧ Dv K G H d v
  | _, _, _, _, .nil, e => by simp at e
  | _, _, 0, _, .cons r _, e => by simp at e; subst e; exact ⟨_, rfl, r⟩
  | _, _, i + 1, d, .cons _ t, e => by
    obtain ⟨u, h1, h2⟩ := DvL.get (i := i) (d := d) t (by simpa using e)
    exact ⟨u, by simpa using h1, h2⟩
theorem DvL.append : ∀ {xs ys : List D} {us ws : List V}, DvL K G H xs us → DvL K G H ys ws → DvL K G H (xs ++ ys) (us ++ ws)
  | _, _, _, _, .nil, s => s
  | _, _, _, _, .cons r t, s => .cons r (DvL.append t s)
theorem DvL.take : ∀ {xs : List D} {us : List V} (n : Nat), DvL K G H xs us → DvL K G H (xs.take n) (us.take n)
  | _, _, 0, _ => .nil
  | _, _, _ + 1, .nil => .nil
  | _, _, n + 1, .cons r t => .cons r (DvL.take n t)
theorem DvL.drop : ∀ {xs : List D} {us : List V} (n : Nat), DvL K G H xs us → DvL K G H (xs.drop n) (us.drop n)
  | _, _, 0, r => r
  | _, _, _ + 1, .nil => .nil
  | _, _, n + 1, .cons _ t => DvL.drop n t
theorem DvL.set {d : D} {u : V} (r : Dv K G H d u) : ∀ {xs : List D} {us : List V} (i : Nat), DvL K G H xs us → DvL K G H (xs.set i d) (us.set i u)
  | _, _, _, .nil => .nil
  | _, _, 0, .cons _ t => .cons r t
  | _, _, i + 1, .cons q t => .cons q (DvL.set r i t)
theorem DvL.dropLast : ∀ {xs : List D} {us : List V}, DvL K G H xs us → DvL K G H xs.dropLast us.dropLast
  | _, _, .nil => .nil
  | _, _, .cons _ .nil => .nil
  | _, _, .cons r (.cons q t) => .cons r (DvL.dropLast (.cons q t))
theorem DvL.eraseIdx : ∀ {xs : List D} {us : List V} (i : Nat), DvL K G H xs us → DvL K G H (xs.eraseIdx i) (us.eraseIdx i)
  | _, _, _, .nil => .nil
  | _, _, 0, .cons _ t => t
  | _, _, i + 1, .cons r t => .cons r (DvL.eraseIdx i t)
theorem DvL.reverse {xs : List D} {us : List V} (h : DvL K G H xs us) : DvL K G H xs.reverse us.reverse := by
  induction xs generalizing us with
  | nil => cases h; exact .nil
  | cons x xs ih =>
    cases h with
    | cons r t =>
      rw [List.reverse_cons, List.reverse_cons]
      exact (ih t).append (.cons r .nil)
theorem DvL.rep {d : D} {v : V} (r : Dv K G H d v) : ∀ n, DvL K G H (List.replicate n d) (List.replicate n v)
  | 0 => .nil
  | n + 1 => .cons r (DvL.rep r n)
theorem DvL.flat {xs : List D} {us : List V} (h : DvL K G H xs us) : ∀ k : Nat, DvL K G H (List.replicate k xs).flatten (List.replicate k us).flatten
  | 0 => .nil
  | k + 1 => by
    rw [List.replicate_succ, List.replicate_succ, List.flatten_cons, List.flatten_cons]
    exact h.append (h.flat k)

theorem GH.none_of (g : GH K G H) {a : Addr} {o : HO} (h : H a = some o) (hl : ∀ xs, o ≠ .lst xs) (hd : ∀ kvs, o ≠ .dK kvs) (hi : ∀ C dx fs, o ≠ .ins C dx fs) : G a = none := by
  cases e : G a with
  | none => rfl
  | some u =>
    have q := g a u e
    cases u with
    | lst xs => obtain ⟨vs, h2, _⟩ := q; rw [h] at h2; exact absurd (Option.some.inj h2) (hl _)
    | dic kvs => obtain ⟨vs, h2, _⟩ := q; rw [h] at h2; exact absurd (Option.some.inj h2) (hd _)
    | ins c fs => obtain ⟨dx, vs, h2, _⟩ := q; rw [h] at h2; exact absurd (Option.some.inj h2) (hi _ _ _)
theorem GH.some_of (g : GH K G H) {a : Addr} {o : GO} (h : G a = some o) : ∃ u, H a = some u := by
  have q := g a o h
  cases o with
  | lst xs => obtain ⟨vs, h2, _⟩ := q; exact ⟨_, h2⟩
  | dic kvs => obtain ⟨vs, h2, _⟩ := q; exact ⟨_, h2⟩
  | ins c fs => obtain ⟨dx, vs, h2, _⟩ := q; exact ⟨_, h2⟩
theorem GH.free (g : GH K G H) {a : Addr} (h : H a = none) : G a = none := by
  cases e : G a with
  | none => rfl
  | some o => obtain ⟨u, h2⟩ := g.some_of e; rw [h] at h2; cases h2
theorem sqT_keep (g : GH K G H) (k : Keep G H G' H') {a : Addr} {vs : List V} (s : SqT K.f H a vs) : SqT K.f H' a vs := by
  rcases s with (h | ⟨o, h⟩) | h
  · exact .inl (.inl (k a _ h (g.none_of h (by intros; intro z; cases z) (by intros; intro z; cases z) (by intros; intro z; cases z))).1)
  · exact .inl (.inr ⟨o, (k a _ h (g.none_of h (by intros; intro z; cases z) (by intros; intro z; cases z) (by intros; intro z; cases z))).1⟩)
  · exact .inr h
theorem SqF.sql {a : Addr} {vs : List V} (s : SqF K G H a vs) : SqL K.f H a vs := by
  rcases s with ⟨h, _⟩ | h
  · exact .inl h
  · exact .inr h
theorem SqF.of (g : GH K G H) {a : Addr} {vs : List V} (s : SqL K.f H a vs) (n : G a = none) : SqF K G H a vs := by
  rcases s with h | h
  · exact .inl ⟨h, n⟩
  · exact .inr h
theorem SqF.keep (k : Keep G H G' H') {a : Addr} {vs : List V} (s : SqF K G H a vs) : SqF K G' H' a vs := by
  rcases s with ⟨h | ⟨o, h⟩, n⟩ | h
  · obtain ⟨h1, h2⟩ := k a _ h n; exact .inl ⟨.inl h1, h2⟩
  · obtain ⟨h1, h2⟩ := k a _ h n; exact .inl ⟨.inr ⟨o, h1⟩, h2⟩
  · exact .inr h
mutual
theorem Dv.keep (g : GH K G H) (k : Keep G H G' H') : ∀ {d : D} {v : V}, Dv K G H d v → Dv K G' H' d v
  | _, _, .non => .non
  | _, _, .bl b => .bl b
  | _, _, .int b => .int b
  | _, _, .str b => .str b
  | _, _, .tup s r => .tup (sqT_keep g k s) (DvL.keep g k r)
  | _, _, .fl h n r => .fl (k _ _ h n).1 (k _ _ h n).2 (DvL.keep g k r)
  | _, _, .sl s r => .sl (s.keep k) (DvL.keep g k r)
  | _, _, .ob h l n r => .ob (k _ _ h n).1 l (k _ _ h n).2 (DvL.keep g k r)
  | _, _, .emp h n => .emp (k _ _ h n).1 (k _ _ h n).2
  | _, _, .ref a => .ref a
  | _, _, .ex h => .ex h
  | _, _, .exf h h1 h2 r => .exf h h1 (k _ _ h2 (g.none_of h2 (by intros; intro z; cases z) (by intros; intro z; cases z) (by intros; intro z; cases z))).1 (Dv.keep g k r)
theorem DvL.keep (g : GH K G H) (k : Keep G H G' H') : ∀ {d : List D} {v : List V}, DvL K G H d v → DvL K G' H' d v
  | _, _, .nil => .nil
  | _, _, .cons r t => .cons (Dv.keep g k r) (DvL.keep g k t)
end
theorem OkO.keep (g : GH K G H) (k : Keep G H G' H') {a : Addr} {o : GO} (h : OkO K G H a o) (e : H' a = H a) : OkO K G' H' a o := by
  cases o with
  | lst xs => obtain ⟨vs, h2, r⟩ := h; exact ⟨vs, e.trans h2, r.keep g k⟩
  | dic kvs => obtain ⟨vs, h2, r⟩ := h; exact ⟨vs, e.trans h2, r.keep g k⟩
  | ins c fs => obtain ⟨dx, vs, h2, r⟩ := h; exact ⟨dx, vs, e.trans h2, r.keep g k⟩
/-! ### steps of the heap -/
/-- a new object, not in G -/
theorem Keep.new {p : Addr} {o : HO} (n : H p = none) : Keep G H G (upd H p o) := fun a u h e => ⟨by rw [upd_ne (ne_of_none h n)]; exact h, e⟩
theorem GH.new (g : GH K G H) {p : Addr} {o : HO} (n : H p = none) : GH K G (upd H p o) := fun a u h => by
  obtain ⟨w, q⟩ := g.some_of h
  exact (g a u h).keep g (Keep.new n) (upd_ne (ne_of_none q n))
/-- a new object, into G -/
theorem Keep.newG {p : Addr} {o : HO} {u : GO} (n : H p = none) : Keep G H (up G p u) (upd H p o) := fun a w h e => by
  have ne := ne_of_none h n
  exact ⟨by rw [upd_ne ne]; exact h, by rw [up_ne ne]; exact e⟩
theorem GH.newG (g : GH K G H) {p : Addr} {o : HO} {u : GO} (n : H p = none) (q : OkO K (up G p u) (upd H p o) p u) : GH K (up G p u) (upd H p o) := fun a w h => by
  by_cases e : a = p
  · subst e; rw [up_same] at h; cases h; exact q
  · rw [up_ne e] at h
    exact (g a w h).keep g (Keep.newG n) (upd_ne e)
/-- an object of G, changed -/
theorem Keep.set {p : Addr} {o : HO} {u u' : GO} (n : G p = some u) : Keep G H (up G p u') (upd H p o) := fun a w h e => by
  have ne : a ≠ p := fun z => by rw [z, n] at e; cases e
  exact ⟨by rw [upd_ne ne]; exact h, by rw [up_ne ne]; exact e⟩
theorem GH.set (g : GH K G H) {p : Addr} {o : HO} {u u' : GO} (n : G p = some u) (q : OkO K (up G p u') (upd H p o) p u') : GH K (up G p u') (upd H p o) := fun a w h => by
  by_cases e : a = p
  · subst e; rw [up_same] at h; cases h; exact q
  · rw [up_ne e] at h
    exact (g a w h).keep g (Keep.set n) (upd_ne e)
/-- less of G -/
def Sub (G' G : Gp) : Prop := ∀ a o, G' a = some o → G a = some o
theorem Sub.refl : Sub G G := fun _ _ h => h
theorem Sub.trans (a : Sub G G1) (b : Sub G1 G2) : Sub G G2 := fun c o h => b c o (a c o h)
theorem Sub.no (s : Sub G' G) {a : Addr} (h : G a = none) : G' a = none := by
  cases e : G' a with
  | none => rfl
  | some o => rw [s a o e] at h; cases h
theorem Keep.sub (s : Sub G' G) : Keep G H G' H := fun a o h e => ⟨h, s.no e⟩
theorem GH.sub (g : GH K G H) (s : Sub G' G) : GH K G' H := fun a o h => (g a o (s a o h)).keep g (Keep.sub s) rfl
theorem Sub.dl {a : Addr} : Sub (dl G a) G := fun b o h => by
  by_cases e : b = a
  · subst e; rw [dl_same] at h; cases h
  · rw [dl_ne e] at h; exact h
theorem Sub.up {a : Addr} {o : GO} (n : G a = none) : Sub G (up G a o) := fun b u h => by
  rw [up_ne (fun z => by rw [z, n] at h; cases h)]; exact h
end
end L3
namespace L3
open PySem PySem.Spec PyProof.Rows L2
open He (ga)
abbrev St := L2.St
abbrev St3 := List (Option D)
abbrev QK := D → Gp → Prop
abbrev EK := X3 → Gp → Prop
abbrev TE3 := St3 → Gp → QK → EK → Prop
abbrev TT3 := St3 → Gp → (Bool → Gp → Prop) → EK → Prop
abbrev TA3 := St3 → Gp → (List D → Gp → Prop) → EK → Prop
structure Ends3 where
  nx : St3 → Gp → Prop
  rt : QK
  bk : St3 → Gp → Prop := fun _ _ => False
  ct : St3 → Gp → Prop := fun _ _ => False
  ex : X3 → St3 → Gp → Prop := fun _ _ _ => False
abbrev TS3 := Ends3 → St3 → Gp → Prop
/-- the slots -/
def gt (σ : St3) (i : Nat) : Option D := match σ, i with
  | [], _ => none
  | d :: _, 0 => d
  | _ :: r, i + 1 => gt r i
theorem gt_eq : ∀ (σ : St3) (i : Nat) {d : D}, gt σ i = some d → σ[i]? = some (some d)
  | [], _, _, h => by cases h
  | x :: r, 0, d, h => by
    have h' : x = some d := h
    simp [h']
  | x :: r, i + 1, d, h => by simpa using gt_eq r i h
def Rs (K : K3) (G : Gp) (H : Hp) (σ3 : St3) (σ : St) : Prop := σ3.length = σ.length ∧ ∀ (i : Nat) d, σ3[i]? = some (some d) → ∃ v, σ[i]? = some (some v) ∧ Dv K G H d v
/-- an exception's data -/
def Xv (K : K3) (G : Gp) (H : Hp) (x : X3) (c : Value) (d : Option Addr) : Prop := c = .ref (ga K.f x.c) ∧ match x.f with
  | none => True
  | some (f, y) => ∃ (a : Addr) (v : V), d = some a ∧ H a = some (.xd [(f, v)]) ∧ Dv K G H y v
section
variable {K : K3} {G G' G1 G2 : Gp} {H H' H1 H2 : Hp} {σ3 : St3} {σ : St}
theorem Rs.keep (g : GH K G H) (k : Keep G H G' H') (r : Rs K G H σ3 σ) : Rs K G' H' σ3 σ := ⟨r.1, fun i d e => let ⟨v, h1, h2⟩ := r.2 i d e; ⟨v, h1, h2.keep g k⟩⟩
theorem Rs.set (r : Rs K G H σ3 σ) {d : D} {v : V} (h : Dv K G H d v) (i : Nat) : Rs K G H (σ3.set i (some d)) (σ.set i (some v)) := ⟨by simp [r.1], fun j e q => by
  by_cases hj : i = j
  · subst hj
    by_cases hl : i < σ3.length
    · rw [List.getElem?_set_self hl] at q; cases q
      exact ⟨v, List.getElem?_set_self (by rw [← r.1]; exact hl), h⟩
    · rw [List.getElem?_eq_none (by simpa using hl)] at q; cases q
  · rw [List.getElem?_set_ne hj] at q ⊢
    exact r.2 j e q⟩
theorem Rs.clear (r : Rs K G H σ3 σ) (i : Nat) : Rs K G H (σ3.set i none) (σ.set i none) := ⟨by simp [r.1], fun j e q => by
  by_cases hj : i = j
  · subst hj
    by_cases hl : i < σ3.length
    · rw [List.getElem?_set_self hl] at q; cases q
    · rw [List.getElem?_eq_none (by simpa using hl)] at q; cases q
  · rw [List.getElem?_set_ne hj] at q ⊢
    exact r.2 j e q⟩
end
/-- what is wanted of a value, lifted -/
def Qk (K : K3) (G : Gp) (H : Hp) (Q3 : QK) (Q : VK) : Prop := ∀ d G' v H', Q3 d G' → GH K G' H' → Dv K G' H' d v → Keep G H G' H' → Q v H'
def Bk (K : K3) (G : Gp) (H : Hp) (Q3 : Bool → Gp → Prop) (Q : Bool → Hp → Prop) : Prop := ∀ b G' H', Q3 b G' → GH K G' H' → Keep G H G' H' → Q b H'
def Ak (K : K3) (G : Gp) (H : Hp) (Q3 : List D → Gp → Prop) (Q : List V → Hp → Prop) : Prop := ∀ d G' v H', Q3 d G' → GH K G' H' → DvL K G' H' d v → Keep G H G' H' → Q v H'
def Sk (K : K3) (G : Gp) (H : Hp) (Q3 : St3 → Gp → Prop) (Q : St → Hp → Prop) : Prop := ∀ σ3 G' σ H', Q3 σ3 G' → GH K G' H' → Rs K G' H' σ3 σ → Keep G H G' H' → Q σ H'
def Xk (K : K3) (G : Gp) (H : Hp) (E3 : EK) (E : XK) : Prop := ∀ x G' c d H', E3 x G' → GH K G' H' → Xv K G' H' x c d → Keep G H G' H' → E c d H'
structure Dk (K : K3) (G : Gp) (H : Hp) (W : WX) (D3 : Ends3) (D : Ends) : Prop where
  nx : Sk K G H D3.nx D.nx
  rt : Qk K G H D3.rt D.rt
  bk : Sk K G H D3.bk D.bk
  ct : Sk K G H D3.ct D.ct
  ex : ∀ x σ3 G' c d σ H', D3.ex x σ3 G' → GH K G' H' → Rs K G' H' σ3 σ → Xv K G' H' x c d → Keep G H G' H' → W c d σ H'
def liftE (K : K3) (W : WX) (t : TE3) : TE := fun σ H Q => ∃ σ3 G Q3 E3, GH K G H ∧ Rs K G H σ3 σ ∧ t σ3 G Q3 E3 ∧ Qk K G H Q3 Q ∧ Xk K G H E3 (fun c d H' => W c d σ H')
def liftT (K : K3) (W : WX) (t : TT3) : TT := fun σ H Q => ∃ σ3 G Q3 E3, GH K G H ∧ Rs K G H σ3 σ ∧ t σ3 G Q3 E3 ∧ Bk K G H Q3 Q ∧ Xk K G H E3 (fun c d H' => W c d σ H')
def liftA (K : K3) (W : WX) (t : TA3) : TA := fun σ H Q => ∃ σ3 G Q3 E3, GH K G H ∧ Rs K G H σ3 σ ∧ t σ3 G Q3 E3 ∧ Ak K G H Q3 Q ∧ Xk K G H E3 (fun c d H' => W c d σ H')
def liftS (K : K3) (W : WX) (t : TS3) : TS := fun D σ H => ∃ σ3 G D3, GH K G H ∧ Rs K G H σ3 σ ∧ t D3 σ3 G ∧ Dk K G H W D3 D
section
variable {K : K3} {G G' G1 G2 : Gp} {H H' H1 H2 : Hp} {W : WX}
theorem Qk.keep {Q3 : QK} {Q : VK} (k : Keep G H G' H') (q : Qk K G H Q3 Q) : Qk K G' H' Q3 Q := fun d G1 v H1 a b c e => q d G1 v H1 a b c (k.trans e)
theorem Bk.keep {Q3 : Bool → Gp → Prop} {Q : Bool → Hp → Prop} (k : Keep G H G' H') (q : Bk K G H Q3 Q) : Bk K G' H' Q3 Q := fun d G1 H1 a b e => q d G1 H1 a b (k.trans e)
theorem Ak.keep {Q3 : List D → Gp → Prop} {Q : List V → Hp → Prop} (k : Keep G H G' H') (q : Ak K G H Q3 Q) : Ak K G' H' Q3 Q := fun d G1 v H1 a b c e => q d G1 v H1 a b c (k.trans e)
theorem Sk.keep {Q3 : St3 → Gp → Prop} {Q : St → Hp → Prop} (k : Keep G H G' H') (q : Sk K G H Q3 Q) : Sk K G' H' Q3 Q := fun d G1 v H1 a b c e => q d G1 v H1 a b c (k.trans e)
theorem Xk.keep {E3 : EK} {E : XK} (k : Keep G H G' H') (q : Xk K G H E3 E) : Xk K G' H' E3 E := fun d G1 v u H1 a b c e => q d G1 v u H1 a b c (k.trans e)
theorem Dk.keep {D3 : Ends3} {D : Ends} (k : Keep G H G' H') (q : Dk K G H W D3 D) : Dk K G' H' W D3 D :=
  ⟨q.nx.keep k, q.rt.keep k, q.bk.keep k, q.ct.keep k, fun x σ3 G1 c d σ H1 a b r e f => q.ex x σ3 G1 c d σ H1 a b r e (k.trans f)⟩
end
/-! ### the judgements -/
section
variable (X : Cx) (Z : Zx) (W : WX)
def PE3 (e : Expr) (t : TE3) : Prop := PE X e (liftE (Cxk X Z) W t)
def PT3 (e : Expr) (t : TT3) : Prop := PT X e (liftT (Cxk X Z) W t)
def PW3 (e : Expr) (t : TT3) : Prop := PW X e (liftT (Cxk X Z) W t)
def PA3 (es : List Expr) (t : TA3) : Prop := PA X es (liftA (Cxk X Z) W t)
def PS3 (s : Stmt) (t : TS3) : Prop := PS X s (liftS (Cxk X Z) W t)
def PSs3 (s : List Stmt) (t : TS3) : Prop := PSs X s (liftS (Cxk X Z) W t)
end
theorem PE.imp {X : Cx} {e : Expr} {t u : TE} (h : PE X e t) (k : ∀ σ H Q, u σ H Q → t σ H Q) : PE X e u := ⟨fun pins s σ H Q I q => h.run pins s σ H Q I (k _ _ _ q)⟩
theorem PT.imp {X : Cx} {e : Expr} {t u : TT} (h : PT X e t) (k : ∀ σ H Q, u σ H Q → t σ H Q) : PT X e u := ⟨fun pins s σ H Q I q => h.run pins s σ H Q I (k _ _ _ q)⟩
theorem PW.imp {X : Cx} {e : Expr} {t u : TT} (h : PW X e t) (k : ∀ σ H Q, u σ H Q → t σ H Q) : PW X e u := ⟨fun wh pins s σ H Q I q => h.run wh pins s σ H Q I (k _ _ _ q)⟩
theorem PA.imp {X : Cx} {e : List Expr} {t u : TA} (h : PA X e t) (k : ∀ σ H Q, u σ H Q → t σ H Q) : PA X e u := ⟨fun pos pins s σ H Q I q => h.run pos pins s σ H Q I (k _ _ _ q)⟩
theorem PS.imp {X : Cx} {e : Stmt} {t u : TS} (h : PS X e t) (k : ∀ D σ H, u D σ H → t D σ H) : PS X e u := ⟨fun pins s σ H D I q => h.run pins s σ H D I (k _ _ _ q)⟩
theorem PSs.imp {X : Cx} {e : List Stmt} {t u : TS} (h : PSs X e t) (k : ∀ D σ H, u D σ H → t D σ H) : PSs X e u := ⟨fun pins s σ H D I q => h.run pins s σ H D I (k _ _ _ q)⟩
section
variable {K : K3} {G : Gp} {H : Hp} {W : WX} {σ : St} {σ3 : St3}
theorem liftE_one {t : TE3} {R3 : QK} {E3 : EK} {R : VK} (g : GH K G H) (r : Rs K G H σ3 σ) (h : t σ3 G R3 E3) (x : Xk K G H E3 (fun c d H' => W c d σ H'))
    (k : ∀ d G' v H', R3 d G' → GH K G' H' → Dv K G' H' d v → Keep G H G' H' → R v H') : liftE K W t σ H R := ⟨σ3, G, R3, E3, g, r, h, k, x⟩
end
/-! ### names, constants -/
def tv (i : Nat) : TE3 := fun σ G Q _ => ∃ d, gt σ i = some d ∧ Q d G
def tc (d : D) : TE3 := fun _ G Q _ => Q d G
section
variable {X : Cx} {Z : Zx} {W : WX} {pos : Pos}
theorem q_of {K : K3} {G : Gp} {H : Hp} {Q3 : QK} {Q : VK} {d : D} {v : V} (q : Qk K G H Q3 Q) (g : GH K G H) (h : Q3 d G) (r : Dv K G H d v) : Q v H := q d G v H h g r Keep.refl
theorem v_ (i : Nat) {x : Str} (hN : X.N[i]? = some x := by rfl) (hv : Vis X.env.scope x := by first | exact Or.inl rfl | exact Or.inr (Or.inl rfl) | exact Or.inr (Or.inr rfl)) (hd : (x == ("__debug__" : Str)) = false := by decide)
    (hcd : (x == ("__classdict__" : Str)) = false := by decide) : PE3 X Z W (.Name x pos) (tv i) := PE.imp (pe_var (i := i) hN hv hd hcd) fun σ H Q h => by
  obtain ⟨σ3, G, Q3, E3, g, r, h, q, _⟩ := h
  obtain ⟨d, e, h⟩ := h
  obtain ⟨v, e1, e2⟩ := r.2 i d (gt_eq _ _ e)
  exact ⟨v, e1, q_of q g h e2⟩
theorem pc_ {e : Expr} {d : D} {v : V} (h : PE X e (tC v)) (r : ∀ K G H, Dv K G H d v) : PE3 X Z W e (tc d) := PE.imp h fun σ H Q ⟨σ3, G, Q3, E3, g, _, h, q, x⟩ => q_of q g h (r _ _ _)
theorem ci_ {i j} : PE3 X Z W (.Constant (.int i) j pos) (tc (.int i)) := pc_ pe_int fun _ _ _ => .int i
theorem cb_ {b j} : PE3 X Z W (.Constant (.bool b) j pos) (tc (.bl b)) := pc_ pe_bl fun _ _ _ => .bl b
theorem cn_ {j} : PE3 X Z W (.Constant .none j pos) (tc .non) := pc_ pe_non fun _ _ _ => .non
theorem cs_ {x j} : PE3 X Z W (.Constant (.str x) j pos) (tc (.str x)) := pc_ pe_str fun _ _ _ => .str x
/-- a constant of the module -/
theorem cg_ {x : Str} {v : V} {u : Value} {d : D} (hm : X.mg x = some u) (r : RelV v u) (rd : ∀ G H, Dv (Cxk X Z) G H d v) (hg : Gl X x := by rfl) (hd : (x == ("__debug__" : Str)) = false := by decide) : PE3 X Z W (.Name x pos) (tc d) :=
  PE.imp (pe_glob hg hm r hd) fun σ H Q ⟨σ3, G, Q3, E3, g, _, h, q, x⟩ => q_of q g h (rd _ _)
end
end L3
namespace L3
open PySem PySem.Spec PyProof.Rows L2
open He (ga)
/-! ### new things -/
/-- a new list: written later (m), or frozen -/
def outL (m : Bool) (xs : List D) (G : Gp) (Q : QK) : Prop := match m with
  | true => ∀ p, G p = none → Q (.ref p) (up G p (.lst xs))
  | false => Q (.fl xs) G
section
variable {K : K3} {G : Gp} {H : Hp} {Q3 : QK} {Q : VK}
theorem outL_ok (m : Bool) {xs : List D} {vs : List V} (g : GH K G H) (r : DvL K G H xs vs) (q : Qk K G H Q3 Q) (h : outL m xs G Q3) {p : Addr} (n : H p = none) : Q (.ref p) (upd H p (.lst vs)) := by
  cases m with
  | true => exact q _ _ _ _ (h p (g.free n)) (g.newG n ⟨vs, upd_same, r.keep g (Keep.newG n)⟩) (.ref p) (Keep.newG n)
  | false => exact q _ _ _ _ h (g.new n) (.fl upd_same (g.free n) (r.keep g (Keep.new n))) (Keep.new n)
theorem outT_ok {xs : List D} {vs : List V} (g : GH K G H) (r : DvL K G H xs vs) (q : Qk K G H Q3 Q) (h : Q3 (.tup xs) G) {p : Addr} (n : H p = none) : Q (.ref p) (upd H p (.tup vs)) :=
  q _ _ _ _ h (g.new n) (.tup (SqT.of upd_same) (r.keep g (Keep.new n))) (Keep.new n)
end
/-- a list or tuple as it stands -/
def sq (G : Gp) : D → Option (List D)
  | .tup xs => some xs
  | .fl xs => some xs
  | .sl xs => some xs
  | .ref p => (match G p with
    | some (.lst xs) => some xs
    | _ => none)
  | _ => none
/-- a list -/
def lq (G : Gp) : D → Option (List D)
  | .fl xs => some xs
  | .sl xs => some xs
  | .ref p => (match G p with
    | some (.lst xs) => some xs
    | _ => none)
  | _ => none
/-- a list of ours (not the script) -/
def mq (G : Gp) : D → Option (List D)
  | .fl xs => some xs
  | .ref p => (match G p with
    | some (.lst xs) => some xs
    | _ => none)
  | _ => none
section
variable {K : K3} {G : Gp} {H : Hp}
theorem lq_ok {d : D} {v : V} {xs : List D} (g : GH K G H) (r : Dv K G H d v) (h : lq G d = some xs) : ∃ a vs, v = .ref a ∧ SqL K.f H a vs ∧ DvL K G H xs vs := by
  cases r with
  | fl hs n r => cases h; exact ⟨_, _, rfl, SqL.of hs, r⟩
  | sl hs r => cases h; exact ⟨_, _, rfl, hs.sql, r⟩
  | ref a =>
    unfold lq at h
    simp only at h
    split at h
    · rename_i ys e
      cases h
      obtain ⟨vs, h2, r⟩ := g a _ e
      exact ⟨_, _, rfl, SqL.of h2, r⟩
    · cases h
  | _ => cases h
theorem mq_ok {d : D} {v : V} {xs : List D} (g : GH K G H) (r : Dv K G H d v) (h : mq G d = some xs) : ∃ a vs, v = .ref a ∧ H a = some (.lst vs) ∧ DvL K G H xs vs := by
  cases r with
  | fl hs n r => cases h; exact ⟨_, _, rfl, hs, r⟩
  | ref a =>
    unfold mq at h
    simp only at h
    split at h
    · rename_i ys e
      cases h
      obtain ⟨vs, h2, r⟩ := g a _ e
      exact ⟨_, _, rfl, h2, r⟩
    · cases h
  | _ => cases h
theorem sq_ok {d : D} {v : V} {xs : List D} (g : GH K G H) (r : Dv K G H d v) (h : sq G d = some xs) : ∃ a vs, v = .ref a ∧ (SqL K.f H a vs ∨ SqT K.f H a vs) ∧ DvL K G H xs vs := by
  cases r with
  | tup hs r => cases h; exact ⟨_, _, rfl, .inr hs, r⟩
  | fl hs n r => cases h; exact ⟨_, _, rfl, .inl (SqL.of hs), r⟩
  | sl hs r => cases h; exact ⟨_, _, rfl, .inl hs.sql, r⟩
  | ref a =>
    unfold sq at h
    simp only at h
    split at h
    · rename_i ys e
      cases h
      obtain ⟨vs, h2, r⟩ := g a _ e
      exact ⟨_, _, rfl, .inl (SqL.of h2), r⟩
    · cases h
  | _ => cases h
end
/-! ### operators -/
abbrev Q2 := D → D → Gp → QK → Prop
def OpR3 (X : Cx) (Z : Zx) (f : Value → Value → Sem Value) (t : Q2) : Prop :=
  ∃ r : R2, OpR X f r ∧ ∀ G H x y v u Q3 Q, GH (Cxk X Z) G H → Dv (Cxk X Z) G H x v → Dv (Cxk X Z) G H y u → t x y G Q3 → Qk (Cxk X Z) G H Q3 Q → r v u H Q
def t2 (t : Q2) (ta tb : TE3) : TE3 := fun σ G Q E => ta σ G (fun x G1 => tb σ G1 (fun y G2 => t x y G2 Q) E) E
section
variable {X : Cx} {Z : Zx} {W : WX} {a b : Expr} {ta tb : TE3} {pos : Pos}
theorem two_ {r : R2} {t : Q2} (k : ∀ G H x y v u Q3 Q, GH (Cxk X Z) G H → Dv (Cxk X Z) G H x v → Dv (Cxk X Z) G H y u → t x y G Q3 → Qk (Cxk X Z) G H Q3 Q → r v u H Q) (σ : St) (H : Hp) (Q : VK) (h : liftE (Cxk X Z) W (t2 t ta tb) σ H Q) : tOp r (liftE (Cxk X Z) W ta) (liftE (Cxk X Z) W tb) σ H Q := by
  obtain ⟨σ3, G, Q3, E3, g, rs, h, q, x⟩ := h
  refine ⟨σ3, G, _, E3, g, rs, h, fun d1 G1 v1 H1 h1 g1 r1 k1 => ?_, x⟩
  refine ⟨σ3, G1, _, E3, g1, rs.keep g k1, h1, fun d2 G2 v2 H2 h2 g2 r2 k2 => ?_, x.keep k1⟩
  exact k G2 H2 d1 d2 v1 v2 Q3 Q g2 (r1.keep g1 k2) r2 h2 (q.keep (k1.trans k2))
theorem op_ {op : Operator} {t : Q2} (ho : OpR3 X Z (binaryOp op) t) (ha : PE3 X Z W a ta) (hb : PE3 X Z W b tb) : PE3 X Z W (.BinOp a op b pos) (t2 t ta tb) := by
  obtain ⟨r, h, k⟩ := ho
  exact PE.imp (pe_op h ha hb) (two_ k)
theorem cm_ {op : CmpOp} {t : Q2} (ho : OpR3 X Z (compareOp op) t) (ha : PE3 X Z W a ta) (hb : PE3 X Z W b tb) (hm : behindInMarks op b = false) : PE3 X Z W (.Compare a [op] [b] pos) (t2 t ta tb) := by
  obtain ⟨r, h, k⟩ := ho
  exact PE.imp (pe_cmpR h ha hb hm) (two_ k)
/-- as a test -/
def tb3 (t : TE3) : TT3 := fun σ G Q E => t σ G (fun d G1 => ∃ b, d = .bl b ∧ Q b G1) E
theorem tcm_ {op : CmpOp} {t : Q2} (ho : OpR3 X Z (compareOp op) t) (ha : PE3 X Z W a ta) (hb : PE3 X Z W b tb) (hm : behindInMarks op b = false) : PT3 X Z W (.Compare a [op] [b] pos) (tb3 (t2 t ta tb)) := by
  obtain ⟨r, h, k⟩ := ho
  refine PT.imp (pt_cmpR h ha hb hm) fun σ H Q hq => two_ (W := W) k σ H (fun x H' => ∃ k, x = .bl k ∧ Q k H') ?_
  obtain ⟨σ3, G, Q3, E3, g, rs, h, q, x⟩ := hq
  refine ⟨σ3, G, _, E3, g, rs, h, fun d G1 v H1 ⟨b, e, h1⟩ g1 r1 k1 => ?_, x⟩
  subst e
  cases r1
  exact ⟨b, rfl, q b G1 H1 h1 g1 k1⟩
end
def two64 (i : Int) : Prop := -(2 ^ 64) < i ∧ i < 2 ^ 64
def mulOk (i j : Int) : Prop := two64 i ∨ two64 j ∨ CMulW i j
def divOk (j : Int) : Prop := (j ≠ 0 ∧ j.natAbs < 1073741824)
def add3 (m : Bool) : Q2 := fun x y G Q => match x, y with
  | .int i, .int j => Q (.int (i + j)) G
  | .str i, .str j => i.length + j.length ≤ sizeLine ∧ Q (.str (i ++ j)) G
  | .tup xs, .tup ys => xs.length + ys.length ≤ sizeLine ∧ Q (.tup (xs ++ ys)) G
  | x, y => ∃ xs ys, mq G x = some xs ∧ mq G y = some ys ∧ xs.length + ys.length ≤ sizeLine ∧ outL m (xs ++ ys) G Q
def sub3 : Q2 := fun x y G Q => match x, y with
  | .int i, .int j => Q (.int (i - j)) G
  | _, _ => False
def repOk (n : Nat) (k : Int) : Prop := -(2 ^ 63) ≤ k ∧ k < 2 ^ 63 ∧ n * k.toNat ≤ sizeLine
def mul3 (m : Bool) : Q2 := fun x y G Q => match x, y with
  | .int i, .int j => mulOk i j ∧ Q (.int (i * j)) G
  | .tup xs, .int k => xs ≠ [] ∧ 2 ≤ k ∧ k ≤ 1000 ∧ xs.length ≤ 1000 ∧ Q (.tup (List.replicate k.toNat xs).flatten) G
  | x, .int k => ∃ xs, mq G x = some xs ∧ repOk xs.length k ∧ outL m (List.replicate k.toNat xs).flatten G Q
  | _, _ => False
def fdiv3 : Q2 := fun x y G Q => match x, y with
  | .int i, .int j => 0 < j ∧ j < 1073741824 ∧ Q (.int (i / j)) G
  | _, _ => False
def mod3 : Q2 := fun x y G Q => match x, y with
  | .int i, .int j => 0 < j ∧ Q (.int (i % j)) G
  | _, _ => False
def pow3 : Q2 := fun x y G Q => match x, y with
  | .int i, .int j => CPow i j ∧ Q (.int (i ^ j.toNat)) G
  | _, _ => False
section
variable {X : Cx} {Z : Zx}
theorem SqT.nonnil {K : K3} {G : Gp} {H : Hp} {xs : List D} {vs : List V} (r : DvL K G H xs vs) (h : xs ≠ []) : vs ≠ [] := by
  intro e; subst e; cases r; exact h rfl
theorem o_add (m : Bool) : OpR3 X Z (binaryOp .Add) (add3 m) := by
  refine ⟨_, op_add.or (op_add_str.or (op_catA.or op_cat)), fun G H x y v u Q3 Q g rx ry h q => ?_⟩
  unfold add3 at h
  split at h
  · cases rx; cases ry
    exact .inl ⟨_, _, rfl, rfl, q_of q g h (.int _)⟩
  · cases rx; cases ry
    exact .inr (.inl ⟨_, _, rfl, rfl, h.1, q_of q g h.2 (.str _)⟩)
  · cases rx with
    | tup s1 r1 =>
    cases ry with
    | tup s2 r2 =>
    rename_i a vs b ws
    refine .inr (.inr (.inl ⟨_, _, _, _, rfl, rfl, s1, s2, by rw [← r1.length, ← r2.length]; exact h.1, ?_⟩))
    have rr := r1.append r2
    have hq := h.2
    refine ⟨fun e => ?_, fun _ e => ?_, fun e1 e2 p n => outT_ok g rr q hq n⟩
    · subst e
      cases r1
      exact q_of q g hq (.tup s2 r2)
    · subst e
      cases r2
      rw [List.append_nil] at hq
      exact q_of q g hq (.tup s1 r1)
  · obtain ⟨xs, ys, e1, e2, l, h⟩ := h
    obtain ⟨a, vs, ea, s1, r1⟩ := mq_ok g rx e1
    obtain ⟨b, ws, eb, s2, r2⟩ := mq_ok g ry e2
    exact .inr (.inr (.inr ⟨a, b, vs, ws, ea, eb, s1, s2, by rw [← r1.length, ← r2.length]; exact l, fun p n => outL_ok m g (r1.append r2) q h n⟩))
theorem o_sub : OpR3 X Z (binaryOp .Sub) sub3 := by
  refine ⟨_, op_sub, fun G H x y v u Q3 Q g rx ry h q => ?_⟩
  unfold sub3 at h
  split at h
  · cases rx; cases ry
    exact ⟨_, _, rfl, rfl, q_of q g h (.int _)⟩
  · exact h.elim
theorem o_fdiv : OpR3 X Z (binaryOp .FloorDiv) fdiv3 := by
  refine ⟨_, op_fdiv, fun G H x y v u Q3 Q g rx ry h q => ?_⟩
  unfold fdiv3 at h
  split at h
  · cases rx; cases ry
    exact ⟨_, _, rfl, rfl, ⟨h.1, h.2.1⟩, q_of q g h.2.2 (.int _)⟩
  · exact h.elim
theorem o_mod : OpR3 X Z (binaryOp .Mod) mod3 := by
  refine ⟨_, op_mod, fun G H x y v u Q3 Q g rx ry h q => ?_⟩
  unfold mod3 at h
  split at h
  · cases rx; cases ry
    exact ⟨_, _, rfl, rfl, h.1, q_of q g h.2 (.int _)⟩
  · exact h.elim
theorem o_pow : OpR3 X Z (binaryOp .Pow) pow3 := by
  refine ⟨_, op_pow, fun G H x y v u Q3 Q g rx ry h q => ?_⟩
  unfold pow3 at h
  split at h
  · cases rx; cases ry
    exact ⟨_, _, rfl, rfl, h.1, q_of q g h.2 (.int _)⟩
  · exact h.elim
theorem o_mul (m : Bool) : OpR3 X Z (binaryOp .Mult) (mul3 m) := by
  refine ⟨_, op_mul.or (op_mulW.or (op_repT.or op_rep)), fun G H x y v u Q3 Q g rx ry h q => ?_⟩
  unfold mul3 at h
  split at h
  · cases rx; cases ry
    obtain ⟨c, h⟩ := h
    have hq := q_of q g h (.int _)
    rcases c with c | c | c
    · exact .inl ⟨_, _, rfl, rfl, .inl c, hq⟩
    · exact .inl ⟨_, _, rfl, rfl, .inr c, hq⟩
    · exact .inr (.inl ⟨_, _, rfl, rfl, c, hq⟩)
  · cases ry
    cases rx with
    | tup s r =>
    obtain ⟨h1, h2, h3, h4, h⟩ := h
    exact .inr (.inr (.inl ⟨_, _, _, rfl, rfl, s, SqT.nonnil r h1, h2, h3, by rw [← r.length]; exact h4, fun p n => outT_ok g (r.flat _) q h n⟩))
  · cases ry
    obtain ⟨xs, e1, ⟨h1, h2, h3⟩, h⟩ := h
    obtain ⟨a, vs, ea, s, r⟩ := mq_ok g rx e1
    exact .inr (.inr (.inr ⟨_, _, _, ea, rfl, s, h1, h2, by rw [← r.length]; exact h3, fun p n => outL_ok m g (r.flat _) q h n⟩))
  · exact h.elim
/-! ### comparisons of ints -/
def lt3 : Q2 := fun x y G Q => match x, y with
  | .int i, .int j => Q (.bl (decide (i < j))) G
  | _, _ => False
def le3 : Q2 := fun x y G Q => match x, y with
  | .int i, .int j => Q (.bl (decide (i ≤ j))) G
  | _, _ => False
theorem o_lt : OpR3 X Z (compareOp .Lt) lt3 := by
  refine ⟨_, op_lt, fun G H x y v u Q3 Q g rx ry h q => ?_⟩
  unfold lt3 at h
  split at h
  · cases rx; cases ry
    exact ⟨_, _, rfl, rfl, q_of q g h (.bl _)⟩
  · exact h.elim
theorem o_le : OpR3 X Z (compareOp .LtE) le3 := by
  refine ⟨_, op_le, fun G H x y v u Q3 Q g rx ry h q => ?_⟩
  unfold le3 at h
  split at h
  · cases rx; cases ry
    exact ⟨_, _, rfl, rfl, q_of q g h (.bl _)⟩
  · exact h.elim
def gt3 : Q2 := fun x y => lt3 y x
def ge3 : Q2 := fun x y => le3 y x
theorem o_gt : OpR3 X Z (compareOp .Gt) gt3 := by
  refine ⟨_, op_gt, fun G H x y v u Q3 Q g rx ry h q => ?_⟩
  unfold gt3 lt3 at h
  split at h
  · cases rx; cases ry
    exact ⟨_, _, rfl, rfl, q_of q g h (.bl _)⟩
  · exact h.elim
theorem o_ge : OpR3 X Z (compareOp .GtE) ge3 := by
  refine ⟨_, op_ge, fun G H x y v u Q3 Q g rx ry h q => ?_⟩
  unfold ge3 le3 at h
  split at h
  · cases rx; cases ry
    exact ⟨_, _, rfl, rfl, q_of q g h (.bl _)⟩
  · exact h.elim
end
end L3
namespace L3
open PySem PySem.Spec PyProof.Rows L2
open He (ga)
/-! ### texts by their letters -/
theorem ofString_inj {a b : String} : (Str.ofString a = Str.ofString b) ↔ a = b := by
  constructor
  · intro h
    have h1 := congrArg (fun z : Str => z.cps.toList) h
    have e : ∀ s : String, (Str.ofString s).cps.toList = s.toList.map Char.toNat := fun s => by
      show (cpsOfBytes 0 0 s.toByteArray.data.toList).toArray.toList = _
      rw [List.toList_toArray, cpsOfBytes_string]
    simp only [e] at h1
    have inj : ∀ l m : List Char, l.map Char.toNat = m.map Char.toNat → l = m := by
      intro l
      induction l with
      | nil => intro m h; cases m with
        | nil => rfl
        | cons _ _ => cases h
      | cons c l ih => intro m h; cases m with
        | nil => cases h
        | cons d m =>
          injection h with h1 h2
          have : c = d := Char.toNat_inj.mp h1
          rw [this, ih m h2]
    have h2 := inj _ _ h1
    have := congrArg String.ofList h2
    simpa using this
  · intro h; rw [h]
/-! ### equality -/
mutual
def eqD : D → D → Bool
  | .non, .non => true
  | .bl a, .bl b => a == b
  | .bl a, .int j => (if a then 1 else 0) == j
  | .int i, .bl b => i == (if b then 1 else 0)
  | .int i, .int j => i == j
  | .str x, .str y => x == y
  | .tup xs, .tup ys => eqL xs ys
  | .fl xs, .fl ys => eqL xs ys
  | .fl xs, .sl ys => eqL xs ys
  | .sl xs, .fl ys => eqL xs ys
  | .sl xs, .sl ys => eqL xs ys
  | _, _ => false
def eqL : List D → List D → Bool
  | [], [] => true
  | x :: xs, y :: ys => eqD x y && eqL xs ys
  | _, _ => false
end
mutual
def sh : Nat → D → Bool
  | _, .non => true
  | _, .bl _ => true
  | _, .int _ => true
  | _, .str x => PyData.strOk x
  | n + 1, .tup xs => shL n xs
  | n + 1, .fl xs => shL n xs
  | n + 1, .sl xs => shL n xs
  | _, _ => false
def shL : Nat → List D → Bool
  | _, [] => true
  | n, x :: xs => sh n x && shL n xs
end
mutual
def py : D → PyData
  | .non => .none
  | .bl b => .bool b
  | .int i => .int i
  | .str x => .str x
  | .tup xs => .tuple (pyL xs)
  | .fl xs => .list (pyL xs)
  | .sl xs => .list (pyL xs)
  | _ => .none
def pyL : List D → List PyData
  | [] => []
  | x :: xs => py x :: pyL xs
end
mutual
theorem sh_lay : ∀ (n : Nat) (d : D), sh n d = true → (py d).canLay0 = true ∧ (py d).depth ≤ n
  | _, .non, _ => by simp [py, PyData.canLay0, PyData.depth]
  | _, .bl _, _ => by simp [py, PyData.canLay0, PyData.depth]
  | _, .int _, _ => by simp [py, PyData.canLay0, PyData.depth]
  | _, .str x, h => by
    have h : PyData.strOk x = true := by simpa [sh] using h
    simp [py, PyData.canLay0, PyData.depth, h]
  | n + 1, .tup xs, h => by
    have := shL_lay n xs (by simpa [sh] using h)
    simp only [py, PyData.canLay0, PyData.depth]
    exact ⟨this.1, by omega⟩
  | n + 1, .fl xs, h => by
    have := shL_lay n xs (by simpa [sh] using h)
    simp only [py, PyData.canLay0, PyData.depth]
    exact ⟨this.1, by omega⟩
  | n + 1, .sl xs, h => by
    have := shL_lay n xs (by simpa [sh] using h)
    simp only [py, PyData.canLay0, PyData.depth]
    exact ⟨this.1, by omega⟩
  | 0, .tup xs, h => by simp [sh] at h
  | 0, .fl xs, h => by simp [sh] at h
  | 0, .sl xs, h => by simp [sh] at h
  | _, .ob _ _ _, h => by simp [sh] at h
  | _, .emp, h => by simp [sh] at h
  | _, .ref _, h => by simp [sh] at h
  | _, .ex _, h => by simp [sh] at h
  | _, .exf _ _ _, h => by simp [sh] at h
theorem shL_lay : ∀ (n : Nat) (d : List D), shL n d = true → PyData.canLayAll0 (pyL d) = true ∧ PyData.depthAll (pyL d) ≤ n
  | _, [], _ => by simp [pyL, PyData.canLayAll0, PyData.depthAll]
  | n, x :: xs, h => by
    simp only [shL, Bool.and_eq_true] at h
    have h1 := sh_lay n x h.1
    have h2 := shL_lay n xs h.2
    simp only [pyL, PyData.canLayAll0, PyData.depthAll, h1.1, h2.1, Bool.and_true, true_and]
    omega
end
theorem sh_shaped {d : D} (h : sh 64 d = true) : SeqAt.shaped (py d) = true := by
  have := sh_lay 64 d h
  unfold SeqAt.shaped
  rw [this.1, decide_eq_true this.2]; rfl
mutual
theorem eqv_py : ∀ (n : Nat) (d e : D), sh n d = true → sh n e = true → PyData.eqv (py d) (py e) = eqD d e
  | n, d, e, hd, he => by
    cases d with
    | ob _ _ _ => cases n <;> simp [sh] at hd
    | emp => cases n <;> simp [sh] at hd
    | ref _ => cases n <;> simp [sh] at hd
    | ex _ => cases n <;> simp [sh] at hd
    | exf _ _ _ => cases n <;> simp [sh] at hd
    | tup xs =>
      cases n with
      | zero => simp [sh] at hd
      | succ n =>
        cases e with
        | tup ys => simp only [py, PyData.eqv, eqD]; exact eqv_pyL n xs ys (by simpa [sh] using hd) (by simpa [sh] using he)
        | ob _ _ _ => simp [sh] at he
        | emp => simp [sh] at he
        | ref _ => simp [sh] at he
        | ex _ => simp [sh] at he
        | exf _ _ _ => simp [sh] at he
        | _ => simp [py, PyData.eqv, eqD]
    | fl xs =>
      cases n with
      | zero => simp [sh] at hd
      | succ n =>
        cases e with
        | fl ys => simp only [py, PyData.eqv, eqD]; exact eqv_pyL n xs ys (by simpa [sh] using hd) (by simpa [sh] using he)
        | sl ys => simp only [py, PyData.eqv, eqD]; exact eqv_pyL n xs ys (by simpa [sh] using hd) (by simpa [sh] using he)
        | ob _ _ _ => simp [sh] at he
        | emp => simp [sh] at he
        | ref _ => simp [sh] at he
        | ex _ => simp [sh] at he
        | exf _ _ _ => simp [sh] at he
        | _ => simp [py, PyData.eqv, eqD]
    | sl xs =>
      cases n with
      | zero => simp [sh] at hd
      | succ n =>
        cases e with
        | fl ys => simp only [py, PyData.eqv, eqD]; exact eqv_pyL n xs ys (by simpa [sh] using hd) (by simpa [sh] using he)
        | sl ys => simp only [py, PyData.eqv, eqD]; exact eqv_pyL n xs ys (by simpa [sh] using hd) (by simpa [sh] using he)
        | ob _ _ _ => simp [sh] at he
        | emp => simp [sh] at he
        | ref _ => simp [sh] at he
        | ex _ => simp [sh] at he
        | exf _ _ _ => simp [sh] at he
        | _ => simp [py, PyData.eqv, eqD]
    | non => cases e with
      | ob _ _ _ => cases n <;> simp [sh] at he
      | emp => cases n <;> simp [sh] at he
      | ref _ => cases n <;> simp [sh] at he
      | ex _ => cases n <;> simp [sh] at he
      | exf _ _ _ => cases n <;> simp [sh] at he
      | _ => simp [py, PyData.eqv, eqD]
    | bl b => cases e with
      | ob _ _ _ => cases n <;> simp [sh] at he
      | emp => cases n <;> simp [sh] at he
      | ref _ => cases n <;> simp [sh] at he
      | ex _ => cases n <;> simp [sh] at he
      | exf _ _ _ => cases n <;> simp [sh] at he
      | _ => simp [py, PyData.eqv, eqD]
    | int b => cases e with
      | ob _ _ _ => cases n <;> simp [sh] at he
      | emp => cases n <;> simp [sh] at he
      | ref _ => cases n <;> simp [sh] at he
      | ex _ => cases n <;> simp [sh] at he
      | exf _ _ _ => cases n <;> simp [sh] at he
      | _ => simp [py, PyData.eqv, eqD]
    | str b => cases e with
      | ob _ _ _ => cases n <;> simp [sh] at he
      | emp => cases n <;> simp [sh] at he
      | ref _ => cases n <;> simp [sh] at he
      | ex _ => cases n <;> simp [sh] at he
      | exf _ _ _ => cases n <;> simp [sh] at he
      | _ => simp [py, PyData.eqv, eqD]
theorem eqv_pyL : ∀ (n : Nat) (d e : List D), shL n d = true → shL n e = true → PyData.eqvAll (pyL d) (pyL e) = eqL d e
  | _, [], [], _, _ => by simp [pyL, PyData.eqvAll, eqL]
  | _, [], _ :: _, _, _ => by simp [pyL, PyData.eqvAll, eqL]
  | _, _ :: _, [], _, _ => by simp [pyL, PyData.eqvAll, eqL]
  | n, x :: xs, y :: ys, hd, he => by
    simp only [shL, Bool.and_eq_true] at hd he
    simp only [pyL, PyData.eqvAll, eqL]
    rw [eqv_py n x y hd.1 he.1, eqv_pyL n xs ys hd.2 he.2]
end
section
variable {K : K3} {G : Gp} {H : Hp}
mutual
theorem Dv.dp : ∀ {d : D} {v : V} {n : Nat}, Dv K G H d v → sh n d = true → Dp K.f H v (py d)
  | _, _, _, .non, _ => by simp only [py]; exact .non
  | _, _, _, .bl b, _ => by simp only [py]; exact .bl b
  | _, _, _, .int b, _ => by simp only [py]; exact .int b
  | _, _, _, .str b, _ => by simp only [py]; exact .str b
  | _, _, 0, .tup s r, h => by simp [sh] at h
  | _, _, n + 1, .tup s r, h => by simp only [py]; exact .tup s (DvL.dp r (n := n) (by simpa [sh] using h))
  | _, _, 0, .fl s n r, h => by simp [sh] at h
  | _, _, n + 1, .fl s _ r, h => by simp only [py]; exact .lst (SqL.of s) (DvL.dp r (n := n) (by simpa [sh] using h))
  | _, _, 0, .sl s r, h => by simp [sh] at h
  | _, _, n + 1, .sl s r, h => by simp only [py]; exact .lst s.sql (DvL.dp r (n := n) (by simpa [sh] using h))
  | _, _, n, .ob _ _ _ _, h => by cases n <;> simp [sh] at h
  | _, _, n, .emp _ _, h => by cases n <;> simp [sh] at h
  | _, _, n, .ref _, h => by cases n <;> simp [sh] at h
  | _, _, n, .ex _, h => by cases n <;> simp [sh] at h
  | _, _, n, .exf _ _ _ _, h => by cases n <;> simp [sh] at h
theorem DvL.dp : ∀ {d : List D} {v : List V} {n : Nat}, DvL K G H d v → shL n d = true → DpAll K.f H v (pyL d)
  | _, _, _, .nil, _ => by simp only [pyL]; exact .nil
  | _, _, n, .cons r t, h => by
    simp only [shL, Bool.and_eq_true] at h
    simp only [pyL]
    exact .cons (Dv.dp r h.1) (DvL.dp t h.2)
end
end
/-- scalars that == tells apart without a condition -/
def scD : D → D → Bool
  | .non, .non => true | .non, .int _ => true | .int _, .non => true | .non, .bl _ => true | .bl _, .non => true | .non, .str _ => true | .str _, .non => true
  | .int _, .int _ => true | .bl _, .bl _ => true | .str _, .str _ => true
  | .int _, .str _ => true | .str _, .int _ => true | .bl _, .str _ => true | .str _, .bl _ => true
  | _, _ => false
def eqOk (x y : D) : Bool := scD x y || (sh 64 x && sh 64 y)
def eq3 : Q2 := fun x y G Q => eqOk x y = true ∧ Q (.bl (eqD x y)) G
def ne3 : Q2 := fun x y G Q => eqOk x y = true ∧ Q (.bl (!eqD x y)) G
section
variable {K : K3} {G : Gp} {H : Hp}
theorem scal_of {x y : D} {v u : V} (rx : Dv K G H x v) (ry : Dv K G H y u) (h : scD x y = true) : scal v u = true ∧ decide (v = u) = eqD x y := by
  cases rx <;> cases ry <;> first | (simp [scD] at h; done) | (constructor <;> simp [scal, eqD] <;> rfl) | (constructor <;> simp [scal, eqD])
variable {X : Cx} {Z : Zx}
theorem o_eq {k : Nat} (hr : Room k X.A) : OpR3 X Z (compareOp .Eq) eq3 := by
  refine ⟨_, op_eq.or (op_eqD hr.units), fun G H x y v u Q3 Q g rx ry h q => ?_⟩
  obtain ⟨c, h⟩ := h
  cases e : scD x y with
  | true =>
    obtain ⟨h1, h2⟩ := scal_of rx ry e
    exact .inl ⟨h1, by rw [h2]; exact q_of q g h (.bl _)⟩
  | false =>
    unfold eqOk at c
    rw [e, Bool.false_or, Bool.and_eq_true] at c
    refine .inr ⟨_, _, rx.dp c.1, ry.dp c.2, sh_shaped c.1, sh_shaped c.2, ?_⟩
    rw [eqv_py 64 x y c.1 c.2]
    exact q_of q g h (.bl _)
theorem o_ne {k : Nat} (hr : Room k X.A) : OpR3 X Z (compareOp .NotEq) ne3 := by
  refine ⟨_, op_ne.or (op_neD hr.units), fun G H x y v u Q3 Q g rx ry h q => ?_⟩
  obtain ⟨c, h⟩ := h
  cases e : scD x y with
  | true =>
    obtain ⟨h1, h2⟩ := scal_of rx ry e
    exact .inl ⟨h1, by rw [h2]; exact q_of q g h (.bl _)⟩
  | false =>
    unfold eqOk at c
    rw [e, Bool.false_or, Bool.and_eq_true] at c
    refine .inr ⟨_, _, rx.dp c.1, ry.dp c.2, sh_shaped c.1, sh_shaped c.2, ?_⟩
    rw [eqv_py 64 x y c.1 c.2]
    exact q_of q g h (.bl _)
end
/-! ### is None, is True, is False -/
def isN : D → Bool
  | .non => true
  | _ => false
def isB (b : Bool) : D → Bool
  | .bl c => c == b
  | _ => false
def is3 (neg : Bool) : Q2 := fun x y G Q => match y with
  | .non => Q (.bl (if neg then !isN x else isN x)) G
  | .bl b => Q (.bl (if neg then !isB b x else isB b x)) G
  | _ => False
theorem isn_ok {K : K3} {G : Gp} {H : Hp} {x : D} {v : V} (r : Dv K G H x v) : decide (v = V.non) = isN x := by
  cases r <;> simp [isN]
theorem op_isAny {X : Cx} : OpR X (compareOp .Is) (fun x y H Q => ∃ b : Bool, y = .bl b ∧ Q (.bl (decide (x = .bl b))) H) := by
  intro pins s σ H x y v u Q I rx ry h
  obtain ⟨b, rfl, q⟩ := h
  cases (show u = Value.bool b from ry)
  cases x with
  | bl c =>
    cases (show v = Value.bool c from rx)
    refine wpAny_pure (fin_bl I q ?_)
    cases b <;> cases c <;> rfl
  | int i => obtain ⟨t, rfl⟩ := rx; exact wpAny_pure (fin_bl I q rfl)
  | str i => obtain ⟨t, rfl⟩ := rx; exact wpAny_pure (fin_bl I q rfl)
  | byt i => obtain ⟨t, rfl⟩ := rx; exact wpAny_pure (fin_bl I q rfl)
  | flt i => obtain ⟨t, rfl⟩ := rx; exact wpAny_pure (fin_bl I q rfl)
  | non => cases (show v = Value.none from rx); exact wpAny_pure (fin_bl I q rfl)
  | ref a => cases (show v = Value.ref a from rx); exact wpAny_pure (fin_bl I q rfl)
  | ty a => cases (show v = Value.type a from rx); exact wpAny_pure (fin_bl I q rfl)
theorem op_notAny {X : Cx} : OpR X (compareOp .IsNot) (fun x y H Q => ∃ b : Bool, y = .bl b ∧ Q (.bl (!decide (x = .bl b))) H) := by
  intro pins s σ H x y v u Q I rx ry h
  obtain ⟨b, rfl, q⟩ := h
  cases (show u = Value.bool b from ry)
  cases x with
  | bl c =>
    cases (show v = Value.bool c from rx)
    refine wpAny_pure (fin_bl I q ?_)
    cases b <;> cases c <;> rfl
  | int i => obtain ⟨t, rfl⟩ := rx; exact wpAny_pure (fin_bl I q rfl)
  | str i => obtain ⟨t, rfl⟩ := rx; exact wpAny_pure (fin_bl I q rfl)
  | byt i => obtain ⟨t, rfl⟩ := rx; exact wpAny_pure (fin_bl I q rfl)
  | flt i => obtain ⟨t, rfl⟩ := rx; exact wpAny_pure (fin_bl I q rfl)
  | non => cases (show v = Value.none from rx); exact wpAny_pure (fin_bl I q rfl)
  | ref a => cases (show v = Value.ref a from rx); exact wpAny_pure (fin_bl I q rfl)
  | ty a => cases (show v = Value.type a from rx); exact wpAny_pure (fin_bl I q rfl)
theorem isb_ok {K : K3} {G : Gp} {H : Hp} {x : D} {v : V} {b : Bool} (r : Dv K G H x v) : decide (v = V.bl b) = isB b x := by
  cases r <;> simp [isB] <;> rfl
section
variable {X : Cx} {Z : Zx}
theorem o_is : OpR3 X Z (compareOp .Is) (is3 false) := by
  refine ⟨_, op_isN.or op_isAny, fun G H x y v u Q3 Q g rx ry h q => ?_⟩
  unfold is3 at h
  split at h
  · cases ry
    exact .inl ⟨rfl, by rw [isn_ok rx]; exact q_of q g h (.bl _)⟩
  · cases ry
    exact .inr ⟨_, rfl, by rw [isb_ok rx]; exact q_of q g h (.bl _)⟩
  · exact h.elim
theorem o_isnot : OpR3 X Z (compareOp .IsNot) (is3 true) := by
  refine ⟨_, op_notN.or op_notAny, fun G H x y v u Q3 Q g rx ry h q => ?_⟩
  unfold is3 at h
  split at h
  · cases ry
    exact .inl ⟨rfl, by rw [isn_ok rx]; exact q_of q g h (.bl _)⟩
  · cases ry
    exact .inr ⟨_, rfl, by rw [isb_ok rx]; exact q_of q g h (.bl _)⟩
  · exact h.elim
end
end L3
namespace L3
open PySem PySem.Spec PyProof.Rows L2
open He (ga)
/-! ### x in a sequence of flat things -/
def flD : D → Bool
  | .non => true
  | .bl _ => true
  | .int _ => true
  | .str _ => true
  | _ => false
def inD (x : D) (xs : List D) : Bool := xs.any fun y => eqD y x
def in3 (neg : Bool) : Q2 := fun x y G Q => ∃ xs, sq G y = some xs ∧ flD x = true ∧ xs.all flD = true ∧ Q (.bl (if neg then !inD x xs else inD x xs)) G
section
variable {K : K3} {G : Gp} {H : Hp}
theorem fl_ok {x : D} {v : V} (r : Dv K G H x v) (h : flD x = true) : flatV v = true := by
  cases r <;> first | rfl | (simp [flD] at h)
theorem eqV_ok {x y : D} {v u : V} (rx : Dv K G H x v) (ry : Dv K G H y u) (h : flD x = true) (h' : flD y = true) : eqV v u = eqD x y := by
  cases rx <;> cases ry <;> first | (simp [flD] at h; done) | (simp [flD] at h'; done) | simp [eqV, eqD]
theorem fls_ok : ∀ {xs : List D} {vs : List V}, DvL K G H xs vs → xs.all flD = true → vs.all flatV = true
  | _, _, .nil, _ => rfl
  | _, _, .cons r t, h => by
    rw [List.all_cons, Bool.and_eq_true] at h ⊢
    exact ⟨fl_ok r h.1, fls_ok t h.2⟩
theorem inV_ok {x : D} {v : V} (rx : Dv K G H x v) (h : flD x = true) : ∀ {xs : List D} {vs : List V}, DvL K G H xs vs → xs.all flD = true → inV v vs = inD x xs
  | _, _, .nil, _ => rfl
  | _, _, .cons r t, f => by
    rw [List.all_cons, Bool.and_eq_true] at f
    have ih := inV_ok rx h t f.2
    unfold inV inD at ih ⊢
    rw [List.any_cons, List.any_cons, eqV_ok r rx f.1 h, ih]
variable {X : Cx} {Z : Zx}
theorem o_in : OpR3 X Z (compareOp .In) (in3 false) := by
  refine ⟨_, op_in_seq, fun G H x y v u Q3 Q g rx ry h q => ?_⟩
  obtain ⟨xs, e, fx, fs, h⟩ := h
  obtain ⟨a, vs, ea, s, r⟩ := sq_ok g ry e
  refine ⟨a, vs, ea, s, fl_ok rx fx, fls_ok r fs, ?_⟩
  rw [inV_ok rx fx r fs]
  exact q_of q g h (.bl _)
theorem o_notin : OpR3 X Z (compareOp .NotIn) (in3 true) := by
  refine ⟨_, op_notIn_seq, fun G H x y v u Q3 Q g rx ry h q => ?_⟩
  obtain ⟨xs, e, fx, fs, h⟩ := h
  obtain ⟨a, vs, ea, s, r⟩ := sq_ok g ry e
  refine ⟨a, vs, ea, s, fl_ok rx fx, fls_ok r fs, ?_⟩
  rw [inV_ok rx fx r fs]
  exact q_of q g h (.bl _)
end
/-! ### a < b < c -/
def tch (t t' : Q2) (ta tb tc : TE3) : TE3 := fun σ G Q E => ta σ G (fun x G1 => tb σ G1 (fun y G2 => t x y G2 fun z G3 => ∃ k, z = .bl k ∧ if k = true then tc σ G3 (fun w G4 => t' y w G4 Q) E else Q (.bl false) G3) E) E
section
variable {X : Cx} {Z : Zx} {W : WX} {a b c : Expr} {ta tb tc : TE3} {pos : Pos}
theorem chain_k {r r' : R2} {t t' : Q2} (k : ∀ G H x y v u Q3 Q, GH (Cxk X Z) G H → Dv (Cxk X Z) G H x v → Dv (Cxk X Z) G H y u → t x y G Q3 → Qk (Cxk X Z) G H Q3 Q → r v u H Q)
    (k' : ∀ G H x y v u Q3 Q, GH (Cxk X Z) G H → Dv (Cxk X Z) G H x v → Dv (Cxk X Z) G H y u → t' x y G Q3 → Qk (Cxk X Z) G H Q3 Q → r' v u H Q) (σ : St) (H : Hp) (Q : VK) (h : liftE (Cxk X Z) W (tch t t' ta tb tc) σ H Q) :
    tChain r r' (liftE (Cxk X Z) W ta) (liftE (Cxk X Z) W tb) (liftE (Cxk X Z) W tc) σ H Q := by
  obtain ⟨σ3, G, Q3, E3, g, rs, h, q, x⟩ := h
  refine ⟨σ3, G, _, E3, g, rs, h, fun d1 G1 v1 H1 h1 g1 r1 k1 => ?_, x⟩
  refine ⟨σ3, G1, _, E3, g1, rs.keep g k1, h1, fun d2 G2 v2 H2 h2 g2 r2 k2 => ?_, x.keep k1⟩
  refine k G2 H2 d1 d2 v1 v2 _ _ g2 (r1.keep g1 k2) r2 h2 fun d3 G3 v3 H3 h3 g3 r3 k3 => ?_
  obtain ⟨b, e, h3⟩ := h3
  subst e
  cases r3
  refine ⟨b, rfl, ?_⟩
  cases b with
  | true =>
    rw [if_pos rfl] at h3 ⊢
    refine ⟨σ3, G3, _, E3, g3, ((rs.keep g k1).keep g1 k2).keep g2 k3, h3, fun d4 G4 v4 H4 h4 g4 r4 k4 => ?_, x.keep ((k1.trans k2).trans k3)⟩
    exact k' G4 H4 d2 d4 v2 v4 Q3 Q g4 ((r2.keep g2 k3).keep g3 k4) r4 h4 (q.keep (((k1.trans k2).trans k3).trans k4))
  | false =>
    rw [if_neg Bool.false_ne_true] at h3 ⊢
    exact q _ _ _ _ h3 g3 (.bl false) ((k1.trans k2).trans k3)
theorem ch_ {op op' : CmpOp} {t t' : Q2} (ho : OpR3 X Z (compareOp op) t) (ho' : OpR3 X Z (compareOp op') t') (ha : PE3 X Z W a ta) (hb : PE3 X Z W b tb) (hc : PE3 X Z W c tc)
    (hm : lastMarks [op, op'] [b, c] = false := by with_unfolding_all rfl) : PE3 X Z W (.Compare a [op, op'] [b, c] pos) (tch t t' ta tb tc) := by
  obtain ⟨r, h, k⟩ := ho
  obtain ⟨r', h', k'⟩ := ho'
  exact PE.imp (pe_chain h h' ha hb hc hm) (chain_k k k')
theorem tch_ {op op' : CmpOp} {t t' : Q2} (ho : OpR3 X Z (compareOp op) t) (ho' : OpR3 X Z (compareOp op') t') (ha : PE3 X Z W a ta) (hb : PE3 X Z W b tb) (hc : PE3 X Z W c tc)
    (hm : lastMarks [op, op'] [b, c] = false := by with_unfolding_all rfl) : PT3 X Z W (.Compare a [op, op'] [b, c] pos) (tb3 (tch t t' ta tb tc)) := by
  obtain ⟨r, h, k⟩ := ho
  obtain ⟨r', h', k'⟩ := ho'
  refine PT.imp (pt_chain h h' ha hb hc hm) fun σ H Q hq => chain_k (W := W) k k' σ H (fun x H' => ∃ k, x = .bl k ∧ Q k H') ?_
  obtain ⟨σ3, G, Q3, E3, g, rs, h, q, x⟩ := hq
  refine ⟨σ3, G, _, E3, g, rs, h, fun d G1 v H1 ⟨b, e, h1⟩ g1 r1 k1 => ?_, x⟩
  subst e
  cases r1
  exact ⟨b, rfl, q b G1 H1 h1 g1 k1⟩
end
/-! ### and, or, not; if -/
def tand (ta tb : TE3) : TE3 := fun σ G Q E => ta σ G (fun x G1 => ∃ c, x = .bl c ∧ if c = true then tb σ G1 Q E else Q (.bl false) G1) E
def tor (ta tb : TE3) : TE3 := fun σ G Q E => ta σ G (fun x G1 => ∃ c, x = .bl c ∧ if c = true then Q (.bl true) G1 else tb σ G1 Q E) E
def tnot (ta : TE3) : TE3 := fun σ G Q E => ta σ G (fun x G1 => ∃ c, x = .bl c ∧ Q (.bl (!c)) G1) E
def tif (tc : TT3) (ta tb : TE3) : TE3 := fun σ G Q E => tc σ G (fun c G1 => if c = true then ta σ G1 Q E else tb σ G1 Q E) E
def Tand (ta tb : TT3) : TT3 := fun σ G Q E => ta σ G (fun c G1 => if c = true then tb σ G1 Q E else Q false G1) E
def Tor (ta tb : TT3) : TT3 := fun σ G Q E => ta σ G (fun c G1 => if c = true then Q true G1 else tb σ G1 Q E) E
def Tnot (ta : TT3) : TT3 := fun σ G Q E => ta σ G (fun c G1 => Q (!c) G1) E
section
variable {X : Cx} {Z : Zx} {W : WX} {a b c : Expr} {rest : List Expr} {ta tb : TE3} {tc td : TT3} {pos : Pos}
theorem one_ {op} {t : TE3} (h : PE3 X Z W a t) : PE3 X Z W (.BoolOp op [a] pos) t := pe_one h
theorem and_ (ha : PE3 X Z W a ta) (hb : PE3 X Z W (.BoolOp .And (b :: rest) pos) tb) : PE3 X Z W (.BoolOp .And (a :: b :: rest) pos) (tand ta tb) := PE.imp (pe_and ha hb) fun σ H Q h => by
  obtain ⟨σ3, G, Q3, E3, g, rs, h, q, x⟩ := h
  refine ⟨σ3, G, _, E3, g, rs, h, fun d1 G1 v1 H1 ⟨c, e, h1⟩ g1 r1 k1 => ?_, x⟩
  subst e
  cases r1
  refine ⟨c, rfl, ?_⟩
  cases c with
  | true => exact ⟨σ3, G1, Q3, E3, g1, rs.keep g k1, h1, q.keep k1, x.keep k1⟩
  | false => exact q _ _ _ _ h1 g1 (.bl false) k1
theorem or_ (ha : PE3 X Z W a ta) (hb : PE3 X Z W (.BoolOp .Or (b :: rest) pos) tb) : PE3 X Z W (.BoolOp .Or (a :: b :: rest) pos) (tor ta tb) := PE.imp (pe_or ha hb) fun σ H Q h => by
  obtain ⟨σ3, G, Q3, E3, g, rs, h, q, x⟩ := h
  refine ⟨σ3, G, _, E3, g, rs, h, fun d1 G1 v1 H1 ⟨c, e, h1⟩ g1 r1 k1 => ?_, x⟩
  subst e
  cases r1
  refine ⟨c, rfl, ?_⟩
  cases c with
  | false => exact ⟨σ3, G1, Q3, E3, g1, rs.keep g k1, h1, q.keep k1, x.keep k1⟩
  | true => exact q _ _ _ _ h1 g1 (.bl true) k1
theorem not_ (ha : PE3 X Z W a ta) : PE3 X Z W (.UnaryOp .Not a pos) (tnot ta) := PE.imp (pe_not ha) fun σ H Q h => by
  obtain ⟨σ3, G, Q3, E3, g, rs, h, q, x⟩ := h
  refine ⟨σ3, G, _, E3, g, rs, h, fun d1 G1 v1 H1 ⟨c, e, h1⟩ g1 r1 k1 => ?_, x⟩
  subst e
  cases r1
  exact ⟨c, rfl, q _ _ _ _ h1 g1 (.bl _) k1⟩
/-- an expression whose value is a bool, as a test -/
theorem tv_ {e : Expr} {t : TE3} (h : PE3 X Z W e t) (he : ∀ whole, isTrue e X.env whole = (do let v ← whole; standAt e.pos; holding [v] (truthy v)) := by intro _; rfl) : PT3 X Z W e (tb3 t) := PT.imp (pt_val h he) fun σ H Q h => by
  obtain ⟨σ3, G, Q3, E3, g, rs, h, q, x⟩ := h
  refine ⟨σ3, G, _, E3, g, rs, h, fun d1 G1 v1 H1 ⟨c, e, h1⟩ g1 r1 k1 => ?_, x⟩
  subst e
  cases r1
  exact ⟨c, rfl, q _ _ _ h1 g1 k1⟩
theorem w1and_ (ha : PT3 X Z W a tc) : PW3 X Z W (.BoolOp .And [a] pos) tc := pw_and1 ha
theorem w1or_ (ha : PT3 X Z W a tc) : PW3 X Z W (.BoolOp .Or [a] pos) tc := pw_or1 ha
theorem wand_ (ha : PT3 X Z W a tc) (hb : PW3 X Z W (.BoolOp .And (b :: rest) pos) td) : PW3 X Z W (.BoolOp .And (a :: b :: rest) pos) (Tand tc td) := PW.imp (pw_and ha hb) fun σ H Q h => by
  obtain ⟨σ3, G, Q3, E3, g, rs, h, q, x⟩ := h
  refine ⟨σ3, G, _, E3, g, rs, h, fun c G1 H1 h1 g1 k1 => ?_, x⟩
  cases c with
  | true => exact ⟨σ3, G1, Q3, E3, g1, rs.keep g k1, h1, q.keep k1, x.keep k1⟩
  | false => exact q _ _ _ h1 g1 k1
theorem wor_ (ha : PT3 X Z W a tc) (hb : PW3 X Z W (.BoolOp .Or (b :: rest) pos) td) : PW3 X Z W (.BoolOp .Or (a :: b :: rest) pos) (Tor tc td) := PW.imp (pw_or ha hb) fun σ H Q h => by
  obtain ⟨σ3, G, Q3, E3, g, rs, h, q, x⟩ := h
  refine ⟨σ3, G, _, E3, g, rs, h, fun c G1 H1 h1 g1 k1 => ?_, x⟩
  cases c with
  | false => exact ⟨σ3, G1, Q3, E3, g1, rs.keep g k1, h1, q.keep k1, x.keep k1⟩
  | true => exact q _ _ _ h1 g1 k1
theorem tw_ (h : PW3 X Z W a tc) : PT3 X Z W a tc := PW.pt h
theorem tnot_ (ha : PT3 X Z W a tc) : PT3 X Z W (.UnaryOp .Not a pos) (Tnot tc) := PT.imp (pt_not ha) fun σ H Q h => by
  obtain ⟨σ3, G, Q3, E3, g, rs, h, q, x⟩ := h
  exact ⟨σ3, G, _, E3, g, rs, h, fun c G1 H1 h1 g1 k1 => q _ _ _ h1 g1 k1, x⟩
theorem if_ (hc : PT3 X Z W c tc) (ha : PE3 X Z W a ta) (hb : PE3 X Z W b tb) : PE3 X Z W (.IfExp c a b pos) (tif tc ta tb) := PE.imp (pe_ifExp hc ha hb) fun σ H Q h => by
  obtain ⟨σ3, G, Q3, E3, g, rs, h, q, x⟩ := h
  refine ⟨σ3, G, _, E3, g, rs, h, fun c G1 H1 h1 g1 k1 => ?_, x⟩
  cases c with
  | true => exact ⟨σ3, G1, Q3, E3, g1, rs.keep g k1, h1, q.keep k1, x.keep k1⟩
  | false => exact ⟨σ3, G1, Q3, E3, g1, rs.keep g k1, h1, q.keep k1, x.keep k1⟩
end
/-! ### lists of expressions; displays -/
def anil : TA3 := fun _ G Q _ => Q [] G
def acons (ta : TE3) (tr : TA3) : TA3 := fun σ G Q E => ta σ G (fun x G1 => tr σ G1 (fun xs G2 => Q (x :: xs) G2) E) E
def ttup (t : TA3) : TE3 := fun σ G Q E => t σ G (fun xs G1 => xs.length ≤ sizeLine ∧ Q (.tup xs) G1) E
def tlst (m : Bool) (t : TA3) : TE3 := fun σ G Q E => t σ G (fun xs G1 => xs.length ≤ sizeLine ∧ outL m xs G1 Q) E
section
variable {X : Cx} {Z : Zx} {W : WX} {e : Expr} {es : List Expr} {te : TE3} {t : TA3} {pos : Pos}
theorem nil_ : PA3 X Z W [] anil := PA.imp pa_nil fun σ H Q h => by
  obtain ⟨σ3, G, Q3, E3, g, rs, h, q, x⟩ := h
  exact q _ _ _ _ h g .nil Keep.refl
theorem cons_ (ha : PE3 X Z W e te) (hr : PA3 X Z W es t) (hs : starEach (e :: es) X.env = (false, eval e X.env) :: starEach es X.env := by rfl) : PA3 X Z W (e :: es) (acons te t) := PA.imp (pa_cons ha hr hs) fun σ H Q h => by
  obtain ⟨σ3, G, Q3, E3, g, rs, h, q, x⟩ := h
  refine ⟨σ3, G, _, E3, g, rs, h, fun d1 G1 v1 H1 h1 g1 r1 k1 => ?_, x⟩
  refine ⟨σ3, G1, _, E3, g1, rs.keep g k1, h1, fun ds G2 vs H2 h2 g2 r2 k2 => ?_, x.keep k1⟩
  exact q _ _ _ _ h2 g2 (.cons (r1.keep g1 k2) r2) (k1.trans k2)
theorem tup_ {x1} (h : PA3 X Z W es t) : PE3 X Z W (.Tuple es x1 pos) (ttup t) := PE.imp (pe_tup h) fun σ H Q h => by
  obtain ⟨σ3, G, Q3, E3, g, rs, h, q, x⟩ := h
  refine ⟨σ3, G, _, E3, g, rs, h, fun ds G1 vs H1 ⟨l, h1⟩ g1 r1 k1 => ⟨by rw [← r1.length]; exact l, fun p n => outT_ok g1 r1 (q.keep k1) h1 n⟩, x⟩
theorem lst_ (m : Bool) (h : PA3 X Z W es t) : PE3 X Z W (.List es pos) (tlst m t) := PE.imp (pe_lst h) fun σ H Q h => by
  obtain ⟨σ3, G, Q3, E3, g, rs, h, q, x⟩ := h
  refine ⟨σ3, G, _, E3, g, rs, h, fun ds G1 vs H1 ⟨l, h1⟩ g1 r1 k1 => ⟨by rw [← r1.length]; exact l, fun p n => outL_ok m g1 r1 (q.keep k1) h1 n⟩, x⟩
end
/-! ### items, slices -/
/-- o[i] of a list, a tuple, a text -/
def ix3 : Q2 := fun x y G Q => match x, y with
  | .str z, .int i => z.length ≤ sizeLine ∧ ∃ c, atI z.cps.toList i = some c ∧ Q (.str ⟨#[c]⟩) G
  | x, .int i => ∃ xs d, sq G x = some xs ∧ atI xs i = some d ∧ Q d G
  | _, _ => False
theorem atI_ok {K : K3} {G : Gp} {H : Hp} {xs : List D} {vs : List V} {i : Int} {d : D} (r : DvL K G H xs vs) (h : atI xs i = some d) : ∃ v, atI vs i = some v ∧ Dv K G H d v := by
  unfold atI at h ⊢
  rw [← r.length]
  cases e : ixN xs.length i with
  | none => rw [e] at h; cases h
  | some j =>
    rw [e] at h
    obtain ⟨v, h1, h2⟩ := r.get (show xs[j]? = some d from h)
    exact ⟨v, h1, h2⟩
theorem DvL.cutV {K : K3} {G : Gp} {H : Hp} {xs : List D} {vs : List V} (r : DvL K G H xs vs) (lo hi : Option Int) : DvL K G H ((xs.drop (HT.sIx xs.length 0 lo)).take (HT.sIx xs.length xs.length hi - HT.sIx xs.length 0 lo)) (L2.cutV vs lo hi) := by
  unfold L2.cutV
  rw [← r.length]
  exact (r.drop _).take _
def cutD {α : Type} (xs : List α) (lo hi : Option Int) : List α := (xs.drop (HT.sIx xs.length 0 lo)).take (HT.sIx xs.length xs.length hi - HT.sIx xs.length 0 lo)
section
variable {X : Cx} {Z : Zx} {W : WX} {a b : Expr} {ta tb : TE3} {pos : Pos}
theorem ix_ (ha : PE3 X Z W a ta) (hb : PE3 X Z W b tb) (hs : PlainIx b) : PE3 X Z W (.Subscript a b pos) (t2 ix3 ta tb) := by
  refine PE.imp (pe_ix ix_seq ha hb hs) (two_ fun G H x y v u Q3 Q g rx ry h q => ?_)
  unfold ix3 at h
  split at h
  · cases rx; cases ry
    obtain ⟨l, c, e, h⟩ := h
    exact .inr (.inr ⟨_, _, c, rfl, rfl, l, e, q_of q g h (.str _)⟩)
  · cases ry
    obtain ⟨xs, d, e, e2, h⟩ := h
    obtain ⟨p, vs, ep, s, r⟩ := sq_ok g rx e
    obtain ⟨w, h1, h2⟩ := atI_ok r e2
    rcases s with s | s
    · exact .inl ⟨p, vs, _, w, ep, rfl, s, h1, q_of q g h h2⟩
    · exact .inr (.inl ⟨p, vs, _, w, ep, rfl, s, h1, q_of q g h h2⟩)
  · exact h.elim
/-- parts of a slice -/
abbrev TO3 := St3 → Gp → (Option Int → Gp → Prop) → EK → Prop
def liftO (K : K3) (W : WX) (t : TO3) : TO := fun σ H Q => ∃ σ3 G Q3 E3, GH K G H ∧ Rs K G H σ3 σ ∧ t σ3 G Q3 E3 ∧ (∀ o G' H', Q3 o G' → GH K G' H' → Keep G H G' H' → Q o H') ∧ Xk K G H E3 (fun c d H' => W c d σ H')
def PO3 (X : Cx) (Z : Zx) (W : WX) (e : Option Expr) (t : TO3) : Prop := PO X e (liftO (Cxk X Z) W t)
theorem PO.imp {e : Option Expr} {t u : TO} (h : PO X e t) (k : ∀ σ H Q, u σ H Q → t σ H Q) : PO X e u := by
  cases h with
  | mk run => exact ⟨fun pins s σ H Q I q => run pins s σ H Q I (k _ _ _ q)⟩
def onone : TO3 := fun _ G Q _ => Q none G
def osome (t : TE3) : TO3 := fun σ G Q E => t σ G (fun x G1 => ∃ i, x = .int i ∧ Q (some i) G1) E
theorem on_ : PO3 X Z W none onone := PO.imp po_none fun σ H Q h => by
  obtain ⟨σ3, G, Q3, E3, g, rs, h, q, x⟩ := h
  exact q _ _ _ h g Keep.refl
theorem os_ (h : PE3 X Z W a ta) : PO3 X Z W (some a) (osome ta) := PO.imp (po_some h) fun σ H Q h => by
  obtain ⟨σ3, G, Q3, E3, g, rs, h, q, x⟩ := h
  refine ⟨σ3, G, _, E3, g, rs, h, fun d1 G1 v1 H1 ⟨i, e, h1⟩ g1 r1 k1 => ?_, x⟩
  subst e
  cases r1
  exact ⟨i, rfl, q _ _ _ h1 g1 k1⟩
/-- x[lo:hi] of a tuple, a list -/
def sl3 (m : Bool) (x : D) (lo hi : Option Int) (G : Gp) (Q : QK) : Prop := match x with
  | .tup xs => Q (.tup (cutD xs lo hi)) G
  | .str z => z.length ≤ sizeLine ∧ Q (.str (cutS z lo hi)) G
  | x => ∃ xs, lq G x = some xs ∧ outL m (cutD xs lo hi) G Q
def tsl (m : Bool) (te : TE3) (tl th : TO3) : TE3 := fun σ G Q E => te σ G (fun x G1 => tl σ G1 (fun lo G2 => th σ G2 (fun hi G3 => sl3 m x lo hi G3 Q) E) E) E
theorem cut_whole {α : Type} {xs : List α} {lo hi : Option Int} (h : HT.sIx xs.length 0 lo = 0 ∧ HT.sIx xs.length xs.length hi = xs.length) : cutD xs lo hi = xs := by
  unfold cutD
  rw [h.1, h.2, List.drop_zero, Nat.sub_zero, List.take_length]
theorem sl_ (m : Bool) {lo hi : Option Expr} {tl th : TO3} {p2 : Pos} (ha : PE3 X Z W a ta) (hl : PO3 X Z W lo tl) (hh : PO3 X Z W hi th) : PE3 X Z W (.Subscript a (.Slice lo hi none p2) pos) (tsl m ta tl th) := by
  refine PE.imp (pe_slice (sl_tupA.or (sl_list.or sl_str)) ha hl hh) fun σ H Q h => ?_
  obtain ⟨σ3, G, Q3, E3, g, rs, h, q, x⟩ := h
  refine ⟨σ3, G, _, E3, g, rs, h, fun d1 G1 v1 H1 h1 g1 r1 k1 => ?_, x⟩
  refine ⟨σ3, G1, _, E3, g1, rs.keep g k1, h1, fun lo' G2 H2 h2 g2 k2 => ?_, x.keep k1⟩
  refine ⟨σ3, G2, _, E3, g2, (rs.keep g k1).keep g1 k2, h2, fun hi' G3 H3 h3 g3 k3 => ?_, x.keep (k1.trans k2)⟩
  have r3 := (r1.keep g1 k2).keep g2 k3
  have q3 := q.keep ((k1.trans k2).trans k3)
  clear h1 h2 r1
  unfold sl3 at h3
  split at h3
  · cases r3 with
    | tup s r =>
    rename_i xs a vs
    refine .inl ⟨a, vs, rfl, s, fun hw => ?_, fun hw p n => outT_ok g3 (r.cutV _ _) q3 h3 n⟩
    rw [← r.length] at hw
    rw [cut_whole hw] at h3
    exact q_of q3 g3 h3 (.tup s r)
  · cases r3
    exact .inr (.inr ⟨_, rfl, h3.1, q_of q3 g3 h3.2 (.str _)⟩)
  · obtain ⟨xs, e, h3⟩ := h3
    obtain ⟨p, vs, ep, s, r⟩ := lq_ok g3 r3 e
    exact .inr (.inl ⟨p, vs, ep, s, fun p n => outL_ok m g3 (r.cutV _ _) q3 h3 n⟩)
end
end L3
namespace L3
open PySem PySem.Spec PyProof.Rows L2
open He (ga)
/-! ### promises of defs -/
abbrev Sp3 := List D → Gp → QK → EK → Prop
def liftSp (K : K3) (sp : Sp3) : Sp := fun vs H Q E => ∃ ds G Q3 E3, GH K G H ∧ DvL K G H ds vs ∧ sp ds G Q3 E3 ∧ Qk K G H Q3 Q ∧ Xk K G H E3 E
/-- the module's name x is a def that keeps sp, by at most j levels -/
structure Fn3 (P : Program) (w : World) (K : PySem.W.Frag) (mg : Str → Option Value) (base : Heap) (x : Str) (j : Nat) (sp : Sp3) : Prop where
  ex : ∃ (f : Addr) (fd : FuncData) (ps : List Str), mg x = some (.ref f) ∧ PySem.W.keepIn K (.ref f) = true ∧ Binds K fd ps [] ∧ FnOk P w K mg base (L2.CX P w) j f fd ps (liftSp ⟨K, Z0⟩ sp)
def tcall (sp : Sp3) (ta : TA3) : TE3 := fun σ G Q E => ta σ G (fun ds G1 => sp ds G1 Q E) E
section
variable {X : Cx} {Z : Zx} {W : WX} {e : Expr} {es : List Expr} {ta : TA3} {pos p : Pos} {x : Str}
theorem call_k {sp : Sp3} (σ : St) (H : Hp) (Q : VK) (h : liftE (Cxk X Z0) W (tcall sp ta) σ H Q) : tCallS (liftSp (Cxk X Z0) sp) (WE W) (liftA (Cxk X Z0) W ta) σ H Q := by
  obtain ⟨σ3, G, Q3, E3, g, rs, h, q, x⟩ := h
  exact ⟨σ3, G, _, E3, g, rs, h, fun ds G1 vs H1 h1 g1 r1 k1 => ⟨ds, G1, Q3, E3, g1, r1, h1, q.keep k1, x.keep k1⟩, x⟩
theorem call_ {j k : Nat} {sp : Sp3} (F : Fn3 X.prog X.w X.K X.mg X.base x j sp) (hr : Room k X.A) (hj : j ≤ k) (tk : Takes X W) (ha : PA3 X Z0 W (e :: es) ta) (hg : Gl X x := by rfl) (hdb : (x == ("__debug__" : Str)) = false := by decide)
    (he : starEach (e :: es) X.env = (false, eval e X.env) :: starEach es X.env := by rfl) (hpl : (backTo pos (starEach es X.env)).any (·.1) = false := by rfl) : PE3 X Z0 W (.Call (.Name x p) (e :: es) [] pos) (tcall sp ta) := by
  obtain ⟨f, fd, ps, hm, hk, hb, F⟩ := F.ex
  exact PE.imp (pe_callS F (hr.mono hj) hg hm hk hb (fun σ => passAt tk σ) ha hdb he hpl) call_k
end
/-! ### built-in functions, by values -/
abbrev QL := List D → Gp → QK → Prop
def CallR3 (X : Cx) (Z : Zx) (f : Value) (t : QL) : Prop := ∃ r : List V → Hp → VK → Prop, CallR X f r ∧ ∀ G H xs vs Q3 Q, GH (Cxk X Z) G H → DvL (Cxk X Z) G H xs vs → t xs G Q3 → Qk (Cxk X Z) G H Q3 Q → r vs H Q
def tcb (t : QL) (ta : TA3) : TE3 := fun σ G Q E => ta σ G (fun ds G1 => t ds G1 Q) E
section
variable {X : Cx} {Z : Zx} {W : WX} {e : Expr} {es : List Expr} {ta : TA3} {pos p : Pos} {x : Str} {id T : String} {t : QL}
theorem cb_k {r : List V → Hp → VK → Prop} (k : ∀ G H xs vs Q3 Q, GH (Cxk X Z) G H → DvL (Cxk X Z) G H xs vs → t xs G Q3 → Qk (Cxk X Z) G H Q3 Q → r vs H Q) (σ : St) (H : Hp) (Q : VK) (h : liftE (Cxk X Z) W (tcb t ta) σ H Q) : tCB r (liftA (Cxk X Z) W ta) σ H Q := by
  obtain ⟨σ3, G, Q3, E3, g, rs, h, q, x⟩ := h
  exact ⟨σ3, G, _, E3, g, rs, h, fun ds G1 vs H1 h1 g1 r1 k1 => k G1 H1 ds vs Q3 Q g1 r1 h1 (q.keep k1), x⟩
theorem bf_ (hc : CallR3 X Z (.builtin id) t) (hm : X.mg x = none) (hv : bootBuiltins x = some (.builtin id)) (ha : PA3 X Z W (e :: es) ta) (hg : Gl X x := by rfl) (hn : x ≠ "__name__" := by decide) (hdb : (x == ("__debug__" : Str)) = false := by decide)
    (he : starEach (e :: es) X.env = (false, eval e X.env) :: starEach es X.env := by rfl) (hpl : (backTo pos (starEach es X.env)).any (·.1) = false := by rfl) : PE3 X Z W (.Call (.Name x p) (e :: es) [] pos) (tcb t ta) := by
  obtain ⟨r, h, k⟩ := hc
  exact PE.imp (pe_callB h hg hm hv ha hn hdb he hpl) (cb_k k)
theorem bt_ (hc : CallR3 X Z (.type T) t) (hm : X.mg x = none) (hv : bootBuiltins x = some (.type T)) (ha : PA3 X Z W (e :: es) ta) (hg : Gl X x := by rfl) (hn : x ≠ "__name__" := by decide) (hdb : (x == ("__debug__" : Str)) = false := by decide)
    (he : starEach (e :: es) X.env = (false, eval e X.env) :: starEach es X.env := by rfl) (hpl : (backTo pos (starEach es X.env)).any (·.1) = false := by rfl) : PE3 X Z W (.Call (.Name x p) (e :: es) [] pos) (tcb t ta) := by
  obtain ⟨r, h, k⟩ := hc
  exact PE.imp (pe_callTy h hg hm hv ha hn hdb he hpl) (cb_k k)
end
/-! #### len, abs, int, max, min, sum, list, tuple, str -/
def bLen : QL := fun ds G Q => match ds with
  | [.str z] => z.length ≤ sizeLine ∧ Q (.int z.length) G
  | [x] => ∃ xs, sq G x = some xs ∧ Q (.int xs.length) G
  | _ => False
def bAbs : QL := fun ds G Q => match ds with
  | [.int i] => Q (.int (if i < 0 then -i else i)) G
  | _ => False
def bInt : QL := fun ds G Q => match ds with
  | [.int i] => Q (.int i) G
  | [.bl b] => Q (.int (if b then 1 else 0)) G
  | _ => False
def bMax2 : QL := fun ds G Q => match ds with
  | [.int i, .int j] => Q (.int (if j > i then j else i)) G
  | _ => False
def bMin2 : QL := fun ds G Q => match ds with
  | [.int i, .int j] => Q (.int (if j < i then j else i)) G
  | _ => False
/-- the ints of a list -/
def intsD : List D → Option (List Int)
  | [] => some []
  | .int i :: r => (intsD r).map (i :: ·)
  | _ => none
def bSum : QL := fun ds G Q => match ds with
  | [x] => ∃ xs ns, lq G x = some xs ∧ intsD xs = some ns ∧ Q (.int ns.sum) G
  | _ => False
def bMax1 : QL := fun ds G Q => match ds with
  | [x] => ∃ xs ns, lq G x = some xs ∧ intsD xs = some ns ∧ 0 < ns.length ∧ ∀ m', m' ∈ ns → (∀ y, y ∈ ns → y ≤ m') → Q (.int m') G
  | _ => False
def bMin1 : QL := fun ds G Q => match ds with
  | [x] => ∃ xs ns, lq G x = some xs ∧ intsD xs = some ns ∧ 0 < ns.length ∧ ∀ m', m' ∈ ns → (∀ y, y ∈ ns → m' ≤ y) → Q (.int m') G
  | _ => False
def bList (m : Bool) : QL := fun ds G Q => match ds with
  | [x] => ∃ xs, sq G x = some xs ∧ outL m xs G Q
  | _ => False
def bTup : QL := fun ds G Q => match ds with
  | [x] => ∃ xs, sq G x = some xs ∧ Q (.tup xs) G
  | _ => False
def bStr : QL := fun ds G Q => match ds with
  | [.int i] => i.natAbs.log2 < 1920 ∧ Q (.str (toString i)) G
  | _ => False
section
variable {K : K3} {G : Gp} {H : Hp} {X : Cx} {Z : Zx}
theorem ints_ok : ∀ {xs : List D} {vs : List V} {ns : List Int}, DvL K G H xs vs → intsD xs = some ns → vs = ns.map V.int
  | [], _, _, .nil, h => by cases h; rfl
  | .int i :: r, _, ns, .cons (.int _) t, h => by
    simp only [intsD, Option.map_eq_some_iff] at h
    obtain ⟨m, h1, h2⟩ := h
    subst h2
    rw [ints_ok t h1]; rfl
  | .non :: _, _, _, _, h => by simp [intsD] at h
  | .bl _ :: _, _, _, _, h => by simp [intsD] at h
  | .str _ :: _, _, _, _, h => by simp [intsD] at h
  | .tup _ :: _, _, _, _, h => by simp [intsD] at h
  | .fl _ :: _, _, _, _, h => by simp [intsD] at h
  | .sl _ :: _, _, _, _, h => by simp [intsD] at h
  | .ob _ _ _ :: _, _, _, _, h => by simp [intsD] at h
  | .emp :: _, _, _, _, h => by simp [intsD] at h
  | .ref _ :: _, _, _, _, h => by simp [intsD] at h
  | .ex _ :: _, _, _, _, h => by simp [intsD] at h
  | .exf _ _ _ :: _, _, _, _, h => by simp [intsD] at h
theorem b_len : CallR3 X Z (.builtin "len") bLen := by
  refine ⟨_, call_len_str.or call_len_seq, fun G H xs vs Q3 Q g r h q => ?_⟩
  unfold bLen at h
  split at h
  · cases r with
    | cons r1 r2 =>
    cases r1; cases r2
    exact .inl ⟨_, rfl, h.1, q_of q g h.2 (.int _)⟩
  · cases r with
    | cons r1 r2 =>
    cases r2
    obtain ⟨xs, e, h⟩ := h
    obtain ⟨p, vs, ep, s, r⟩ := sq_ok g r1 e
    exact .inr ⟨p, vs, by rw [ep], s, by rw [← r.length]; exact q_of q g h (.int _)⟩
  · exact h.elim
theorem b_abs : CallR3 X Z (.builtin "abs") bAbs := by
  refine ⟨_, call_abs, fun G H xs vs Q3 Q g r h q => ?_⟩
  unfold bAbs at h
  split at h
  · cases r with
    | cons r1 r2 =>
    cases r1; cases r2
    exact ⟨_, rfl, q_of q g h (.int _)⟩
  · exact h.elim
theorem b_int : CallR3 X Z (.type "int") bInt := by
  refine ⟨_, call_int1, fun G H xs vs Q3 Q g r h q => ?_⟩
  unfold bInt at h
  split at h
  · cases r with
    | cons r1 r2 =>
    cases r1; cases r2
    exact .inl ⟨_, rfl, q_of q g h (.int _)⟩
  · cases r with
    | cons r1 r2 =>
    cases r1; cases r2
    exact .inr ⟨_, rfl, q_of q g h (.int _)⟩
  · exact h.elim
theorem b_max2 (hc : X.calm = true) : CallR3 X Z (.builtin "max") bMax2 := by
  refine ⟨_, call_max2 hc, fun G H xs vs Q3 Q g r h q => ?_⟩
  unfold bMax2 at h
  split at h
  · cases r with
    | cons r1 r2 =>
    cases r1
    cases r2 with
    | cons r2 r3 =>
    cases r2; cases r3
    exact ⟨_, _, rfl, q_of q g h (.int _)⟩
  · exact h.elim
theorem b_min2 (hc : X.calm = true) : CallR3 X Z (.builtin "min") bMin2 := by
  refine ⟨_, call_min2 hc, fun G H xs vs Q3 Q g r h q => ?_⟩
  unfold bMin2 at h
  split at h
  · cases r with
    | cons r1 r2 =>
    cases r1
    cases r2 with
    | cons r2 r3 =>
    cases r2; cases r3
    exact ⟨_, _, rfl, q_of q g h (.int _)⟩
  · exact h.elim
theorem b_sum (hc : X.calm = true) : CallR3 X Z (.builtin "sum") bSum := by
  refine ⟨_, cr_sum hc, fun G H xs vs Q3 Q g r h q => ?_⟩
  unfold bSum at h
  split at h
  · cases r with
    | cons r1 r2 =>
    cases r2
    obtain ⟨xs, ns, e, e2, h⟩ := h
    obtain ⟨p, vs, ep, s, r⟩ := lq_ok g r1 e
    exact ⟨p, ns, by rw [ep], by rw [← ints_ok r e2]; exact s, q_of q g h (.int _)⟩
  · exact h.elim
theorem b_max1 (hc : X.calm = true) : CallR3 X Z (.builtin "max") bMax1 := by
  refine ⟨_, cr_max hc, fun G H xs vs Q3 Q g r h q => ?_⟩
  unfold bMax1 at h
  split at h
  · cases r with
    | cons r1 r2 =>
    cases r2
    obtain ⟨xs, ns, e, e2, l, h⟩ := h
    obtain ⟨p, vs, ep, s, r⟩ := lq_ok g r1 e
    exact ⟨p, ns, by rw [ep], by rw [← ints_ok r e2]; exact s, l, fun m' h1 h2 => q_of q g (h m' h1 h2) (.int _)⟩
  · exact h.elim
theorem b_min1 (hc : X.calm = true) : CallR3 X Z (.builtin "min") bMin1 := by
  refine ⟨_, cr_min hc, fun G H xs vs Q3 Q g r h q => ?_⟩
  unfold bMin1 at h
  split at h
  · cases r with
    | cons r1 r2 =>
    cases r2
    obtain ⟨xs, ns, e, e2, l, h⟩ := h
    obtain ⟨p, vs, ep, s, r⟩ := lq_ok g r1 e
    exact ⟨p, ns, by rw [ep], by rw [← ints_ok r e2]; exact s, l, fun m' h1 h2 => q_of q g (h m' h1 h2) (.int _)⟩
  · exact h.elim
theorem b_list (m : Bool) : CallR3 X Z (.type "list") (bList m) := by
  refine ⟨_, call_list_of, fun G H xs vs Q3 Q g r h q => ?_⟩
  unfold bList at h
  split at h
  · cases r with
    | cons r1 r2 =>
    cases r2
    obtain ⟨xs, e, h⟩ := h
    obtain ⟨p, vs, ep, s, r⟩ := sq_ok g r1 e
    exact ⟨p, vs, by rw [ep], s, fun l n => outL_ok m g r q h n⟩
  · exact h.elim
theorem b_tup : CallR3 X Z (.type "tuple") bTup := by
  refine ⟨_, call_tuple_of, fun G H xs vs Q3 Q g r h q => ?_⟩
  unfold bTup at h
  split at h
  · cases r with
    | cons r1 r2 =>
    cases r2
    obtain ⟨xs, e, h⟩ := h
    obtain ⟨p, vs, ep, s, r⟩ := sq_ok g r1 e
    refine ⟨p, vs, by rw [ep], ?_⟩
    rcases s with s | s
    · exact .inl ⟨s, fun l n => outT_ok g r q h n⟩
    · exact .inr ⟨s, q_of q g h (.tup s r)⟩
  · exact h.elim
theorem b_str : CallR3 X Z (.type "str") bStr := by
  refine ⟨_, call_str_int, fun G H xs vs Q3 Q g r h q => ?_⟩
  unfold bStr at h
  split at h
  · cases r with
    | cons r1 r2 =>
    cases r1; cases r2
    exact ⟨_, rfl, h.1, q_of q g h.2 (.str _)⟩
  · exact h.elim
/-- all, any of a list of flags -/
def blsD : List D → Option (List Bool)
  | [] => some []
  | .bl i :: r => (blsD r).map (i :: ·)
  | _ => none
theorem bls_ok : ∀ {xs : List D} {vs : List V} {ns : List Bool}, DvL K G H xs vs → blsD xs = some ns → vs = ns.map V.bl
  | [], _, _, .nil, h => by cases h; rfl
  | .bl i :: r, _, ns, .cons (.bl _) t, h => by
    simp only [blsD, Option.map_eq_some_iff] at h
    obtain ⟨m, h1, h2⟩ := h
    subst h2
    rw [bls_ok t h1]; rfl
  | .non :: _, _, _, _, h => by simp [blsD] at h
  | .int _ :: _, _, _, _, h => by simp [blsD] at h
  | .str _ :: _, _, _, _, h => by simp [blsD] at h
  | .tup _ :: _, _, _, _, h => by simp [blsD] at h
  | .fl _ :: _, _, _, _, h => by simp [blsD] at h
  | .sl _ :: _, _, _, _, h => by simp [blsD] at h
  | .ob _ _ _ :: _, _, _, _, h => by simp [blsD] at h
  | .emp :: _, _, _, _, h => by simp [blsD] at h
  | .ref _ :: _, _, _, _, h => by simp [blsD] at h
  | .ex _ :: _, _, _, _, h => by simp [blsD] at h
  | .exf _ _ _ :: _, _, _, _, h => by simp [blsD] at h
def bAll : QL := fun ds G Q => match ds with
  | [x] => ∃ xs bs, lq G x = some xs ∧ blsD xs = some bs ∧ Q (.bl (bs.all id)) G
  | _ => False
def bAny : QL := fun ds G Q => match ds with
  | [x] => ∃ xs bs, lq G x = some xs ∧ blsD xs = some bs ∧ Q (.bl (bs.any id)) G
  | _ => False
theorem b_all (hc : X.calm = true) : CallR3 X Z (.builtin "all") bAll := by
  refine ⟨_, cr_all hc, fun G H xs vs Q3 Q g r h q => ?_⟩
  unfold bAll at h
  split at h
  · cases r with
    | cons r1 r2 =>
    cases r2
    obtain ⟨xs, ns, e, e2, h⟩ := h
    obtain ⟨p, vs, ep, s, r⟩ := lq_ok g r1 e
    exact ⟨p, ns, by rw [ep], by rw [← bls_ok r e2]; exact s, q_of q g h (.bl _)⟩
  · exact h.elim
theorem b_any (hc : X.calm = true) : CallR3 X Z (.builtin "any") bAny := by
  refine ⟨_, cr_any hc, fun G H xs vs Q3 Q g r h q => ?_⟩
  unfold bAny at h
  split at h
  · cases r with
    | cons r1 r2 =>
    cases r2
    obtain ⟨xs, ns, e, e2, h⟩ := h
    obtain ⟨p, vs, ep, s, r⟩ := lq_ok g r1 e
    exact ⟨p, ns, by rw [ep], by rw [← bls_ok r e2]; exact s, q_of q g h (.bl _)⟩
  · exact h.elim
end
/-! ### statements -/
def snext : TS3 := fun D σ G => D.nx σ G
def sseq (t u : TS3) : TS3 := fun D σ G => t { D with nx := u D } σ G
def sbrk : TS3 := fun D σ G => D.bk σ G
def sct : TS3 := fun D σ G => D.ct σ G
def sdrop (te : TE3) : TS3 := fun D σ G => te σ G (fun _ G1 => D.nx σ G1) (fun x G1 => D.ex x σ G1)
def sset (i : Nat) (te : TE3) : TS3 := fun D σ G => te σ G (fun d G1 => D.nx (σ.set i (some d)) G1) (fun x G1 => D.ex x σ G1)
def sret (te : TE3) : TS3 := fun D σ G => te σ G D.rt (fun x G1 => D.ex x σ G1)
def sretN : TS3 := fun D _ G => D.rt .non G
def sif (tc : TT3) (t u : TS3) : TS3 := fun D σ G => tc σ G (fun b G1 => if b = true then t D σ G1 else u D σ G1) (fun x G1 => D.ex x σ G1)
def iadd3 : Q2 := fun x y G Q => match x, y with
  | .int i, .int j => Q (.int (i + j)) G
  | .str i, .str j => i.length + j.length ≤ sizeLine ∧ Q (.str (i ++ j)) G
  | _, _ => False
def saug (i : Nat) (te : TE3) (t : Q2) : TS3 := fun D σ G => ∃ x, gt σ i = some x ∧ te σ G (fun y G1 => t x y G1 fun z G2 => D.nx (σ.set i (some z)) G2) (fun x G1 => D.ex x σ G1)
section
variable {X : Cx} {Z : Zx} {W : WX} {st : Stmt} {rest : List Stmt} {t u : TS3} {e c : Expr} {te : TE3} {tc : TT3} {pos : Pos}
theorem Dk.exk {K : K3} {G : Gp} {H : Hp} {D3 : Ends3} {D : Ends} {σ3 : St3} {σ : St} (d : Dk K G H W D3 D) (g : GH K G H) (rs : Rs K G H σ3 σ) : Xk K G H (fun x G1 => D3.ex x σ3 G1) (fun c dd H' => W c dd σ H') := fun x G' c dd H' h1 g1 xv k => d.ex x σ3 G' c dd σ H' h1 g1 (rs.keep g k) xv k
theorem snil_ : PSs3 X Z W [] snext := PSs.imp pss_nil fun D σ H h => by
  obtain ⟨σ3, G, D3, g, rs, h, d⟩ := h
  exact d.nx _ _ _ _ h g rs Keep.refl
theorem scons_ (h1 : PS3 X Z W st t) (h2 : PSs3 X Z W rest u) : PSs3 X Z W (st :: rest) (sseq t u) := PSs.imp (pss_cons h1 h2) fun D σ H h => by
  obtain ⟨σ3, G, D3, g, rs, h, d⟩ := h
  exact ⟨σ3, G, _, g, rs, h, ⟨fun σ4 G1 τ H1 h1 g1 r1 k1 => ⟨σ4, G1, D3, g1, r1, h1, d.keep k1⟩, d.rt, d.bk, d.ct, d.ex⟩⟩
theorem sone_ (h1 : PS3 X Z W st t) : PSs3 X Z W [st] t := pss_one h1
theorem pass_ : PS3 X Z W (.Pass pos) snext := PS.imp ps_pass fun D σ H h => by
  obtain ⟨σ3, G, D3, g, rs, h, d⟩ := h
  exact d.nx _ _ _ _ h g rs Keep.refl
theorem brk_ : PS3 X Z W (.Break pos) sbrk := PS.imp ps_break fun D σ H h => by
  obtain ⟨σ3, G, D3, g, rs, h, d⟩ := h
  exact d.bk _ _ _ _ h g rs Keep.refl
theorem cont_ : PS3 X Z W (.Continue pos) sct := PS.imp ps_continue fun D σ H h => by
  obtain ⟨σ3, G, D3, g, rs, h, d⟩ := h
  exact d.ct _ _ _ _ h g rs Keep.refl
theorem expr_ (he : PE3 X Z W e te) (hs : swapsWith e none pos.line X.env = pure false := by rfl) : PS3 X Z W (.Expr e pos) (sdrop te) := PS.imp (ps_expr he hs) fun D σ H h => by
  obtain ⟨σ3, G, D3, g, rs, h, d⟩ := h
  exact ⟨σ3, G, _, _, g, rs, h, fun x G1 v H1 h1 g1 r1 k1 => d.nx _ _ _ _ h1 g1 (rs.keep g k1) k1, d.exk g rs⟩
theorem set_ (i : Nat) {x : Str} {pos' : Pos} (he : PE3 X Z W e te) (hN : X.N.Nodup) (hi : X.N[i]? = some x := by rfl) (hx : Loc X.env.scope x := by first | exact Or.inl rfl | exact Or.inr rfl) (hs : swapsWith e (some (.Name x pos')) pos.line X.env = pure false := by rfl)
    (hf : X.fn x = true ∨ X.env.scope.names.lookup x = some .local := by first | exact .inl rfl | exact .inr rfl | assumption) : PS3 X Z W (.Assign [.Name x pos'] e pos) (sset i te) := PS.imp (ps_set (i := i) hN hi hx he hs hf) fun D σ H h => by
  obtain ⟨σ3, G, D3, g, rs, h, d⟩ := h
  exact ⟨σ3, G, _, _, g, rs, h, fun x G1 v H1 h1 g1 r1 k1 => d.nx _ _ _ _ h1 g1 ((rs.keep g k1).set r1 i) k1, d.exk g rs⟩
theorem ret_ (he : PE3 X Z W e te) : PS3 X Z W (.Return (some e) pos) (sret te) := PS.imp (ps_ret he) fun D σ H h => by
  obtain ⟨σ3, G, D3, g, rs, h, d⟩ := h
  exact ⟨σ3, G, _, _, g, rs, h, d.rt, d.exk g rs⟩
theorem retN_ : PS3 X Z W (.Return none pos) sretN := PS.imp ps_retN fun D σ H h => by
  obtain ⟨σ3, G, D3, g, rs, h, d⟩ := h
  exact d.rt _ _ _ _ h g .non Keep.refl
theorem sif_ {a b : List Stmt} (hc : PT3 X Z W c tc) (ha : PSs3 X Z W a t) (hb : PSs3 X Z W b u) : PS3 X Z W (.If c a b pos) (sif tc t u) := PS.imp (ps_if hc ha hb) fun D σ H h => by
  obtain ⟨σ3, G, D3, g, rs, h, d⟩ := h
  refine ⟨σ3, G, _, _, g, rs, h, fun b G1 H1 h1 g1 k1 => ?_, d.exk g rs⟩
  cases b with
  | true => exact ⟨σ3, G1, D3, g1, rs.keep g k1, h1, d.keep k1⟩
  | false => exact ⟨σ3, G1, D3, g1, rs.keep g k1, h1, d.keep k1⟩
/-- name op= e -/
def IpR3 (X : Cx) (Z : Zx) (op : Operator) (t : Q2) : Prop := ∃ r : TIp, PIp X op r ∧ ∀ G H x y v u Q3 Q, GH (Cxk X Z) G H → Dv (Cxk X Z) G H x v → Dv (Cxk X Z) G H y u → t x y G Q3 → Qk (Cxk X Z) G H Q3 Q → r v u H Q
theorem i_of {op : Operator} {t : Q2} (h : OpR3 X Z (inplaceOp op) t) : IpR3 X Z op t := by
  obtain ⟨r, h, k⟩ := h
  exact ⟨r, fun pins s σ H x y v u Q I rx ry q => h pins s σ H x y v u Q I rx ry q, k⟩
theorem aug_ (i : Nat) {x : Str} {op : Operator} {q : Q2} {pos' : Pos} (ho : IpR3 X Z op q) (he : PE3 X Z W e te) (hN : X.N.Nodup) (hi : X.N[i]? = some x := by rfl) (hx : Loc X.env.scope x := by first | exact Or.inl rfl | exact Or.inr rfl)
    (hf : X.fn x = true ∨ X.env.scope.names.lookup x = some .local := by first | exact .inl rfl | exact .inr rfl | assumption) : PS3 X Z W (.AugAssign (.Name x pos') op e pos) (saug i te q) := by
  obtain ⟨r, ho, k⟩ := ho
  refine PS.imp (ps_aug (i := i) hN hi hx he ho hf) fun D σ H h => ?_
  obtain ⟨σ3, G, D3, g, rs, h, d⟩ := h
  obtain ⟨x, e, h⟩ := h
  obtain ⟨v, e1, rv⟩ := rs.2 i x (gt_eq _ _ e)
  refine ⟨v, e1, σ3, G, _, _, g, rs, h, fun y G1 u H1 h1 g1 r1 k1 => ?_, d.exk g rs⟩
  exact k G1 H1 x y v u _ _ g1 (rv.keep g k1) r1 h1 fun z G2 w H2 h2 g2 r2 k2 => d.nx _ _ _ _ h2 g2 (((rs.keep g k1).keep g1 k2).set r2 i) (k1.trans k2)
theorem iadd_ : OpR3 X Z (inplaceOp .Add) iadd3 := by
  refine ⟨_, iop_add.or iop_add_str, fun G H x y v u Q3 Q g rx ry h q => ?_⟩
  unfold iadd3 at h
  split at h
  · cases rx; cases ry
    exact .inl ⟨_, _, rfl, rfl, q_of q g h (.int _)⟩
  · cases rx; cases ry
    exact .inr ⟨_, _, rfl, rfl, h.1, q_of q g h.2 (.str _)⟩
  · exact h.elim
theorem isub_ : OpR3 X Z (inplaceOp .Sub) sub3 := by
  refine ⟨_, iop_sub, fun G H x y v u Q3 Q g rx ry h q => ?_⟩
  unfold sub3 at h
  split at h
  · cases rx; cases ry
    exact ⟨_, _, rfl, rfl, q_of q g h (.int _)⟩
  · exact h.elim
theorem ifdiv_ : OpR3 X Z (inplaceOp .FloorDiv) fdiv3 := by
  refine ⟨_, iop_fdiv, fun G H x y v u Q3 Q g rx ry h q => ?_⟩
  unfold fdiv3 at h
  split at h
  · cases rx; cases ry
    exact ⟨_, _, rfl, rfl, ⟨h.1, h.2.1⟩, q_of q g h.2.2 (.int _)⟩
  · exact h.elim
end
/-! ### while -/
def whN (tc : TT3) (tb : TS3) (D : Ends3) : Nat → St3 → Gp → Prop
  | 0, _, _ => False
  | n + 1, σ, G => tc σ G (fun b G1 => if b = true then tb { D with nx := whN tc tb D n, ct := whN tc tb D n, bk := D.nx } σ G1 else D.nx σ G1) (fun x G1 => D.ex x σ G1)
def swhile (tc : TT3) (tb : TS3) : TS3 := fun D σ G => ∃ n, whN tc tb D n σ G
section
variable {X : Cx} {Z : Zx} {W : WX} {c : Expr} {body : List Stmt} {tb : TS3} {tc : TT3} {pos : Pos}
theorem while_ (hp : PassesOwn (model X.prog X.w) X.A X.env X.xe) (hc : PT3 X Z W c tc) (hb : PSs3 X Z W body tb) : PS3 X Z W (.While c body [] pos) (swhile tc tb) := PS.imp (ps_while hp hc hb) fun D σ H h => by
  obtain ⟨σ3, G, D3, g, rs, ⟨n, h⟩, d⟩ := h
  refine ⟨fun m σ' H' => ∃ σ4 G', GH (Cxk X Z) G' H' ∧ Rs (Cxk X Z) G' H' σ4 σ' ∧ Keep G H G' H' ∧ whN tc tb D3 m σ4 G', ⟨n, σ3, G, g, rs, Keep.refl, h⟩, ?_⟩
  rintro m σ' H' ⟨σ4, G', g', rs', k', h'⟩
  cases m with
  | zero => exact h'.elim
  | succ m =>
    refine ⟨σ4, G', _, _, g', rs', h', fun b G1 H1 h1 g1 k1 => ?_, (d.keep k').exk g' rs'⟩
    cases b with
    | true =>
      rw [if_pos rfl] at h1 ⊢
      refine ⟨fun σ5 H2 => ∃ σ6 G2, GH (Cxk X Z) G2 H2 ∧ Rs (Cxk X Z) G2 H2 σ6 σ5 ∧ Keep G H G2 H2 ∧ whN tc tb D3 m σ6 G2, fun σ5 H2 ⟨σ6, G2, a1, a2, a3, a4⟩ => ⟨m, Nat.lt_succ_self m, σ6, G2, a1, a2, a3, a4⟩, ?_⟩
      have d1 := d.keep (k'.trans k1)
      exact ⟨σ4, G1, _, g1, rs'.keep g' k1, h1, ⟨fun σ6 G2 σ5 H2 h2 g2 r2 k2 => ⟨σ6, G2, g2, r2, (k'.trans k1).trans k2, h2⟩, d1.rt, d1.nx, fun σ6 G2 σ5 H2 h2 g2 r2 k2 => ⟨σ6, G2, g2, r2, (k'.trans k1).trans k2, h2⟩, d1.ex⟩⟩
    | false =>
      rw [if_neg Bool.false_ne_true] at h1 ⊢
      exact d.nx _ _ _ _ h1 g1 (rs'.keep g' k1) (k'.trans k1)
end
end L3
namespace L3
open PySem PySem.Spec PyProof.Rows L2
open He (ga)
/-! ### targets: a name, a tuple of names -/
inductive Tg where
  | n (i : Nat) | t (is : List Nat)
def gNames : List Nat → TGs
  | [] => gNil
  | i :: is => gCons (gName i) (gNames is)
def Tg.g (K : PySem.W.Frag) : Tg → TG
  | .n i => gName i
  | .t is => gTup K is.length (gNames is)
def setD : List Nat → List D → St3 → St3
  | i :: is, d :: ds, σ => setD is ds (σ.set i (some d))
  | _, _, σ => σ
def setV : List Nat → List V → St → St
  | i :: is, d :: ds, σ => setV is ds (σ.set i (some d))
  | _, _, σ => σ
/-- the slots behind the binding -/
def Tg.b : Tg → D → St3 → (St3 → Prop) → Prop
  | .n i, d, σ, Q => Q (σ.set i (some d))
  | .t is, d, σ, Q => ∃ ds, d = .tup ds ∧ ds.length = is.length ∧ Q (setD is ds σ)
def Tg.is : Tg → List Nat
  | .n i => [i]
  | .t is => is
section
variable {K : K3} {G : Gp} {H : Hp}
theorem gNames_ok : ∀ {is : List Nat} {vs : List V} {σ : St} {H : Hp} {Q : St → Hp → Prop}, vs.length = is.length → Q (setV is vs σ) H → gNames is vs σ H Q
  | [], [], _, _, _, _, h => ⟨rfl, h⟩
  | [], _ :: _, _, _, _, l, _ => by cases l
  | _ :: _, [], _, _, _, l, _ => by cases l
  | i :: is, v :: vs, σ, H, Q, l, h => ⟨v, vs, rfl, gNames_ok (by simpa using l) h⟩
theorem setD_rs : ∀ {is : List Nat} {ds : List D} {vs : List V} {σ3 : St3} {σ : St}, DvL K G H ds vs → Rs K G H σ3 σ → Rs K G H (setD is ds σ3) (setV is vs σ)
  | [], _, _, _, _, _, r => by simpa [setD, setV] using r
  | i :: is, [], [], _, _, .nil, r => by simpa [setD, setV] using r
  | i :: is, d :: ds, v :: vs, σ3, σ, .cons q t, r => setD_rs (is := is) t (r.set q i)
/-- slots apart from some are as they were -/
def SameBut (is : List Nat) (σ σ' : St) : Prop := σ'.length = σ.length ∧ ∀ (j : Nat), j ∉ is → σ'[j]? = σ[j]?
theorem setV_same : ∀ (is : List Nat) (vs : List V) (σ : St), SameBut is σ (setV is vs σ)
  | [], _, σ => by simp [setV, SameBut]
  | i :: is, [], σ => by simp [setV, SameBut]
  | i :: is, v :: vs, σ => by
    obtain ⟨h1, h2⟩ := setV_same is vs (σ.set i (some v))
    refine ⟨by rw [setV, h1]; simp, fun j hj => ?_⟩
    simp only [List.mem_cons, not_or] at hj
    rw [setV, h2 j hj.2, List.getElem?_set_ne (Ne.symm hj.1)]
theorem Tg.run {t : Tg} {d : D} {v : V} {σ3 : St3} {σ : St} {Q3 : St3 → Prop} {Q : St → Hp → Prop} (rs : Rs K G H σ3 σ) (r : Dv K G H d v) (h : t.b d σ3 Q3) (k : ∀ σ4 σ', Q3 σ4 → Rs K G H σ4 σ' → SameBut t.is σ σ' → Q σ' H) : t.g K.f v σ H Q := by
  cases t with
  | n i =>
    refine k _ _ h (rs.set r i) ⟨by simp, fun j hj => ?_⟩
    have : j ≠ i := by simpa [Tg.is] using hj
    rw [List.getElem?_set_ne (Ne.symm this)]
  | t is =>
    obtain ⟨ds, e, l, h⟩ := h
    subst e
    cases r with
    | tup s r =>
    rename_i a vs
    have lv : vs.length = is.length := by rw [← r.length]; exact l
    exact ⟨a, vs, rfl, s, lv, gNames_ok lv (k _ _ h (setD_rs r rs) (setV_same is vs σ))⟩
end
/-! ### what is walked -/
abbrev TI3 := St3 → Gp → (List D → (Gp → Prop) → Gp → Prop) → EK → Prop
structure ItR (K : K3) (G0 : Gp) (H0 : Hp) (J : It) (xs : List D) (gd : Gp → Prop) : Prop where
  stop : ∀ G H, Keep G0 H0 G H → GH K G H → gd G → J.stop xs.length H
  go : ∀ (i : Nat) G H, i < xs.length → Keep G0 H0 G H → GH K G H → gd G → J.go i H
  yld : ∀ (i : Nat) d v G H H', xs[i]? = some d → Keep G0 H0 G H → GH K G H → gd G → J.yld i H v H' → GH K G H' ∧ Keep G H G H' ∧ Dv K G H' d v
def liftI (K : K3) (W : WX) (t : TI3) : TI := fun σ H R => ∃ σ3 G R3 E3, GH K G H ∧ Rs K G H σ3 σ ∧ t σ3 G R3 E3 ∧ (∀ xs gd G' J H', R3 xs gd G' → GH K G' H' → Keep G H G' H' → ItR K G' H' J xs gd → R J H') ∧ Xk K G H E3 (fun c d H' => W c d σ H')
def PI3 (X : Cx) (Z : Zx) (W : WX) (tg iter : Expr) (t : TI3) : Prop := PI X tg iter (liftI (Cxk X Z) W t)
theorem PI.imp {X : Cx} {tg e : Expr} {t u : TI} (h : PI X tg e t) (k : ∀ σ H Q, u σ H Q → t σ H Q) : PI X tg e u := ⟨fun pins s σ H Q I q => h.run pins s σ H Q I (k _ _ _ q)⟩
section
variable {X : Cx} {Z : Zx} {tg : Expr}
/-- a list or tuple -/
def iSeqV (K : PySem.W.Frag) (tl : TE) : TI := fun σ H R => tl σ H fun x H1 => ∃ a, x = .ref a ∧ (((∃ xs, SqL K H1 a xs) ∧ R (Itl K a) H1) ∨ ((∃ xs, SqT K H1 a xs) ∧ R (Itt K a) H1))
theorem pi_seqV {l : Expr} {tl : TE} (hl : PE X l tl) : PI X tg l (iSeqV X.K tl) := by
  refine ⟨fun pins s σ H R I h => ?_⟩
  refine thn (hl.run pins s σ H _ I h) fun v s1 ⟨x, H1, I1, r1, q1⟩ => ?_
  obtain ⟨a, e, q⟩ := q1
  subst e
  cases r1
  have nf : ∀ b ∈ [s1.heap.objs.size], FpOk X pins H1 b := fun b hb => by
    have e : b = s1.heap.objs.size := by simpa using hb
    subst e
    exact I1.fpOk (Nat.le_refl _) (I1.hok.fresh (Nat.le_refl _))
  rcases q with ⟨⟨xs, hq⟩, q⟩ | ⟨⟨xs, hq⟩, q⟩
  · obtain ⟨its, rv, p, hz⟩ := I1.list hq
    refine wpAny_pyIter_list p.isList ?_
    exact ⟨s1.heap.objs.size, [s1.heap.objs.size], _, _, H1, rfl, I1.kept (t' := s1.toks) fun b o e => Heap.get?_push_of_some _ e, turn_list a _, ⟨_, Heap.get?_push_size _ rfl, rfl, rfl⟩, nf, q⟩
  · obtain ⟨its, rv, p, hz⟩ := I1.tuple hq
    refine wpAny_pyIter_tuple (show s1.heap.IsTuple a its.toArray from p) ?_
    exact ⟨s1.heap.objs.size, [s1.heap.objs.size], _, _, H1, rfl, I1.kept (t' := s1.toks) fun b o e => Heap.get?_push_of_some _ e, turn_tuple a _, ⟨_, Heap.get?_push_size _ rfl, rfl, rfl⟩, nf, q⟩
end
/-- what must hold at each turn so that the items stay -/
def gdOf (d : D) (xs : List D) : Gp → Prop := match d with
  | .ref p => fun G => G p = some (.lst xs)
  | _ => fun _ => True
def iseq (te : TE3) : TI3 := fun σ G R E => te σ G (fun d G1 => ∃ xs, sq G1 d = some xs ∧ R xs (gdOf d xs) G1) E
def irng1 (ta : TA3) : TI3 := fun σ G R E => ta σ G (fun ds G1 => ∃ j : Int, ds = [.int j] ∧ -(2 ^ 62) ≤ j ∧ j < 2 ^ 62 ∧ R ((List.range j.toNat).map fun (i : Nat) => D.int i) (fun _ => True) G1) E
def irng2 (ta : TA3) : TI3 := fun σ G R E => ta σ G (fun ds G1 => ∃ i j : Int, ds = [.int i, .int j] ∧ (-(2 ^ 62) ≤ i ∧ i < 2 ^ 62 ∧ -(2 ^ 62) ≤ j ∧ j < 2 ^ 62) ∧ R ((List.range (j - i).toNat).map fun (k : Nat) => D.int (i + k)) (fun _ => True) G1) E
section
variable {K : K3} {G : Gp} {H : Hp}
theorem itr_list {d : D} {a : Addr} {xs : List D} (g : GH K G H) (r : Dv K G H d (.ref a)) (e : lq G d = some xs) : ItR K G H (Itl K.f a) xs (gdOf d xs) := by
  have key : ∀ G1 H1, Keep G H G1 H1 → GH K G1 H1 → gdOf d xs G1 → ∃ ws, SqL K.f H1 a ws ∧ DvL K G1 H1 xs ws := fun G1 H1 k g1 gd => by
    have r1 := r.keep g k
    have e1 : lq G1 d = some xs := by
      cases d with
      | ref p => unfold lq; simp only; rw [show G1 p = some (.lst xs) from gd]
      | _ => exact e
    obtain ⟨b, ws, eb, s, rl⟩ := lq_ok g1 r1 e1
    cases eb
    exact ⟨ws, s, rl⟩
  refine ⟨fun G1 H1 k g1 gd => ?_, fun i G1 H1 hi k g1 gd => ?_, fun i x v G1 H1 H2 hi k g1 gd y => ?_⟩
  · obtain ⟨ws, s, rl⟩ := key G1 H1 k g1 gd
    exact ⟨ws, s, by rw [rl.length]; exact Nat.le_refl _⟩
  · obtain ⟨ws, s, rl⟩ := key G1 H1 k g1 gd
    have : i < ws.length := by rw [← rl.length]; exact hi
    exact ⟨ws, ws[i], s, by simp [this]⟩
  · obtain ⟨ws, s, rl⟩ := key G1 H1 k g1 gd
    obtain ⟨eH, y⟩ := y
    subst eH
    obtain ⟨w, h1, h2⟩ := rl.get hi
    rw [y ws s] at h1
    cases h1
    exact ⟨g1, Keep.refl, h2⟩
theorem itr_tup {a : Addr} {xs : List D} (g : GH K G H) (r : Dv K G H (.tup xs) (.ref a)) : ItR K G H (Itt K.f a) xs (fun _ => True) := by
  have key : ∀ G1 H1, Keep G H G1 H1 → ∃ ws, SqT K.f H1 a ws ∧ DvL K G1 H1 xs ws := fun G1 H1 k => by
    have r1 := r.keep g k
    cases r1 with
    | tup s rl => exact ⟨_, s, rl⟩
  refine ⟨fun G1 H1 k g1 gd => ?_, fun i G1 H1 hi k g1 gd => ?_, fun i x v G1 H1 H2 hi k g1 gd y => ?_⟩
  · obtain ⟨ws, s, rl⟩ := key G1 H1 k
    exact ⟨ws, s, by rw [rl.length]; exact Nat.le_refl _⟩
  · obtain ⟨ws, s, rl⟩ := key G1 H1 k
    have : i < ws.length := by rw [← rl.length]; exact hi
    exact ⟨ws, ws[i], s, by simp [this]⟩
  · obtain ⟨ws, s, rl⟩ := key G1 H1 k
    obtain ⟨eH, y⟩ := y
    subst eH
    obtain ⟨w, h1, h2⟩ := rl.get hi
    rw [y ws s] at h1
    cases h1
    exact ⟨g1, Keep.refl, h2⟩
theorem itr_range {lo : Int} {n : Nat} : ItR K G H (Itr lo n) ((List.range n).map fun (k : Nat) => D.int (lo + k)) (fun _ => True) := by
  refine ⟨fun G1 H1 k g1 gd => ?_, fun i G1 H1 hi k g1 gd => ?_, fun i x v G1 H1 H2 hi k g1 gd y => ?_⟩
  · show n ≤ _
    simp
  · show i < n
    simpa using hi
  · obtain ⟨eH, y⟩ := y
    subst eH
    subst y
    rw [List.getElem?_map] at hi
    cases e : (List.range n)[i]? with
    | none => rw [e] at hi; cases hi
    | some j =>
      rw [e] at hi
      have : j = i := by
        obtain ⟨h1, h2⟩ := List.getElem?_eq_some_iff.mp e
        simpa using h2.symm
      subst this
      cases hi
      exact ⟨g1, Keep.refl, .int _⟩
end
section
variable {X : Cx} {Z : Zx} {W : WX} {e a b : Expr} {es : List Expr} {te : TE3} {ta : TA3} {tg : Expr} {p pos : Pos}
theorem lq_of {G : Gp} {d : D} {xs : List D} (h : sq G d = some xs) (n : ∀ ys, d ≠ .tup ys) : lq G d = some xs := by
  cases d with
  | tup ys => exact absurd rfl (n ys)
  | _ => exact h
theorem iseq_ (h : PE3 X Z W e te) : PI3 X Z W tg e (iseq te) := PI.imp (pi_seqV h) fun σ H R h => by
  obtain ⟨σ3, G, R3, E3, g, rs, h, q, x⟩ := h
  refine ⟨σ3, G, _, E3, g, rs, h, fun d G1 v H1 ⟨xs, e, h1⟩ g1 r1 k1 => ?_, x⟩
  by_cases ht : ∃ ys, d = .tup ys
  · obtain ⟨ys, rfl⟩ := ht
    cases e
    have r0 := r1
    cases r1 with
    | tup s rl => exact ⟨_, rfl, .inr ⟨⟨_, s⟩, q _ _ _ _ _ h1 g1 k1 (itr_tup g1 r0)⟩⟩
  · have e' := lq_of e fun ys z => ht ⟨ys, z⟩
    obtain ⟨a, vs, ea, s, rl⟩ := lq_ok g1 r1 e'
    subst ea
    exact ⟨_, rfl, .inl ⟨⟨_, s⟩, q _ _ _ _ _ h1 g1 k1 (itr_list g1 r1 e')⟩⟩
theorem irng1_ (hm : X.mg "range" = none) (ha : PA3 X Z W [a] ta) (hg : Gl X "range" := by rfl) (hs : starEach [a] X.env = [(false, eval a X.env)] := by rfl) : PI3 X Z W tg (.Call (.Name "range" p) [a] [] pos) (irng1 ta) :=
  PI.imp (pi_range1 hg hm ha hs) fun σ H R h => by
  obtain ⟨σ3, G, R3, E3, g, rs, h, q, x⟩ := h
  refine ⟨σ3, G, _, E3, g, rs, h, fun d G1 v H1 ⟨j, e, l1, l2, h1⟩ g1 r1 k1 => ?_, x⟩
  subst e
  cases r1 with
  | cons r1 r2 =>
  cases r1; cases r2
  have z := itr_range (K := Cxk X Z) (G := G1) (H := H1) (lo := 0) (n := j.toNat)
  simp only [Int.zero_add] at z
  exact ⟨j, rfl, l1, l2, q _ _ _ _ _ h1 g1 k1 z⟩
theorem irng2_ (hm : X.mg "range" = none) (ha : PA3 X Z W [a, b] ta) (hg : Gl X "range" := by rfl) (hs : starEach [a, b] X.env = [(false, eval a X.env), (false, eval b X.env)] := by rfl) (hs2 : starEach [b] X.env = [(false, eval b X.env)] := by rfl) :
    PI3 X Z W tg (.Call (.Name "range" p) [a, b] [] pos) (irng2 ta) :=
  PI.imp (pi_range2 hg hm ha hs hs2) fun σ H R h => by
  obtain ⟨σ3, G, R3, E3, g, rs, h, q, x⟩ := h
  refine ⟨σ3, G, _, E3, g, rs, h, fun d G1 v H1 ⟨i, j, e, l, h1⟩ g1 r1 k1 => ?_, x⟩
  subst e
  cases r1 with
  | cons r1 r2 =>
  cases r1
  cases r2 with
  | cons r2 r3 =>
  cases r2; cases r3
  exact ⟨i, j, rfl, l, q _ _ _ _ _ h1 g1 k1 itr_range⟩
end
/-! ### for -/
def forL (t : Tg) (tb : TS3) (E : Ends3) (gd : Gp → Prop) : List D → St3 → Gp → Prop
  | [], σ, G => gd G ∧ E.nx σ G
  | x :: xs, σ, G => gd G ∧ t.b x σ fun σ' => tb { E with nx := forL t tb E gd xs, ct := forL t tb E gd xs, bk := E.nx } σ' G
def sfor (ti : TI3) (t : Tg) (tb : TS3) : TS3 := fun E σ G => ti σ G (fun xs gd G1 => forL t tb E gd xs σ G1) (fun x G1 => E.ex x σ G1)
section
variable {X : Cx} {Z : Zx} {W : WX} {tg iter : Expr} {body : List Stmt} {ti : TI3} {t : Tg} {tb : TS3} {pos : Pos}
theorem for_ (t : Tg) (hp : PassesOwn (model X.prog X.w) X.A X.env X.xe) (hc : X.calm = true) (hi : PI3 X Z W tg iter ti) (hg : PG X tg (t.g X.K)) (hb : PSs3 X Z W body tb)
    (hs : ∀ x, foldedSetIterable iter X.env x = pure x := by intro _; rfl) : PS3 X Z W (.For tg iter body [] pos) (sfor ti t tb) := PS.imp (ps_for hp hc hi hg hb hs) fun D σ H h => by
  obtain ⟨σ3, G, D3, g, rs, h, d⟩ := h
  refine ⟨σ3, G, _, _, g, rs, h, fun xs gd G0 J H0 h0 g0 k0 it => ?_, d.exk g rs⟩
  refine ⟨fun i m σ' H' => m = xs.length - i ∧ i ≤ xs.length ∧ ∃ σ4 G', GH (Cxk X Z) G' H' ∧ Rs (Cxk X Z) G' H' σ4 σ' ∧ Keep G0 H0 G' H' ∧ forL t tb D3 gd (xs.drop i) σ4 G', ⟨xs.length, by simp, Nat.zero_le _, σ3, G0, g0, rs.keep g k0, Keep.refl, by simpa using h0⟩, ?_⟩
  rintro i m σ' H' ⟨rfl, hi', σ4, G', g', rs', k', h'⟩
  by_cases hlt : i < xs.length
  · obtain ⟨x, e⟩ : ∃ x, xs[i]? = some x := ⟨xs[i], by simp [hlt]⟩
    have ed : xs.drop i = x :: xs.drop (i + 1) := by
      rw [List.drop_eq_getElem_cons hlt]
      have : xs[i] = x := by rw [List.getElem?_eq_getElem hlt] at e; exact Option.some.inj e
      rw [this]
    rw [ed] at h'
    obtain ⟨hgd, h'⟩ := h'
    refine .inr ⟨it.go i G' H' hlt k' g' hgd, fun σ5 H2 => ∃ σ6 G2, GH (Cxk X Z) G2 H2 ∧ Rs (Cxk X Z) G2 H2 σ6 σ5 ∧ Keep G0 H0 G2 H2 ∧ forL t tb D3 gd (xs.drop (i + 1)) σ6 G2, fun σ5 H2 ⟨σ6, G2, a1, a2, a3, a4⟩ => ⟨_, by omega, rfl, hlt, σ6, G2, a1, a2, a3, a4⟩, fun v H2 hy => ?_⟩
    obtain ⟨g2, k2, r2⟩ := it.yld i x v G' H' H2 e k' g' hgd hy
    refine Tg.run (rs'.keep g' k2) r2 h' fun σ5 σ6 h5 r5 _ => ?_
    have kk : Keep G H G' H2 := (k0.trans k').trans k2
    have d1 := d.keep kk
    exact ⟨σ5, G', _, g2, r5, h5, ⟨fun σ7 G3 σ8 H3 h3 g3 r3 k3 => ⟨σ7, G3, g3, r3, (k'.trans k2).trans k3, h3⟩, d1.rt, d1.nx, fun σ7 G3 σ8 H3 h3 g3 r3 k3 => ⟨σ7, G3, g3, r3, (k'.trans k2).trans k3, h3⟩, d1.ex⟩⟩
  · have e : i = xs.length := by omega
    subst e
    rw [List.drop_length] at h'
    exact .inl ⟨it.stop G' H' k' g' h'.1, d.nx _ _ _ _ h'.2 g' rs' (k0.trans k')⟩
theorem tg1_ (i : Nat) {x : Str} {pos : Pos} (hN : X.N.Nodup) (hi : X.N[i]? = some x := by rfl) (hx : Loc X.env.scope x := by first | exact Or.inl rfl | exact Or.inr rfl) (hf : X.fn x = true ∨ X.env.scope.names.lookup x = some .local := by first | exact .inl rfl | exact .inr rfl | assumption) :
    PG X (.Name x pos) (Tg.g X.K (.n i)) := pg_name hN hi hx hf
theorem tgt_ {es : List Expr} {is : List Nat} {k : Nat} {pos : Pos} (hc : X.calm = true) (h : PGs X es (gNames is)) (hn : (assignEach es X.env).length = is.length := by rfl) (hst : (assignEach es X.env).findIdx? (·.1) = none := by rfl) :
    PG X (.Tuple es k pos) (Tg.g X.K (.t is)) := pg_tup hc h hn hst
end
/-! ### comprehensions -/
def wipeD (σ : St3) : List Nat → St3
  | [] => σ
  | v :: vs => (wipeD σ vs).set v none
/-- the turns of a comprehension; p: the list that grows -/
def lcL (t : Tg) (tt : TT3) (te : TE3) (gd : Gp → Prop) (σ : St3) (p : Addr) (Q : Gp → Prop) : List D → Gp → Prop
  | [], G => gd G ∧ Q G
  | x :: xs, G => gd G ∧ t.b x σ fun σ' => tt σ' G (fun b G1 => if b = true then te σ' G1 (fun d G2 => ∃ acc, G2 p = some (.lst acc) ∧ acc.length < sizeLine ∧ lcL t tt te gd σ p Q xs (up G2 p (.lst (acc ++ [d])))) (fun _ _ => False) else lcL t tt te gd σ p Q xs G1) (fun _ _ => False)
def lcEnd (m : Bool) (p : Addr) (Q : QK) (G : Gp) : Prop := match m with
  | true => (∃ acc, G p = some (.lst acc)) ∧ Q (.ref p) G
  | false => ∃ acc, G p = some (.lst acc) ∧ Q (.fl acc) (dl G p)
/-- [e for t in it if c] -/
def tlc (m : Bool) (ti : TI3) (t : Tg) (tt : TT3) (te : TE3) (vs : List Nat) : TE3 := fun σ G Q E => ti σ G (fun xs gd G1 => ∀ p, G1 p = none → lcL t tt te gd (wipeD σ vs) p (lcEnd m p Q) xs (up G1 p (.lst []))) E
def Tyes : TT3 := fun _ G Q _ => Q true G
section
variable {K : K3} {G : Gp} {H : Hp}
theorem wipeD_rs {σ3 : St3} {σ : St} (r : Rs K G H σ3 σ) : ∀ vs, Rs K G H (wipeD σ3 vs) (wipe σ vs)
  | [] => r
  | v :: vs => (wipeD_rs r vs).clear v
theorem wipe_get {σ : St} : ∀ {vs : List Nat} {j : Nat}, j ∉ vs → (wipe σ vs)[j]? = σ[j]?
  | [], _, _ => rfl
  | v :: vs, j, h => by
    simp only [List.mem_cons, not_or] at h
    unfold wipe
    rw [List.getElem?_set_ne (Ne.symm h.1), wipe_get h.2]
theorem wipe_at {σ : St} : ∀ {vs : List Nat} {j : Nat}, j ∈ vs → j < σ.length → (wipe σ vs)[j]? = some none
  | v :: vs, j, h, hl => by
    unfold wipe
    by_cases e : v = j
    · subst e
      exact List.getElem?_set_self (by rw [wipe_length]; exact hl)
    · rw [List.getElem?_set_ne e]
      rcases List.mem_cons.mp h with h | h
      · exact absurd h.symm e
      · exact wipe_at h hl
theorem wipe_same {σ σ' : St} {is vs : List Nat} (h : SameBut is (wipe σ vs) σ') (sub : ∀ i ∈ is, i ∈ vs) : wipe σ' vs = wipe σ vs := by
  obtain ⟨h1, h2⟩ := h
  rw [wipe_length] at h1
  apply List.ext_getElem?
  intro j
  by_cases hv : j ∈ vs
  · by_cases hl : j < σ.length
    · rw [wipe_at hv hl, wipe_at hv (by rw [h1]; exact hl)]
    · rw [List.getElem?_eq_none (by rw [wipe_length, h1]; omega), List.getElem?_eq_none (by rw [wipe_length]; omega)]
  · rw [wipe_get hv, h2 j (fun z => hv (sub j z))]
variable {X : Cx} {Z : Zx} {W : WX} {elt tg iter : Expr} {ifs : List Expr} {scope : Scope} {own : List (Str × Nat)} {ti : TI3} {t : Tg} {tt : TT3} {te : TE3} {pos : Pos}
/-- no exception leaves a comprehension -/
abbrev W0 : WX := fun _ _ _ _ => False
theorem lc_k (m : Bool) (sub : ∀ i ∈ t.is, i ∈ own.map (·.2)) (σ : St) (H : Hp) (Q : VK) (h : liftE (Cxk X Z) W (tlc m ti t tt te (own.map (·.2))) σ H Q) :
    tLc (liftI (Cxk X Z) W ti) (t.g X.K) (liftT (Cxk X Z) W0 tt) (liftE (Cxk X Z) W0 te) (own.map (·.2)) σ H Q := by
  obtain ⟨σ3, G, Q3, E3, g, rs, h, q, x⟩ := h
  refine ⟨σ3, G, _, E3, g, rs, h, fun xs gd G0 J H0 h0 g0 k0 it => ?_, x⟩
  intro p n
  have kD : Keep G0 H0 (up G0 p (.lst [])) (upd H0 p (.lst [])) := Keep.newG n
  have gD : GH (Cxk X Z) (up G0 p (.lst [])) (upd H0 p (.lst [])) := g0.newG n ⟨[], upd_same, .nil⟩
  have hp : ∀ {a : Addr} {o : HO}, H0 a = some o → a ≠ p := fun h => ne_of_none h n
  refine ⟨fun i mm H' => mm = xs.length - i ∧ i ≤ xs.length ∧ ∃ G', GH (Cxk X Z) G' H' ∧ Keep G0 H0 G' H' ∧ lcL t tt te gd (wipeD σ3 (own.map (·.2))) p (lcEnd m p Q3) (xs.drop i) G', ⟨xs.length, by simp, Nat.zero_le _, _, gD, kD, by simpa using h0 p (g0.free n)⟩, ?_⟩
  rintro i mm H' ⟨rfl, hi', G', g', k', h'⟩
  by_cases hlt : i < xs.length
  · obtain ⟨x, e⟩ : ∃ x, xs[i]? = some x := ⟨xs[i], by simp [hlt]⟩
    have ed : xs.drop i = x :: xs.drop (i + 1) := by
      rw [List.drop_eq_getElem_cons hlt]
      have : xs[i] = x := by rw [List.getElem?_eq_getElem hlt] at e; exact Option.some.inj e
      rw [this]
    rw [ed] at h'
    obtain ⟨hgd, h'⟩ := h'
    refine .inr ⟨it.go i G' H' hlt k' g' hgd, fun H2 => ∃ G2, GH (Cxk X Z) G2 H2 ∧ Keep G0 H0 G2 H2 ∧ lcL t tt te gd (wipeD σ3 (own.map (·.2))) p (lcEnd m p Q3) (xs.drop (i + 1)) G2, fun H2 ⟨G2, a1, a2, a3⟩ => ⟨_, by omega, rfl, hlt, G2, a1, a2, a3⟩, fun v H2 hy => ?_⟩
    obtain ⟨g2, k2, r2⟩ := it.yld i x v G' H' H2 e k' g' hgd hy
    have rs2 : Rs (Cxk X Z) G' H2 (wipeD σ3 (own.map (·.2))) (wipe σ (own.map (·.2))) := wipeD_rs (((rs.keep g k0).keep g0 k').keep g' k2) _
    refine Tg.run rs2 r2 h' fun σ5 σ6 h5 r5 sb => ⟨wipe_same sb sub, ?_⟩
    refine ⟨σ5, G', _, _, g2, r5, h5, fun b G3 H3 h3 g3 k3 => ?_, fun _ _ _ _ _ z => z.elim⟩
    cases b with
    | true =>
      rw [if_pos rfl] at h3 ⊢
      refine ⟨σ5, G3, _, _, g3, r5.keep g2 k3, h3, fun d G4 w H4 h4 g4 r4 k4 => ?_, fun _ _ _ _ _ z => z.elim⟩
      obtain ⟨acc, ep, l, h4⟩ := h4
      obtain ⟨avs, e1, rl⟩ := g4 p _ ep
      refine ⟨avs, e1, by rw [← rl.length]; exact l, up G4 p (.lst (acc ++ [d])), ?_, ?_, h4⟩
      · exact g4.set ep ⟨avs ++ [w], upd_same, (rl.append (.cons r4 .nil)).keep g4 (Keep.set ep)⟩
      · exact (((k'.trans k2).trans k3).trans k4).trans (Keep.set ep)
    | false =>
      rw [if_neg Bool.false_ne_true] at h3 ⊢
      exact ⟨G3, g3, (k'.trans k2).trans k3, h3⟩
  · have e : i = xs.length := by omega
    subst e
    rw [List.drop_length] at h'
    refine .inl ⟨it.stop G' H' k' g' h'.1, ?_⟩
    have h2 := h'.2
    have kk := k0.trans k'
    cases m with
    | true => exact q _ _ _ _ h2.2 g' (.ref p) kk
    | false =>
      obtain ⟨acc, ep, h2⟩ := h2
      obtain ⟨avs, e1, rl⟩ := g' p _ ep
      exact q _ _ _ _ h2 (g'.sub Sub.dl) (.fl e1 dl_same (rl.keep g' (Keep.sub Sub.dl))) (kk.trans (Keep.sub Sub.dl))
theorem lc_ (m : Bool) (t : Tg) (hc : X.calm = true) (hN : X.N.Nodup) (hi : PI3 X Z W tg iter ti) (ok : BlkOk X.N X.env.scope scope own) (sub : ∀ i ∈ t.is, i ∈ own.map (·.2))
    (hg : ∀ (s : Shared) (H : Hp) (C : Addr) (cl : List (Str × Addr)) (fp : List Addr), PG (X.blk s H scope (compEnvC scope cl C X.env) fp) tg (t.g X.K)) (ht : ∀ (s : Shared) (H : Hp) (C : Addr) (cl : List (Str × Addr)) (fp : List Addr), PTs (X.blk s H scope (compEnvC scope cl C X.env) fp) ifs (liftT (Cxk X Z) W0 tt))
    (he : ∀ (s : Shared) (H : Hp) (C : Addr) (cl : List (Str × Addr)) (fp : List Addr), PE3 (X.blk s H scope (compEnvC scope cl C X.env) fp) Z W0 elt te) (hs : ∀ x, foldedSetIterable iter X.env x = pure x := by intro _; rfl) :
    PE3 X Z W (.ListComp elt [⟨tg, iter, ifs, 0⟩] scope pos) (tlc m ti t tt te (own.map (·.2))) := PE.imp (pe_lc (te := liftE (Cxk X Z) W0 te) hc hN hi ok hg ht he hs) (lc_k m sub)
/-- name = [..] -/
theorem setLc_ (i : Nat) (m : Bool) (t : Tg) {y : Str} {py spos : Pos} (hc : X.calm = true) (hN : X.N.Nodup) (hi : PI3 X Z W tg iter ti) (ok : BlkOk X.N X.env.scope scope own) (sub : ∀ i ∈ t.is, i ∈ own.map (·.2))
    (hg : ∀ (s : Shared) (H : Hp) (C : Addr) (cl : List (Str × Addr)) (fp : List Addr), PG (X.blk s H scope (compEnvC scope cl C X.env) fp) tg (t.g X.K)) (ht : ∀ (s : Shared) (H : Hp) (C : Addr) (cl : List (Str × Addr)) (fp : List Addr), PTs (X.blk s H scope (compEnvC scope cl C X.env) fp) ifs (liftT (Cxk X Z) W0 tt))
    (he : ∀ (s : Shared) (H : Hp) (C : Addr) (cl : List (Str × Addr)) (fp : List Addr), PE3 (X.blk s H scope (compEnvC scope cl C X.env) fp) Z W0 elt te)
    (hsw : swapsWith (.ListComp elt [⟨tg, iter, ifs, 0⟩] scope pos) (some (.Name y py)) spos.line X.env = pure true) (hyl : X.env.scope.names.lookup y = some .local := by rfl) (hy : X.N[i]? = some y := by rfl) (hs : ∀ x, foldedSetIterable iter X.env x = pure x := by intro _; rfl) :
    PS3 X Z W (.Assign [.Name y py] (.ListComp elt [⟨tg, iter, ifs, 0⟩] scope pos) spos) (sset i (tlc m ti t tt te (own.map (·.2)))) := PS.imp (ps_setLc (te := liftE (Cxk X Z) W0 te) (i := i) hc hN hy hyl hsw hi ok hg ht he hs) fun D σ H h => by
  obtain ⟨σ3, G, D3, g, rs, h, d⟩ := h
  exact lc_k (W := W) m sub σ H (fun x H1 => D.nx (σ.set i (some x)) H1) ⟨σ3, G, _, _, g, rs, h, fun x G1 v H1 h1 g1 r1 k1 => d.nx _ _ _ _ h1 g1 ((rs.keep g k1).set r1 i) k1, d.exk g rs⟩
theorem no_if : ∀ {X : Cx} {Z : Zx}, PTs X [] (liftT (Cxk X Z) W0 Tyes) := ⟨fun pins s σ H Q I h => pts_nil.run pins s σ H Q I (by
  obtain ⟨σ3, G, Q3, E3, g, rs, h, q, x⟩ := h
  exact q _ _ _ h g Keep.refl)⟩
theorem if1_ {X : Cx} {Z : Zx} {c : Expr} {tc : TT3} (h : PT3 X Z W0 c tc) : PTs X [c] (liftT (Cxk X Z) W0 tc) := pts_one h
end
/-! #### pure comprehensions -/
/-- where each turn leaves G as it is -/
theorem lcL_pure {t : Tg} {tt : TT3} {te : TE3} {gd : Gp → Prop} {σ : St3} {p : Addr} {Q : Gp → Prop} {G : Gp} (f : D → Option D) (np : G p = none) : ∀ (xs acc : List D),
    (∀ x ∈ xs, ∀ G', Sub G G' → ∀ R : Option D → Gp → Prop, R (f x) G' → t.b x σ fun σ' => tt σ' G' (fun b G1 => if b = true then te σ' G1 (fun d G2 => R (some d) G2) (fun _ _ => False) else R none G1) (fun _ _ => False)) →
    (∀ G', Sub G G' → gd G') → acc.length + xs.length ≤ sizeLine → Q (up G p (.lst (acc ++ xs.filterMap f))) → lcL t tt te gd σ p Q xs (up G p (.lst acc))
  | [], acc, _, hg, _, h => ⟨hg _ (Sub.up np), by simpa using h⟩
  | x :: xs, acc, hs, hg, l, h => by
    have hlen : acc.length < sizeLine := by simp at l; omega
    refine ⟨hg _ (Sub.up np), ?_⟩
    refine hs x (by simp) (up G p (.lst acc)) (Sub.up np) (fun o G2 => match o with
      | some d => ∃ acc, G2 p = some (.lst acc) ∧ acc.length < sizeLine ∧ lcL t tt te gd σ p Q xs (up G2 p (.lst (acc ++ [d])))
      | none => lcL t tt te gd σ p Q xs G2) ?_
    have ih := lcL_pure (t := t) (tt := tt) (te := te) (gd := gd) (σ := σ) (p := p) (Q := Q) f np xs
    cases e : f x with
    | none =>
      rw [List.filterMap_cons, e] at h
      exact ih acc (fun y hy => hs y (by simp [hy])) hg (by simp at l; omega) h
    | some d =>
      rw [List.filterMap_cons, e] at h
      refine ⟨acc, up_same, hlen, ?_⟩
      rw [up_up]
      exact ih (acc ++ [d]) (fun y hy => hs y (by simp [hy])) hg (by simp at l ⊢; omega) (by simpa using h)
theorem lc_pure {m : Bool} {t : Tg} {tt : TT3} {te : TE3} {gd : Gp → Prop} {σ : St3} {Q : QK} {G : Gp} {xs : List D} (f : D → Option D)
    (hs : ∀ x ∈ xs, ∀ G', Sub G G' → ∀ R : Option D → Gp → Prop, R (f x) G' → t.b x σ fun σ' => tt σ' G' (fun b G1 => if b = true then te σ' G1 (fun d G2 => R (some d) G2) (fun _ _ => False) else R none G1) (fun _ _ => False))
    (hg : ∀ G', Sub G G' → gd G') (l : xs.length ≤ sizeLine) (h : outL m (xs.filterMap f) G Q) : ∀ p, G p = none → lcL t tt te gd σ p (lcEnd m p Q) xs (up G p (.lst [])) := fun p np => by
  refine lcL_pure f np xs [] hs hg (by simpa using l) ?_
  cases m with
  | true => exact ⟨⟨_, up_same⟩, by simpa using h p np⟩
  | false => exact ⟨_, up_same, by rw [dl_up np]; simpa [outL] using h⟩
end L3
namespace L3
open PySem PySem.Spec PyProof.Rows L2
open He (ga)
/-! ### methods of lists -/
abbrev QM := D → List D → Gp → QK → Prop
def isL (x : D) (G : Gp) : Prop := ∃ xs, lq G x = some xs
def isS (x : D) (G : Gp) : Prop := ∃ z, x = .str z
def MtR3 (X : Cx) (Z : Zx) (id : String) (t : QM) : Prop := ∃ r : V → List V → Hp → VK → Prop, MtR X id r ∧ ∀ G H x v xs vs Q3 Q, GH (Cxk X Z) G H → Dv (Cxk X Z) G H x v → DvL (Cxk X Z) G H xs vs → t x xs G Q3 → Qk (Cxk X Z) G H Q3 Q → r v vs H Q
def tmeth (ty : D → Gp → Prop) (t : QM) (to : TE3) (ta : TA3) : TE3 := fun σ G Q E => to σ G (fun x G1 => ty x G1 ∧ ta σ G1 (fun ds G2 => t x ds G2 Q) E) E
def tmeth0 (ty : D → Gp → Prop) (t : QM) (to : TE3) : TE3 := fun σ G Q E => to σ G (fun x G1 => ty x G1 ∧ t x [] G1 Q) E
def TyOk (K : K3) (T : String) (ty : D → Gp → Prop) : Prop := ∀ G H x v, GH K G H → Dv K G H x v → ty x G → tyV K.f T v H
theorem ty_list {K : K3} : TyOk K "list" isL := fun G H x v g r ⟨xs, e⟩ => by
  obtain ⟨a, vs, ea, s, rl⟩ := lq_ok g r e
  subst ea
  exact .inl ⟨rfl, vs, s⟩
theorem ty_str {K : K3} : TyOk K "str" isS := fun G H x v g r ⟨z, e⟩ => by
  subst e
  cases r
  rfl
section
variable {X : Cx} {Z : Zx} {W : WX} {o e : Expr} {es : List Expr} {to : TE3} {ta : TA3} {name : Str} {apos cpos : Pos} {T id : String} {t : QM} {ty : D → Gp → Prop}
theorem m_ (pa : PlainAttrs T) (slot : Slot T name id) (hty : typeOf (.builtin id) = pure (.type "method_descriptor")) (tk : TyOk (Cxk X Z) T ty) (hm : MtR3 X Z id t) (ho : PE3 X Z W o to) (ha : PA3 X Z W (e :: es) ta)
    (hbase : attributeBase o name X.env (eval o X.env) = eval o X.env := by rfl)
    (hfew : ((backTo cpos (starEach (e :: es) X.env)).all (fun x => !x.1) && (backToKw cpos (keywordEach [] X.env)).all (fun x => x.1.isSome)
      && decide ((e :: es).length + ([] : List Keyword).length + (if ([] : List Keyword).isEmpty then 0 else 1) < 30)) = true := by rfl)
    (hline : (apos.endLine == cpos.line) = true := by rfl) (hs : starEach (e :: es) X.env = (false, eval e X.env) :: starEach es X.env := by rfl) (hplain : (backTo cpos (starEach es X.env)).any (·.1) = false := by rfl) :
    PE3 X Z W (.Call (.Attribute o name apos) (e :: es) [] cpos) (tmeth ty t to ta) := by
  obtain ⟨r, h, k⟩ := hm
  refine PE.imp (pe_bm pa slot hty h ho ha hbase hfew hline hs hplain) fun σ H Q h => ?_
  obtain ⟨σ3, G, Q3, E3, g, rs, h, q, x⟩ := h
  refine ⟨σ3, G, _, E3, g, rs, h, fun d1 G1 v1 H1 ⟨t1, h1⟩ g1 r1 k1 => ⟨tk _ _ _ _ g1 r1 t1, ?_⟩, x⟩
  refine ⟨σ3, G1, _, E3, g1, rs.keep g k1, h1, fun ds G2 vs H2 h2 g2 r2 k2 => ?_, x.keep k1⟩
  exact k G2 H2 d1 v1 ds vs Q3 Q g2 (r1.keep g1 k2) r2 h2 (q.keep (k1.trans k2))
theorem m0_ (pa : PlainAttrs T) (slot : Slot T name id) (hty : typeOf (.builtin id) = pure (.type "method_descriptor")) (tk : TyOk (Cxk X Z) T ty) (hm : MtR3 X Z id t) (ho : PE3 X Z W o to)
    (hbase : attributeBase o name X.env (eval o X.env) = eval o X.env := by rfl) (hline : (apos.endLine == cpos.line) = true := by rfl) : PE3 X Z W (.Call (.Attribute o name apos) [] [] cpos) (tmeth0 ty t to) := by
  obtain ⟨r, h, k⟩ := hm
  refine PE.imp (pe_bm0 pa slot hty h ho hbase hline) fun σ H Q h => ?_
  obtain ⟨σ3, G, Q3, E3, g, rs, h, q, x⟩ := h
  exact ⟨σ3, G, _, E3, g, rs, h, fun d1 G1 v1 H1 ⟨t1, h1⟩ g1 r1 k1 => ⟨tk _ _ _ _ g1 r1 t1, k G1 H1 d1 v1 [] [] Q3 Q g1 r1 .nil h1 (q.keep k1)⟩, x⟩
end
def mAppend : QM := fun x ds G Q => match x, ds with
  | .ref p, [y] => ∃ xs, G p = some (.lst xs) ∧ xs.length < sizeLine ∧ Q .non (up G p (.lst (xs ++ [y])))
  | _, _ => False
def mExtend : QM := fun x ds G Q => match x, ds with
  | .ref p, [y] => ∃ xs ys, G p = some (.lst xs) ∧ mq G y = some ys ∧ xs.length + ys.length ≤ sizeLine ∧ Q .non (up G p (.lst (xs ++ ys)))
  | _, _ => False
def mPop : QM := fun x ds G Q => match x, ds with
  | .ref p, [] => ∃ xs y, G p = some (.lst xs) ∧ xs[xs.length - 1]? = some y ∧ Q y (up G p (.lst xs.dropLast))
  | _, _ => False
def mPopAt : QM := fun x ds G Q => match x, ds with
  | .ref p, [.int i] => ∃ xs k y, G p = some (.lst xs) ∧ -(2 ^ 63) ≤ i ∧ i < 2 ^ 63 ∧ seqIndex? i xs.length = some k ∧ xs[k]? = some y ∧ Q y (up G p (.lst (xs.eraseIdx k)))
  | _, _ => False
def mIndex : QM := fun x ds G Q => match ds with
  | [y] => ∃ xs j z, lq G x = some xs ∧ flD y = true ∧ xs.all flD = true ∧ xs[j]? = some z ∧ eqD z y = true ∧ (∀ (m : Nat) z', m < j → xs[m]? = some z' → eqD z' y = false) ∧ Q (.int (j : Nat)) G
  | _ => False
section
variable {X : Cx} {Z : Zx}
theorem mut_ok {K : K3} {G : Gp} {H : Hp} {p : Addr} {xs ys : List D} {vs ws : List V} {Q3 : QK} {Q : VK} {d : D} {v : V} (g : GH K G H) (e : G p = some (.lst xs)) (r : DvL K G H ys ws) (rv : Dv K G H d v) (q : Qk K G H Q3 Q) (h : Q3 d (up G p (.lst ys))) : Q v (upd H p (.lst ws)) :=
  q _ _ _ _ h (g.set e ⟨ws, upd_same, r.keep g (Keep.set e)⟩) (rv.keep g (Keep.set e)) (Keep.set e)
theorem me_append : MtR3 X Z "list.append" mAppend := by
  refine ⟨_, mt_append, fun G H x v xs vs Q3 Q g rx r h q => ?_⟩
  unfold mAppend at h
  split at h
  · cases rx
    cases r with
    | cons r1 r2 =>
    cases r2
    obtain ⟨xs, e, l, h⟩ := h
    obtain ⟨ws, e1, rl⟩ := g _ _ e
    exact ⟨_, ws, _, rfl, rfl, e1, by rw [← rl.length]; exact l, mut_ok (vs := ws) g e (rl.append (.cons r1 .nil)) .non q h⟩
  · exact h.elim
theorem me_extend : MtR3 X Z "list.extend" mExtend := by
  refine ⟨_, mt_extend, fun G H x v xs vs Q3 Q g rx r h q => ?_⟩
  unfold mExtend at h
  split at h
  · cases rx
    cases r with
    | cons r1 r2 =>
    cases r2
    obtain ⟨xs, ys, e, e2, l, h⟩ := h
    obtain ⟨ws, e1, rl⟩ := g _ _ e
    obtain ⟨b, us, eb, e3, rl2⟩ := mq_ok g r1 e2
    subst eb
    exact ⟨_, b, ws, us, rfl, rfl, e1, e3, by rw [← rl.length, ← rl2.length]; exact l, mut_ok (vs := ws) g e (rl.append rl2) .non q h⟩
  · exact h.elim
theorem me_pop : MtR3 X Z "list.pop" mPop := by
  refine ⟨_, mt_pop, fun G H x v xs vs Q3 Q g rx r h q => ?_⟩
  unfold mPop at h
  split at h
  · cases rx
    cases r
    obtain ⟨xs, y, e, e2, h⟩ := h
    obtain ⟨ws, e1, rl⟩ := g _ _ e
    obtain ⟨w, e3, r3⟩ := rl.get e2
    exact ⟨_, ws, w, rfl, rfl, e1, by rw [← rl.length]; exact e3, mut_ok (vs := ws) g e rl.dropLast r3 q h⟩
  · exact h.elim
theorem me_popAt : MtR3 X Z "list.pop" mPopAt := by
  refine ⟨_, mt_popAt, fun G H x v xs vs Q3 Q g rx r h q => ?_⟩
  unfold mPopAt at h
  split at h
  · cases rx
    cases r with
    | cons r1 r2 =>
    cases r1; cases r2
    obtain ⟨xs, k, y, e, l1, l2, e4, e2, h⟩ := h
    obtain ⟨ws, e1, rl⟩ := g _ _ e
    obtain ⟨w, e3, r3⟩ := rl.get e2
    exact ⟨_, ws, _, k, w, rfl, rfl, e1, l1, l2, by rw [← rl.length]; exact e4, e3, mut_ok (vs := ws) g e (rl.eraseIdx k) r3 q h⟩
  · exact h.elim
theorem me_index : MtR3 X Z "list.index" mIndex := by
  refine ⟨_, mt_index, fun G H x v xs vs Q3 Q g rx r h q => ?_⟩
  unfold mIndex at h
  split at h
  · cases r with
    | cons r1 r2 =>
    cases r2
    obtain ⟨ys, j, z, e, fy, fs, ez, eq, no, h⟩ := h
    obtain ⟨a, ws, ea, s, rl⟩ := lq_ok g rx e
    obtain ⟨w, e3, r3⟩ := rl.get ez
    have fz : flD z = true := List.all_eq_true.mp fs z (List.mem_of_getElem? ez)
    refine ⟨a, ws, _, j, w, ea, rfl, s, fl_ok r1 fy, fls_ok rl fs, e3, by rw [eqV_ok r3 r1 fz fy]; exact eq, fun m u hm hu => ?_, q_of q g h (.int _)⟩
    obtain ⟨z', ez'⟩ : ∃ z', ys[m]? = some z' := by
      have : m < ys.length := by rw [rl.length]; exact (List.getElem?_eq_some_iff.mp hu).1
      exact ⟨ys[m], by simp [this]⟩
    obtain ⟨u', eu', ru'⟩ := rl.get ez'
    rw [hu] at eu'; cases eu'
    rw [eqV_ok ru' r1 (List.all_eq_true.mp fs z' (List.mem_of_getElem? ez')) fy]
    exact no m z' hm ez'
  · exact h.elim
end
/-! ### o[i] = v -/
abbrev QS := D → D → D → Gp → (Gp → Prop) → Prop
def PSet3 (X : Cx) (Z : Zx) (t : QS) : Prop := ∃ r : TSet, PSet X r ∧ ∀ G H o i x ov iv v Q3 (Q : Hp → Prop), GH (Cxk X Z) G H → Dv (Cxk X Z) G H o ov → Dv (Cxk X Z) G H i iv → Dv (Cxk X Z) G H x v → t o i x G Q3 → (∀ G' H', Q3 G' → GH (Cxk X Z) G' H' → Keep G H G' H' → Q H') → r ov iv v H Q
def setL3 : QS := fun o i x G Q => match o, i with
  | .ref p, .int k => ∃ xs j, G p = some (.lst xs) ∧ ixN xs.length k = some j ∧ Q (up G p (.lst (xs.set j x)))
  | _, _ => False
theorem se_list {X : Cx} {Z : Zx} : PSet3 X Z setL3 := by
  refine ⟨_, set_list, fun G H o i x ov iv v Q3 Q g ro ri rx h q => ?_⟩
  unfold setL3 at h
  split at h
  · cases ro; cases ri
    obtain ⟨xs, j, e, l, h⟩ := h
    obtain ⟨ws, e1, rl⟩ := g _ _ e
    exact ⟨_, ws, _, j, rfl, rfl, e1, by rw [← rl.length]; exact l, q _ _ h (g.set e ⟨_, upd_same, (DvL.set rx j rl).keep g (Keep.set e)⟩) (Keep.set e)⟩
  · exact h.elim
def ssub (to ti te : TE3) (t : QS) : TS3 := fun E σ G => te σ G (fun x G1 => to σ G1 (fun o G2 => ti σ G2 (fun i G3 => t o i x G3 fun G4 => E.nx σ G4) (fun x G1 => E.ex x σ G1)) (fun x G1 => E.ex x σ G1)) (fun x G1 => E.ex x σ G1)
section
variable {X : Cx} {Z : Zx} {W : WX} {o i e : Expr} {to ti te : TE3} {t : QS} {tpos pos : Pos}
theorem setIx_ (hs : PSet3 X Z t) (ho : PE3 X Z W o to) (hi : PE3 X Z W i ti) (he : PE3 X Z W e te)
    (ha : ∀ v, assign (.Subscript o i tpos) X.env v = (do
      let ov ← holding [v] (eval o X.env)
      let iv ← holding [v, ov] (eval i X.env)
      standAt tpos
      holding [v, ov, iv] (setItem ov iv v)
      release [v, ov, iv] []) := by intro _; rfl)
    (hsw : swapsWithSole [.Subscript o i tpos] e pos.line X.env = pure false := by rfl) (hw : swappedStores [.Subscript o i tpos] e X.env = pure none := by rfl)
    (h1 : (assignEach [.Subscript o i tpos] X.env).map (·.2) = [assign (.Subscript o i tpos) X.env] := by rfl) : PS3 X Z W (.Assign [.Subscript o i tpos] e pos) (ssub to ti te t) := by
  obtain ⟨r, hs, k⟩ := hs
  refine PS.imp (ps_asg he (pg_sub ho hi hs ha) hsw hw h1) fun D σ H h => ?_
  obtain ⟨σ3, G, D3, g, rs, h, d⟩ := h
  refine ⟨σ3, G, _, _, g, rs, h, fun x G1 v H1 h1 g1 r1 k1 => ?_, d.exk g rs⟩
  refine ⟨σ3, G1, _, _, g1, rs.keep g k1, h1, fun x2 G2 v2 H2 h2 g2 r2 k2 => ?_, (d.keep k1).exk g1 (rs.keep g k1)⟩
  refine ⟨σ3, G2, _, _, g2, (rs.keep g k1).keep g1 k2, h2, fun x3 G3 v3 H3 h3 g3 r3 k3 => ?_, ((d.keep k1).keep k2).exk g2 ((rs.keep g k1).keep g1 k2)⟩
  refine k G3 H3 x2 x3 x v2 v3 v _ _ g3 (r2.keep g2 k3) r3 ((r1.keep g1 k2).keep g2 k3) h3 fun G4 H4 h4 g4 k4 => ?_
  exact d.nx _ _ _ _ h4 g4 ((((rs.keep g k1).keep g1 k2).keep g2 k3).keep g3 k4) (((k1.trans k2).trans k3).trans k4)
end
/-! ### freezing -/
/-- a list that is written no more -/
def fz (d : D) (G : Gp) (Q : QK) : Prop := match d with
  | .ref p => (match G p with
    | some (.lst xs) => Q (.fl xs) (dl G p)
    | some (.ins c fs) => Q (.ob c (fs.map (·.1)) (fs.map (·.2))) (dl G p)
    | _ => Q d G)
  | _ => Q d G
def tfz (te : TE3) : TE3 := fun σ G Q E => te σ G (fun d G1 => fz d G1 Q) E
theorem fz_ok {K : K3} {G : Gp} {H : Hp} {Q3 : QK} {Q : VK} {d : D} {v : V} (g : GH K G H) (r : Dv K G H d v) (h : fz d G Q3) (q : Qk K G H Q3 Q) : Q v H := by
  unfold fz at h
  split at h
  · rename_i p
    split at h
    · rename_i xs e
      obtain ⟨vs, e1, rl⟩ := g p _ e
      cases r
      exact q _ _ _ _ h (g.sub Sub.dl) (.fl e1 dl_same (rl.keep g (Keep.sub Sub.dl))) (Keep.sub Sub.dl)
    · rename_i c fs e
      obtain ⟨dx, vs, e1, rl⟩ := g p _ e
      cases r
      refine q _ _ _ _ h (g.sub Sub.dl) (.ob e1 ?_ dl_same (rl.keep g (Keep.sub Sub.dl))) (Keep.sub Sub.dl)
      have := rl.length
      simpa using this
    · exact q_of q g h r
  · exact q_of q g h r
theorem fz_ {X : Cx} {Z : Zx} {W : WX} {e : Expr} {te : TE3} (h : PE3 X Z W e te) : PE3 X Z W e (tfz te) := PE.imp h fun σ H Q h => by
  obtain ⟨σ3, G, Q3, E3, g, rs, h, q, x⟩ := h
  exact ⟨σ3, G, _, E3, g, rs, h, fun d G1 v H1 h1 g1 r1 k1 => fz_ok g1 r1 h1 (q.keep k1), x⟩
/-! ### a def keeps its promise -/
/-- at a def's end: less of G may be kept -/
def dn (Q : QK) : QK := fun d G => ∃ G', Sub G' G ∧ Q d G'
def fnEnds (Q : QK) (E : EK) : Ends3 := { nx := fun _ G => dn Q .non G, rt := dn Q, ex := fun x _ G => ∃ G', Sub G' G ∧ E x G' }
def start3 (N : List Str) (ds : List D) : St3 := ds.map some ++ List.replicate (N.length - ds.length) none
section
variable {P : Program} {w : World} {K : K3} {mg : Str → Option Value} {base : Heap}
theorem start_rs {G : Gp} {H : Hp} {ds : List D} {vs : List V} (N : List Str) (r : DvL K G H ds vs) : Rs K G H (start3 N ds) (L2.start N vs) := by
  unfold start3 L2.start
  rw [r.length]
  refine ⟨by simp [r.length], fun i d e => ?_⟩
  by_cases hi : i < ds.length
  · rw [List.getElem?_append_left (by simpa using hi), List.getElem?_map] at e
    cases e2 : ds[i]? with
    | none => rw [e2] at e; cases e
    | some x =>
      rw [e2] at e; cases e
      obtain ⟨v, h1, h2⟩ := r.get e2
      refine ⟨v, ?_, h2⟩
      rw [List.getElem?_append_left (by simp; rw [← r.length]; exact hi), List.getElem?_map, h1]; rfl
  · rw [List.getElem?_append_right (by simpa using hi), List.getElem?_replicate] at e
    split at e <;> cases e
theorem Xv.sub {G G' : Gp} {H : Hp} {x : X3} {c : Value} {d : Option Addr} (g : GH K G H) (s : Sub G' G) (h : Xv K G H x c d) : Xv K G' H x c d := by
  obtain ⟨h1, h2⟩ := h
  refine ⟨h1, ?_⟩
  cases e : x.f with
  | none => trivial
  | some p =>
    obtain ⟨f, y⟩ := p
    rw [e] at h2
    obtain ⟨a, v, e1, e2, r⟩ := h2
    exact ⟨a, v, e1, e2, r.keep g (Keep.sub s)⟩
/-- THE RULE for a def -/
theorem fn3_of {K : PySem.W.Frag} {x qual : Str} {params : Arguments} {body : List Stmt} {scope : Scope} {f : Addr} {fd : FuncData} {N ps : List Str} {k : Nat} {sp : Sp3}
    (F : FunD K x qual params body scope [] [] f fd) (S : FnScope N ps scope) (len : ∀ ds G Q E, sp ds G Q E → ds.length = ps.length)
    (hbody : ∃ t : TS3, (∀ (cdv : Value) (A : Around) (outer : List Env) (s : Shared) (H : Hp) (E : XK), Room k (A.deeper (envOfC qual scope s.heap.objs.size f cdv)) →
        PSs3 (cxOf (L2.CX P w) P w K mg base N qual scope f cdv A outer s H E) Z0 (fun c d _ H' => E c d H') body t) ∧
      ∀ ds G Q E, sp ds G Q E → t (fnEnds Q E) (start3 N ds) G) : FnOk P w K mg base (L2.CX P w) (k + 1) f fd ps (liftSp ⟨K, Z0⟩ sp) := by
  obtain ⟨t, hb, hv⟩ := hbody
  refine F.ok S (fun vs H Q E h => ?_) (fun cdv A outer s H vs Q E hr h => ?_)
  · obtain ⟨ds, G, Q3, E3, g, r, h, _⟩ := h
    rw [← r.length]
    exact len _ _ _ _ h
  · refine ⟨_, hb cdv A outer s H E hr, ?_⟩
    obtain ⟨ds, G, Q3, E3, g, r, h, q, x⟩ := h
    refine ⟨start3 N ds, G, fnEnds Q3 E3, g, start_rs N r, hv ds G Q3 E3 h, ⟨fun σ3 G1 σ H1 ⟨G2, s2, h1⟩ g1 r1 k1 => ?_, fun d G1 v H1 ⟨G2, s2, h1⟩ g1 r1 k1 => ?_, fun _ _ _ _ z => z.elim, fun _ _ _ _ z => z.elim, fun x3 σ3 G1 c d σ H1 ⟨G2, s2, h1⟩ g1 r1 xv k1 => ?_⟩⟩
    · exact q _ _ _ _ h1 (g1.sub s2) .non (k1.trans (Keep.sub s2))
    · exact q _ _ _ _ h1 (g1.sub s2) (r1.keep g1 (Keep.sub s2)) (k1.trans (Keep.sub s2))
    · exact x _ _ _ _ _ h1 (g1.sub s2) (xv.sub g1 s2) (k1.trans (Keep.sub s2))
theorem fn3 {K : PySem.W.Frag} {x : Str} {params : Arguments} {body : List Stmt} {scope : Scope} {f : Addr} {fd : FuncData} {N ps : List Str} {k : Nat} {sp : Sp3} (hm : mg x = some (.ref f))
    (F : FunD K x x params body scope [] [] f fd) (S : FnScope N ps scope) (hb : Binds K fd ps []) (len : ∀ ds G Q E, sp ds G Q E → ds.length = ps.length)
    (hbody : ∃ t : TS3, (∀ (cdv : Value) (A : Around) (outer : List Env) (s : Shared) (H : Hp) (E : XK), Room k (A.deeper (envOfC x scope s.heap.objs.size f cdv)) →
        PSs3 (cxOf (L2.CX P w) P w K mg base N x scope f cdv A outer s H E) Z0 (fun c d _ H' => E c d H') body t) ∧
      ∀ ds G Q E, sp ds G Q E → t (fnEnds Q E) (start3 N ds) G) : Fn3 P w K mg base x (k + 1) sp := ⟨f, fd, ps, hm, F.kp, hb, fn3_of F S len hbody⟩
end
end L3
namespace L3
open PySem PySem.Spec PyProof.Rows L2
open He (ga)
/-! ### a statement, an expression that is never reached -/
theorem sdead_ {X : Cx} {Z : Zx} {W : WX} {st : Stmt} : PS3 X Z W st (fun _ _ _ => False) := ⟨fun _ _ _ _ _ _ h => by obtain ⟨_, _, _, _, _, h, _⟩ := h; exact h.elim⟩
theorem ssdead_ {X : Cx} {Z : Zx} {W : WX} {st : List Stmt} : PSs3 X Z W st (fun _ _ _ => False) := ⟨fun _ _ _ _ _ _ h => by obtain ⟨_, _, _, _, _, h, _⟩ := h; exact h.elim⟩
theorem edead_ {X : Cx} {Z : Zx} {W : WX} {e : Expr} : PE3 X Z W e (fun _ _ _ _ => False) := ⟨fun _ _ _ _ _ _ h => by obtain ⟨_, _, _, _, _, _, h, _⟩ := h; exact h.elim⟩
/-! ### types -/
inductive Bt where
  | non | bl | int | str | tup | lst | dic
  deriving DecidableEq
def Bt.n : Bt → String
  | .non => "NoneType" | .bl => "bool" | .int => "int" | .str => "str" | .tup => "tuple" | .lst => "list" | .dic => "dict"
def Bt.all : List Bt := [.non, .bl, .int, .str, .tup, .lst, .dic]
theorem Bt.mem (t : Bt) : t ∈ Bt.all := by cases t <;> decide
inductive Ty3 where
  | b (t : Bt) | o (c : Str)
def Ty3.v (K : PySem.W.Frag) : Ty3 → Value
  | .b t => .type t.n
  | .o c => .ref (ga K c)
def tyD (G : Gp) : D → Option Ty3
  | .non => some (.b .non)
  | .bl _ => some (.b .bl)
  | .int _ => some (.b .int)
  | .str _ => some (.b .str)
  | .tup _ => some (.b .tup)
  | .fl _ => some (.b .lst)
  | .sl _ => some (.b .lst)
  | .ob c _ _ => some (.o c)
  | .emp => some (.b .dic)
  | .ref a => (match G a with
    | some (.lst _) => some (.b .lst)
    | some (.dic _) => some (.b .dic)
    | some (.ins c _) => some (.o c)
    | none => none)
  | _ => none
/-- a class whose instances are looked at -/
structure OwnC (K : PySem.W.Frag) (c : Str) : Prop where
  cl : Cls K (ga K c)
  ha : PySem.W.findIn K (.ref (ga K c)) "__class__" = some (some (.builtin "object.__class__"))
  hn : PySem.W.specialIn K (.builtin "object.__class__") "__get__" = some (some (.builtin "getset_descriptor.__get__"))
  htk : PySem.W.takesIn K (.builtin "object.__class__") = some true
  hm : PySem.W.mroIn K (ga K c) (.type "object") = some true
structure IsF (K : PySem.W.Frag) (OC : List Str) : Prop where
  own : ∀ c ∈ OC, OwnC K c
  ob : ∀ c ∈ OC, ∀ T : Bt, PySem.W.kitOne K (.ref (ga K c)) (.type T.n) = some false
  bo : ∀ c ∈ OC, ∀ T : Bt, PySem.W.kitOne K (.type T.n) (.ref (ga K c)) = some false
  oo : ∀ c ∈ OC, ∀ d ∈ OC, PySem.W.kitOne K (.ref (ga K c)) (.ref (ga K d)) = some (c == d)
def isfB (OC : List Str) (K : PySem.W.Frag) : Bool := OC.all fun c => (He.Fa.ok K (.cls c) && (decide (PySem.W.findIn K (.ref (ga K c)) "__class__" = some (some (.builtin "object.__class__"))) && (decide (PySem.W.specialIn K (.builtin "object.__class__") "__get__" = some (some (.builtin "getset_descriptor.__get__"))) &&
  (decide (PySem.W.takesIn K (.builtin "object.__class__") = some true) && decide (PySem.W.mroIn K (ga K c) (.type "object") = some true))))) &&
  ((Bt.all.all fun T => decide (PySem.W.kitOne K (.ref (ga K c)) (.type T.n) = some false) && decide (PySem.W.kitOne K (.type T.n) (.ref (ga K c)) = some false)) &&
  OC.all fun d => decide (PySem.W.kitOne K (.ref (ga K c)) (.ref (ga K d)) = some (c == d)))
theorem isf_ok {K : PySem.W.Frag} {OC : List Str} (h : isfB OC K = true) : IsF K OC := by
  have key : ∀ c ∈ OC, _ := fun c hc => He.ba (List.all_eq_true.mp h c hc)
  refine ⟨fun c hc => ?_, fun c hc T => ?_, fun c hc T => ?_, fun c hc d hd => ?_⟩
  · obtain ⟨h1, _⟩ := key c hc
    obtain ⟨h1, h2⟩ := He.ba h1
    obtain ⟨h2, h3⟩ := He.ba h2
    obtain ⟨h3, h4⟩ := He.ba h3
    obtain ⟨h4, h5⟩ := He.ba h4
    exact ⟨He.cls_ok h1, of_decide_eq_true h2, of_decide_eq_true h3, of_decide_eq_true h4, of_decide_eq_true h5⟩
  · obtain ⟨_, h1⟩ := key c hc
    obtain ⟨h1, _⟩ := He.ba h1
    exact of_decide_eq_true (He.ba (List.all_eq_true.mp h1 T T.mem)).1
  · obtain ⟨_, h1⟩ := key c hc
    obtain ⟨h1, _⟩ := He.ba h1
    exact of_decide_eq_true (He.ba (List.all_eq_true.mp h1 T T.mem)).2
  · obtain ⟨_, h1⟩ := key c hc
    obtain ⟨_, h1⟩ := He.ba h1
    exact of_decide_eq_true (List.all_eq_true.mp h1 d hd)
/-- is it of this built-in type -/
def isT (OC : List Str) (T : Bt) : Ty3 → Option Bool
  | .b U => some (decide (U = T) || (decide (U = .bl) && decide (T = .int)))
  | .o c => if OC.contains c then some false else none
/-- .. of this own class -/
def isO (OC : List Str) (C : Str) : Ty3 → Option Bool
  | .b _ => some false
  | .o c => if OC.contains c then some (c == C) else none
/-- .. of one of these -/
def isA (OC : List Str) (Ts : List Bt) : Ty3 → Option Bool
  | .b U => some (Ts.any fun T => decide (U = T) || (decide (U = .bl) && decide (T = .int)))
  | .o c => if OC.contains c then some false else none
theorem kitB_all : ∀ U T : Bt, kitB U.n T.n = some (decide (U = T) || (decide (U = .bl) && decide (T = .int))) := by
  intro U T; cases U <;> cases T <;> decide +kernel
def TbC (K : PySem.W.Frag) (u : Value) (f : Ty3 → Option Bool) : Prop := ∀ t b, f t = some b → PySem.W.kitOne K (t.v K) u = some b ∧ ∀ c, t = .o c → OwnC K c
section
variable {K : PySem.W.Frag} {OC : List Str}
theorem tb_b (F : IsF K OC) (T : Bt) : TbC K (.type T.n) (isT OC T) := fun t b h => by
  cases t with
  | b U =>
    cases h
    exact ⟨kit_ty (kitB_all U T), fun c e => by cases e⟩
  | o c =>
    unfold isT at h
    simp only at h
    split at h
    · rename_i hc
      cases h
      have hc : c ∈ OC := by simpa using hc
      exact ⟨F.ob c hc T, fun d e => by cases e; exact F.own c hc⟩
    · cases h
theorem tb_o (F : IsF K OC) (C : Str) (hC : C ∈ OC) : TbC K (.ref (ga K C)) (isO OC C) := fun t b h => by
  cases t with
  | b U =>
    cases h
    exact ⟨F.bo C hC U, fun c e => by cases e⟩
  | o c =>
    unfold isO at h
    simp only at h
    split at h
    · rename_i hc
      cases h
      have hc : c ∈ OC := by simpa using hc
      exact ⟨F.oo c hc C hC, fun d e => by cases e; exact F.own c hc⟩
    · cases h
end
section
variable {K : K3} {G : Gp} {H : Hp}
theorem tyD_ok (g : GH K G H) {x : D} {v : V} {t : Ty3} (r : Dv K G H x v) (h : tyD G x = some t) (ow : ∀ c, t = .o c → OwnC K.f c) : TyX K.f H v (t.v K.f) := by
  cases r with
  | non => cases h; exact .base .non
  | bl b => cases h; exact .base (.bl b)
  | int i => cases h; exact .base (.int i)
  | str z => cases h; exact .base (.str z)
  | tup s r =>
    cases h
    rcases s with (s | ⟨o, s⟩) | ⟨o, its, n, s1, s2, _⟩
    · exact .base (.tup s)
    · exact .fTuple s
    · exact .kTuple s1 s2
  | fl s n r => cases h; exact .base (.lst s)
  | sl s r =>
    cases h
    rcases s with ⟨s | ⟨o, s⟩, _⟩ | ⟨o, its, n, s1, s2, _⟩
    · exact .base (.lst s)
    · exact .base (.frz s)
    · exact .kList s1 s2
  | ob s l n r =>
    cases h
    have w := ow _ rfl
    exact .base (.ins s w.cl w.ha w.hn w.htk w.hm)
  | emp s n => cases h; exact .base (.dK s)
  | ref a =>
    unfold tyD at h
    simp only at h
    split at h
    · rename_i xs e
      cases h
      obtain ⟨vs, h2, _⟩ := g a _ e
      exact .base (.lst h2)
    · rename_i xs e
      cases h
      obtain ⟨vs, h2, _⟩ := g a _ e
      exact .base (.dK h2)
    · rename_i c fs e
      cases h
      obtain ⟨dx, vs, h2, _⟩ := g a _ e
      have w := ow _ rfl
      exact .base (.ins h2 w.cl w.ha w.hn w.htk w.hm)
    · cases h
  | ex h0 => cases h
  | exf h0 h1 h2 r => cases h
end
def tisi (f : Ty3 → Option Bool) (te : TE3) : TE3 := fun σ G Q E => te σ G (fun x G1 => ∃ t b, tyD G1 x = some t ∧ f t = some b ∧ Q (.bl b) G1) E
/-- the class as it is written -/
def IsC (X : Cx) (c : Expr) (u : Value) : Prop := ∃ cv, PE X c (tC cv) ∧ ClsV cv u
section
variable {X : Cx} {Z : Zx} {W : WX} {e c : Expr} {te : TE3} {pos p q pc : Pos} {f : Ty3 → Option Bool} {u : Value} {OC : List Str}
theorem isc_b (T : Bt) {x : Str} (hm : X.mg x = none) (hv : bootBuiltins x = some (.type T.n) := by decide +kernel) (hg : Gl X x := by rfl) (hn : x ≠ "__name__" := by decide +kernel) (hd : (x == ("__debug__" : Str)) = false := by decide +kernel) : IsC X (.Name x p) (.type T.n) :=
  ⟨.ty T.n, pe_bltn hg hm hv rfl hn hd, .ty _⟩
theorem isc_o {x : Str} (hm : X.mg x = some (.ref (ga X.K x))) (hg : Gl X x := by rfl) (hd : (x == ("__debug__" : Str)) = false := by decide +kernel) : IsC X (.Name x p) (.ref (ga X.K x)) :=
  ⟨.ref (ga X.K x), pe_glob hg hm rfl hd, .own _⟩
theorem isi_ (hi : X.mg "isinstance" = none) (hc : IsC X c u) (tb : TbC X.K u f) (he : PE3 X Z W e te) (hg : Gl X "isinstance" := by rfl)
    (he1 : starEach [e, c] X.env = (false, eval e X.env) :: starEach [c] X.env := by rfl) (he2 : starEach [c] X.env = (false, eval c X.env) :: starEach [] X.env := by rfl) (hpl : (backTo pos (starEach [c] X.env)).any (·.1) = false := by rfl) :
    PE3 X Z W (.Call (.Name "isinstance" p) [e, c] [] pos) (tisi f te) := by
  obtain ⟨cv, hc, k⟩ := hc
  refine PE.imp (pe_callB call_isi hg hi (by decide +kernel) (pa_cons he (pa_cons hc pa_nil he2) he1) (by decide) (by decide) he1 hpl) fun σ H Q h => ?_
  obtain ⟨σ3, G, Q3, E3, g, rs, h, qk, x⟩ := h
  refine ⟨σ3, G, _, E3, g, rs, h, fun d G1 v H1 ⟨t, b, h1, h2, h3⟩ g1 r1 k1 => ?_, x⟩
  obtain ⟨t1, t2⟩ := tb t b h2
  exact ⟨v, cv, _, u, b, rfl, k, tyD_ok g1 r1 h1 t2, t1, q_of (qk.keep k1) g1 h3 (.bl b)⟩
theorem kitAny_all (F : IsF X.K OC) : ∀ (Ts : List Bt) (t : Ty3) (b : Bool), isA OC Ts t = some b → PySem.W.kitAny X.K (t.v X.K) (Ts.map fun T => .type T.n) = some b ∧ ∀ c, t = .o c → OwnC X.K c
  | [], t, b, h => by
    cases t with
    | b U =>
      cases h
      exact ⟨kitAny_nil, fun c e => by cases e⟩
    | o c =>
      unfold isA at h
      simp only at h
      split at h
      · rename_i hc
        cases h
        exact ⟨kitAny_nil, fun d e => by cases e; exact F.own c (by simpa using hc)⟩
      · cases h
  | T :: Ts, t, b, h => by
    cases t with
    | b U =>
      cases h
      refine ⟨kitAny_cons (b := decide (U = T) || (decide (U = .bl) && decide (T = .int))) (kit_ty (kitB_all U T)) (fun e => ?_) (fun e => ?_), fun c e => by cases e⟩
      · rw [(kitAny_all F Ts (.b U) _ rfl).1, List.any_cons, e, Bool.false_or]
      · rw [List.any_cons, e, Bool.true_or]
    | o c =>
      unfold isA at h
      simp only at h
      split at h
      · rename_i hc
        cases h
        have hc' : c ∈ OC := by simpa using hc
        refine ⟨kitAny_cons (F.ob c hc' T) (fun _ => (kitAny_all F Ts (.o c) false ?_).1) (fun e => by cases e), fun d e => by cases e; exact F.own c hc'⟩
        unfold isA
        simp only
        rw [if_pos hc]
      · cases h
/-- isinstance(x, (T, U)) -/
theorem isi2_ (F : IsF X.K OC) (T U : Bt) {x y : Str} {k : Nat} {p1 p2 pt : Pos} (hi : X.mg "isinstance" = none) (h1 : X.mg x = none) (h2 : X.mg y = none) (he : PE3 X Z W e te) (hv1 : bootBuiltins x = some (.type T.n) := by decide +kernel) (hv2 : bootBuiltins y = some (.type U.n) := by decide +kernel)
    (hg : Gl X "isinstance" := by rfl) (hg1 : Gl X x := by rfl) (hg2 : Gl X y := by rfl) (hn1 : x ≠ "__name__" := by decide +kernel) (hd1 : (x == ("__debug__" : Str)) = false := by decide +kernel) (hn2 : y ≠ "__name__" := by decide +kernel) (hd2 : (y == ("__debug__" : Str)) = false := by decide +kernel)
    (he1 : starEach [e, .Tuple [.Name x p1, .Name y p2] k pt] X.env = (false, eval e X.env) :: starEach [.Tuple [.Name x p1, .Name y p2] k pt] X.env := by rfl) (hpl : (backTo pos (starEach [.Tuple [.Name x p1, .Name y p2] k pt] X.env)).any (·.1) = false := by rfl) :
    PE3 X Z W (.Call (.Name "isinstance" p) [e, .Tuple [.Name x p1, .Name y p2] k pt] [] pos) (tisi (isA OC [T, U]) te) := by
  refine PE.imp (pe_callB call_isiT hg hi (by decide +kernel) (pa_cons he (pa_cons (pe_tup (pa_cons (pe_bltn (v := .ty T.n) hg1 h1 hv1 rfl hn1 hd1) (pa_cons (pe_bltn (v := .ty U.n) hg2 h2 hv2 rfl hn2 hd2) pa_nil))) pa_nil) he1) (by decide) (by decide) he1 hpl) fun σ H Q h => ?_
  obtain ⟨σ3, G, Q3, E3, g, rs, h, qk, x⟩ := h
  refine ⟨σ3, G, _, E3, g, rs, h, fun d G1 v H1 ⟨t, b, h1, h2, h3⟩ g1 r1 k1 => ?_, x⟩
  obtain ⟨t1, t2⟩ := kitAny_all F [T, U] t b h2
  refine ⟨by show 2 ≤ sizeLine; decide, fun tp n => ?_⟩
  have k2 : Keep G1 H1 G1 (upd H1 tp (.tup [V.ty T.n, V.ty U.n])) := Keep.new n
  refine ⟨v, tp, _, _, _, b, rfl, upd_same, .cons (.ty T.n) (.cons (.ty U.n) .nil), tyD_ok (g1.new n) (r1.keep g1 k2) h1 t2, t1, ?_⟩
  exact q_of (qk.keep (k1.trans k2)) (g1.new n) h3 (.bl b)
end
/-! ### -x -/
def tneg (te : TE3) : TE3 := fun σ G Q E => te σ G (fun x G1 => ∃ i, x = .int i ∧ Q (.int (-i)) G1) E
section
variable {X : Cx} {Z : Zx} {W : WX} {e a b : Expr} {te : TE3} {ta : TA3} {pos : Pos}
theorem neg_ (h : PE3 X Z W e te) : PE3 X Z W (.UnaryOp .USub e pos) (tneg te) := PE.imp (pe_un un_neg h) fun σ H Q h => by
  obtain ⟨σ3, G, Q3, E3, g, rs, h, q, x⟩ := h
  refine ⟨σ3, G, _, E3, g, rs, h, fun d G1 v H1 ⟨i, e, h1⟩ g1 r1 k1 => ?_, x⟩
  subst e
  cases r1
  exact ⟨i, rfl, q_of (q.keep k1) g1 h1 (.int _)⟩
/-! ### a, b = e1, e2 -/
def spar (i j : Nat) (ta : TA3) : TS3 := fun D σ G => ta σ G (fun ds G1 => ∃ v w, ds = [v, w] ∧ D.nx ((σ.set i (some v)).set j (some w)) G1) (fun x G1 => D.ex x σ G1)
theorem par_ (i j : Nat) {x y : Str} {px py pt : Pos} {kt k2 pt2} (hc : X.calm = true) (hN : X.N.Nodup) (ha : PA3 X Z W [a, b] ta) (hi : X.N[i]? = some x := by rfl) (hj : X.N[j]? = some y := by rfl) (hij : i ≠ j := by decide)
    (hx : X.env.scope.names.lookup x = some .local := by rfl) (hy : X.env.scope.names.lookup y = some .local := by rfl)
    (hw : swappedStores [.Tuple [.Name x px, .Name y py] kt pt] (.Tuple [a, b] k2 pt2) X.env = pure (some [x, y]) := by rfl)
    (hs : swapsWithSole [.Tuple [.Name x px, .Name y py] kt pt] (.Tuple [a, b] k2 pt2) pos.line X.env = pure false := by rfl) :
    PS3 X Z W (.Assign [.Tuple [.Name x px, .Name y py] kt pt] (.Tuple [a, b] k2 pt2) pos) (spar i j ta) := PS.imp (ps_par hc hN hi hj hij hx hy ha hw hs) fun D σ H h => by
  obtain ⟨σ3, G, D3, g, rs, h, d⟩ := h
  refine ⟨σ3, G, _, _, g, rs, h, fun ds G1 vs H1 ⟨v, w, e, h1⟩ g1 r1 k1 => ?_, d.exk g rs⟩
  subst e
  cases r1 with
  | cons r1 r2 =>
  cases r2 with
  | cons r2 r3 =>
  cases r3
  exact ⟨_, _, rfl, d.nx _ _ _ _ h1 g1 (((rs.keep g k1).set r1 i).set r2 j) k1⟩
/-- a, b, .. = e -/
def sunp (is : List Nat) (te : TE3) : TS3 := fun D σ G => te σ G (fun x G1 => (Tg.t is).b x σ fun σ' => D.nx σ' G1) (fun x G1 => D.ex x σ G1)
theorem unp_ {tg : Expr} (is : List Nat) (he : PE3 X Z W e te) (hg : PG X tg ((Tg.t is).g X.K)) (hs : swapsWithSole [tg] e pos.line X.env = pure false := by rfl) (hw : swappedStores [tg] e X.env = pure none := by rfl)
    (h1 : (assignEach [tg] X.env).map (·.2) = [assign tg X.env] := by rfl) : PS3 X Z W (.Assign [tg] e pos) (sunp is te) := PS.imp (ps_asg he hg hs hw h1) fun D σ H h => by
  obtain ⟨σ3, G, D3, g, rs, h, d⟩ := h
  refine ⟨σ3, G, _, _, g, rs, h, fun x G1 v H1 h1 g1 r1 k1 => ?_, d.exk g rs⟩
  exact Tg.run (rs.keep g k1) r1 h1 fun σ5 σ6 h5 r5 _ => d.nx _ _ _ _ h5 g1 r5 k1
end
/-! ### attributes -/
def fldD (c f : Str) (G : Gp) : D → Option D
  | .ob c' ns xs => if c' = c then (ns.zip xs).lookup f else none
  | .ref a => (match G a with
    | some (.ins c' fs) => if c' = c then fs.lookup f else none
    | _ => none)
  | _ => none
def put3 (f : Str) (v : D) : List (Str × D) → List (Str × D)
  | [] => [(f, v)]
  | (g, x) :: r => if g = f then (g, v) :: r else (g, x) :: put3 f v r
def tfld (c f : Str) (te : TE3) : TE3 := fun σ G Q E => te σ G (fun x G1 => ∃ d, fldD c f G1 x = some d ∧ Q d G1) E
def sfld (c f : Str) (to tv : TE3) : TS3 := fun D σ G => tv σ G (fun y G1 => to σ G1 (fun x G2 => ∃ a fs, x = .ref a ∧ G2 a = some (.ins c fs) ∧ fs.length < 1000 ∧ D.nx σ (up G2 a (.ins c (put3 f y fs)))) (fun x G1 => D.ex x σ G1)) (fun x G1 => D.ex x σ G1)
section
variable {K : K3} {G : Gp} {H : Hp}
theorem zip_look : ∀ {ns : List Str} {xs : List D} {vs : List V} {f : Str} {d : D}, DvL K G H xs vs → (ns.zip xs).lookup f = some d → ∃ v, (ns.zip vs).lookup f = some v ∧ Dv K G H d v
  | [], _, _, _, _, _, h => by simp at h
  | _ :: _, [], _, _, _, _, h => by simp at h
  | n :: ns, x :: xs, v :: vs, f, d, .cons r t, h => by
    rw [List.zip_cons_cons, List.lookup_cons] at h ⊢
    cases e : f == n with
    | true =>
      rw [e] at h
      cases h
      exact ⟨v, rfl, r⟩
    | false =>
      rw [e] at h
      exact zip_look t h
theorem zip_self : ∀ (fs : List (Str × D)), (fs.map (·.1)).zip (fs.map (·.2)) = fs
  | [] => rfl
  | (a, b) :: r => by simp [zip_self r]
theorem fldD_ok (g : GH K G H) {c f : Str} {x d : D} {v : V} (r : Dv K G H x v) (h : fldD c f G x = some d) : ∃ a dx fs w, v = .ref a ∧ H a = some (.ins (ga K.f c) dx fs) ∧ fs.lookup f = some w ∧ Dv K G H d w := by
  cases r with
  | ob s l n r =>
    unfold fldD at h
    simp only at h
    split at h
    · rename_i e
      subst e
      obtain ⟨w, h1, h2⟩ := zip_look r h
      exact ⟨_, _, _, w, rfl, s, h1, h2⟩
    · cases h
  | ref a =>
    unfold fldD at h
    simp only at h
    split at h
    · rename_i c' fs e
      split at h
      · rename_i ec
        subst ec
        obtain ⟨dx, vs, h2, r⟩ := g a _ e
        rw [← zip_self fs] at h
        obtain ⟨w, h3, h4⟩ := zip_look r h
        exact ⟨_, _, _, w, rfl, h2, h3, h4⟩
      · cases h
    · cases h
  | _ => cases h
theorem put_ok {f : Str} {y : D} {w : V} (rw' : Dv K G H y w) : ∀ {fs : List (Str × D)} {vs : List V}, DvL K G H (fs.map (·.2)) vs → ∃ us, putF f w ((fs.map (·.1)).zip vs) = ((put3 f y fs).map (·.1)).zip us ∧ DvL K G H ((put3 f y fs).map (·.2)) us
  | [], [], .nil => ⟨[w], rfl, .cons rw' .nil⟩
  | (n, x) :: fs, v :: vs, .cons r t => by
    by_cases e : n = f
    · subst e
      refine ⟨w :: vs, ?_, ?_⟩
      · simp [put3, putF]
      · simp only [put3, if_pos]; exact .cons rw' t
    · obtain ⟨us, h1, h2⟩ := put_ok (f := f) rw' t
      refine ⟨v :: us, ?_, ?_⟩
      · simp [put3, putF, e, h1]
      · simp only [put3, e, if_false]; exact .cons r h2
end
section
variable {X : Cx} {Z : Zx} {W : WX} {e o : Expr} {te to tv : TE3} {pos pos' : Pos} {c f : Str}
theorem fld_ (c : Str) (cl : Cls X.K (ga X.K c)) (na : NoAttr X.K (ga X.K c) f) (h : PE3 X Z W e te) (hb : attributeBase e f X.env (eval e X.env) = eval e X.env := by rfl) : PE3 X Z W (.Attribute e f pos) (tfld c f te) := PE.imp (pe_fld h hb) fun σ H Q h => by
  obtain ⟨σ3, G, Q3, E3, g, rs, h, q, x⟩ := h
  refine ⟨σ3, G, _, E3, g, rs, h, fun x G1 v H1 ⟨d, e, h1⟩ g1 r1 k1 => ?_, x⟩
  obtain ⟨a, dx, fs, w, ea, eH, el, rw'⟩ := fldD_ok g1 r1 e
  exact ⟨a, _, dx, fs, w, ea, eH, cl, na, el, q_of (q.keep k1) g1 h1 rw'⟩
theorem sfld_ (c : Str) (cl : Cls X.K (ga X.K c)) (na : NoAttr X.K (ga X.K c) f) (ho : PE3 X Z W o to) (hv : PE3 X Z W e tv) (hs : swapsWith e (some (.Attribute o f pos')) pos.line X.env = pure false := by rfl) :
    PS3 X Z W (.Assign [.Attribute o f pos'] e pos) (sfld c f to tv) := PS.imp (ps_fld ho hv hs) fun D σ H h => by
  obtain ⟨σ3, G, D3, g, rs, h, d⟩ := h
  refine ⟨σ3, G, _, _, g, rs, h, fun y G1 v H1 h1 g1 r1 k1 => ?_, d.exk g rs⟩
  refine ⟨σ3, G1, _, _, g1, rs.keep g k1, h1, fun x G2 u H2 ⟨a, fs, ex, eG, l, h2⟩ g2 r2 k2 => ?_, (d.keep k1).exk g1 (rs.keep g k1)⟩
  subst ex
  cases r2
  obtain ⟨dx, vs, eH, r⟩ := g2 a _ eG
  obtain ⟨us, h3, h4⟩ := put_ok (f := f) (r1.keep g1 k2) r
  refine ⟨a, _, dx, _, rfl, eH, cl, na, ?_, ?_⟩
  · rw [List.length_zip, List.length_map, ← r.length, List.length_map]; omega
  · rw [h3]
    exact d.nx _ _ _ _ h2 (g2.set eG ⟨dx, us, upd_same, h4.keep g2 (Keep.set eG)⟩) (((rs.keep g k1).keep g1 k2).keep g2 (Keep.set eG)) ((k1.trans k2).trans (Keep.set eG))
end
/-! ### an instance is made -/
/-- a method, __init__: its own function -/
structure Mn3 (P : Program) (w : World) (K : PySem.W.Frag) (mg : Str → Option Value) (base : Heap) (f : Addr) (j : Nat) (sp : Sp3) : Prop where
  ex : ∃ (fd : FuncData) (ps : List Str), Binds K fd ps [] ∧ FnOk P w K mg base (L2.CX P w) j f fd ps (liftSp ⟨K, Z0⟩ sp)
def tmk (c : Str) (sp : Sp3) (ta : TA3) : TE3 := fun σ G Q E => ta σ G (fun ds G1 => ∀ a, G1 a = none → sp (.ref a :: ds) (up G1 a (.ins c [])) (fun d G2 => d = .non ∧ Q (.ref a) G2) E) E
section
variable {X : Cx} {Z : Zx} {W : WX} {e : Expr} {es : List Expr} {ta : TA3} {pos p : Pos} {x : Str}
def tMakeS (C : Addr) (sp : Sp) (E : St → XK) (t : TA) : TE := fun σ H Q => t σ H fun vs H1 => ∀ x dx, H1 x = none → H1 dx = none → dx ≠ x →
  sp (.ref x :: vs) (upd (upd H1 dx (.own x)) x (.ins C dx [])) (fun v H2 => v = .non ∧ Q (.ref x) H2) (E σ)
theorem run_makeS {CX : CXT} {k : Nat} {f C : Addr} {fd : FuncData} {ps : List Str} {sp : Sp} {E : XK} {pins : List (Addr × Obj)} {σ : St} {H : Hp} {s : Shared} {Q : VK} {us : List Value} {vs : List V} (M : Mk X.K C f) (F : FnOk X.prog X.w X.K X.mg X.base CX k f fd ps sp) (hr : Room (k + 1) X.A) (hb : Binds X.K fd ps [])
    (hx : PassesAt CX X σ E) (I : Inv X pins σ H s) (r : Vals vs us)
    (h : ∀ x dx, H x = none → H dx = none → dx ≠ x → sp (.ref x :: vs) (upd (upd H dx (.own x)) x (.ins C dx [])) (fun v H2 => v = .non ∧ Q (.ref x) H2) E) :
    wpAny (model X.prog X.w) X.A (call (.ref C) us) (EP X pins σ Q) X.xe s := by
  have hq := h (s.heap.objs.size + 1) s.heap.objs.size (I.hok.fresh (Nat.le_succ _)) (I.hok.fresh (Nat.le_refl _)) (Nat.ne_of_lt (Nat.lt_succ_self _))
  have I2 := Inv.made (C := C) I
  have r2 : Vals (V.ref (s.heap.objs.size + 1) :: vs) (Value.ref (s.heap.objs.size + 1) :: us) := .cons rfl r
  have hl : (Value.ref (s.heap.objs.size + 1) :: us ++ []).length = ps.length := by
    have e := r2.length
    rw [F.len _ _ _ _ hq] at e
    simpa using e.symm
  have hb2 := hb _ (Value.ref (s.heap.objs.size + 1) :: us) I2.kIn hl
  rw [List.append_nil] at hb2
  refine wpAny_call (make_map (f := f) I.kIn M.makes M.init (beq_iff_eq.mp M.fn) (codeAny_mono (F.run _ X.stack _ _ ⟨Value.ref (s.heap.objs.size + 1) :: us, []⟩ (Value.ref (s.heap.objs.size + 1) :: us) _ _ E (hr.make C us [])
    (I2.env0.make C us []) hb2 r2 hq) fun r s' hq' => ?_))
  cases r with
  | error e => exact hx pins _ _ e s' I2 hq'
  | ok fl =>
    cases fl with
    | ret u =>
      obtain ⟨v, H', I3, rv, ev, q3⟩ := I2.after hq'
      subst ev
      exact ⟨rv, ⟨V.ref (s.heap.objs.size + 1), H', I3, rfl, q3⟩⟩
    | next => exact False.elim hq'
    | brk => exact False.elim hq'
    | cont => exact False.elim hq'
theorem pe_makeS {CX : CXT} {k : Nat} {f C : Addr} {fd : FuncData} {ps : List Str} {sp : Sp} {E : St → XK} {t : TA} (M : Mk X.K C f) (F : FnOk X.prog X.w X.K X.mg X.base CX k f fd ps sp) (hr : Room (k + 1) X.A) (hg : Gl X x) (hm : X.mg x = some (.ref C)) (hb : Binds X.K fd ps []) (hx : ∀ σ, PassesAt CX X σ (E σ))
    (ha : PA X (e :: es) t) (hdb : (x == ("__debug__" : Str)) = false := by decide) (he : starEach (e :: es) X.env = (false, eval e X.env) :: starEach es X.env := by rfl) (hpl : (backTo pos (starEach es X.env)).any (·.1) = false := by rfl) :
    PE X (.Call (.Name x p) (e :: es) [] pos) (tMakeS C sp E t) := by
  refine ⟨fun pins s σ H Q I h => ?_⟩
  refine wpAny_Call_Name_kw (ld_glob I hg hm ?_ hdb)
  refine PySem.W.callWith_K (h₀ := X.base) I.ok.mod.kin M.kp (thn (ha.run pos pins s σ H _ I h) fun us s1 ⟨vs, H1, I1, r, q⟩ => ⟨I1.kIn, ?_⟩) he hpl
  exact run_makeS M F hr hb (hx σ) I1 r q
theorem mk_ {j k : Nat} {sp : Sp3} {f : Addr} (M : Mk X.K (ga X.K x) f) (F : Mn3 X.prog X.w X.K X.mg X.base f j sp) (hm : X.mg x = some (.ref (ga X.K x))) (hr : Room (k + 1) X.A) (hj : j ≤ k) (tk : Takes X W) (ha : PA3 X Z0 W (e :: es) ta) (hg : Gl X x := by rfl) (hdb : (x == ("__debug__" : Str)) = false := by decide +kernel)
    (he : starEach (e :: es) X.env = (false, eval e X.env) :: starEach es X.env := by rfl) (hpl : (backTo pos (starEach es X.env)).any (·.1) = false := by rfl) : PE3 X Z0 W (.Call (.Name x p) (e :: es) [] pos) (tmk x sp ta) := by
  obtain ⟨fd, ps, hb, F⟩ := F.ex
  refine PE.imp (pe_makeS (M := M) F (hr.mono (Nat.succ_le_succ hj)) hg hm hb (fun σ => passAt tk σ) ha hdb he hpl) fun σ H Q h => ?_
  obtain ⟨σ3, G, Q3, E3, g, rs, h, q, xk⟩ := h
  refine ⟨σ3, G, _, E3, g, rs, h, fun ds G1 vs H1 h1 g1 r1 k1 => fun a dx na nd ne => ?_, xk⟩
  have n2 : upd H1 dx (.own a) a = none := by rw [upd_ne (Ne.symm ne)]; exact na
  have ka : Keep G1 H1 G1 (upd H1 dx (.own a)) := Keep.new nd
  have kb := Keep.newG (G := G1) (H := upd H1 dx (.own a)) (o := .ins (ga X.K x) dx []) (u := .ins x []) n2
  have gb := (g1.new (o := .own a) nd).newG (p := a) (o := .ins (ga X.K x) dx []) (u := .ins x []) n2 ⟨dx, [], upd_same, .nil⟩
  have kk := ka.trans kb
  refine ⟨.ref a :: ds, up G1 a (.ins x []), _, E3, gb, .cons (.ref a) (r1.keep g1 kk), h1 a (g1.free na), fun d G2 v H2 ⟨h2, h3⟩ g2 r2 k2 => ?_, xk.keep (k1.trans kk)⟩
  subst h2
  cases r2
  exact ⟨rfl, q _ _ _ _ h3 g2 (.ref a) ((k1.trans kk).trans k2)⟩
end
end L3
namespace L3
open PySem PySem.Spec PyProof.Rows L2
open He (ga)
def sdead : TS3 := fun _ _ _ => False
section
variable {X : Cx} {Z : Zx} {W : WX} {pos : Pos}
/-- {} -/
theorem emp_ : PE3 X Z W (.Dict [] [] pos) (tc .emp) := PE.imp pe_dnewK fun σ H Q h => by
  obtain ⟨σ3, G, Q3, E3, g, rs, h, q, x⟩ := h
  exact fun p n => q _ _ _ _ h (g.new n) (.emp upd_same (g.free n)) (Keep.new n)
theorem cgi_ {x : Str} {i : Int} (hm : ∃ t, X.mg x = some (.int i t)) (hg : Gl X x := by rfl) (hd : (x == ("__debug__" : Str)) = false := by decide +kernel) : PE3 X Z W (.Name x pos) (tc (.int i)) := by
  obtain ⟨t, hm⟩ := hm
  exact cg_ (v := .int i) hm ⟨t, rfl⟩ (fun _ _ => .int i) hg hd
theorem cgs_ {x z : Str} (hm : ∃ t, X.mg x = some (.str z t)) (hg : Gl X x := by rfl) (hd : (x == ("__debug__" : Str)) = false := by decide +kernel) : PE3 X Z W (.Name x pos) (tc (.str z)) := by
  obtain ⟨t, hm⟩ := hm
  exact cg_ (v := .str z) hm ⟨t, rfl⟩ (fun _ _ => .str z) hg hd
end
section
variable {P : Program} {w : World} {K : PySem.W.Frag} {mg : Str → Option Value} {base : Heap} {N : List Str} {qual : Str} {scope : Scope} {f : Addr} {cdv : Value} {A : Around} {outer : List Env} {s : Shared} {H : Hp} {E : XK}
theorem tk_of : Takes (cxOf (L2.CX P w) P w K mg base N qual scope f cdv A outer s H E) (fun c d _ H' => E c d H') := takes_of rfl rfl rfl rfl
theorem pas_of : PassesOwn (model P w) (cxOf (L2.CX P w) P w K mg base N qual scope f cdv A outer s H E).A (cxOf (L2.CX P w) P w K mg base N qual scope f cdv A outer s H E).env (cxOf (L2.CX P w) P w K mg base N qual scope f cdv A outer s H E).xe :=
  passes_of (X := cxOf (L2.CX P w) P w K mg base N qual scope f cdv A outer s H E) (K := CX P w outer H s E) rfl
end
/-! ### loops by invariants -/
theorem forL_inv {t : Tg} {tb : TS3} {E : Ends3} {gd : Gp → Prop} {xs : List D} (I : Nat → St3 → Gp → Prop)
    (step : ∀ (k : Nat) (x : D) σ G (N : St3 → Gp → Prop), xs[k]? = some x → I k σ G → (∀ σ G, I (k + 1) σ G → N σ G) → gd G ∧ t.b x σ fun σ' => tb { E with nx := N, ct := N, bk := E.nx } σ' G)
    (fin : ∀ σ G, I xs.length σ G → gd G ∧ E.nx σ G) {σ : St3} {G : Gp} (h : I 0 σ G) : forL t tb E gd xs σ G := by
  have key : ∀ (n k : Nat) σ G, n + k = xs.length → I k σ G → forL t tb E gd (xs.drop k) σ G := by
    intro n
    induction n with
    | zero =>
      intro k σ G e h
      have e : k = xs.length := by omega
      subst e
      rw [List.drop_length]
      exact fin σ G h
    | succ n ih =>
      intro k σ G e h
      have lt : k < xs.length := by omega
      rw [List.drop_eq_getElem_cons lt]
      exact step k xs[k] σ G _ (by simp [lt]) h fun σ G h => ih (k + 1) σ G (by omega) h
  simpa using key xs.length 0 σ G (by omega) h
theorem whN_inv {tc : TT3} {tb : TS3} {D : Ends3} (I : Nat → St3 → Gp → Prop)
    (step : ∀ (n : Nat) σ G (N : St3 → Gp → Prop), I n σ G → (∀ m σ G, m < n → I m σ G → N σ G) → tc σ G (fun b G1 => if b = true then tb { D with nx := N, ct := N, bk := D.nx } σ G1 else D.nx σ G1) (fun x G1 => D.ex x σ G1))
    {n : Nat} {σ : St3} {G : Gp} (h : I n σ G) : swhile tc tb D σ G := by
  have key : ∀ (f n : Nat) σ G, n < f → I n σ G → whN tc tb D f σ G := by
    intro f
    induction f with
    | zero => intro n σ G l; omega
    | succ f ih =>
      intro n σ G l h
      exact step n σ G _ h fun m σ G l2 h2 => ih m σ G (by omega) h2
  exact ⟨n + 1, key (n + 1) n σ G (by omega) h⟩
end L3
namespace L3
open PySem PySem.Spec PyProof.Rows L2
open He (ga)
/-! ### for the plain part -/
theorem dn_refl {Q : QK} {d : D} {G : Gp} (h : Q d G) : dn Q d G := ⟨G, Sub.refl, h⟩
theorem ite_b {c : Bool} {A B : Prop} (h1 : c = true → A) (h2 : c = false → B) : if c = true then A else B := by
  cases c with
  | true => exact h1 rfl
  | false => exact h2 rfl
theorem sseq_cut {t u : TS3} {D : Ends3} {σ : St3} {G : Gp} (I : St3 → Gp → Prop) (h1 : ∀ N : St3 → Gp → Prop, (∀ σ G, I σ G → N σ G) → t { D with nx := N } σ G) (h2 : ∀ σ G, I σ G → u D σ G) : sseq t u D σ G := h1 _ h2
theorem sq_ref {G : Gp} {p : Addr} {xs : List D} (h : G p = some (.lst xs)) : sq G (.ref p) = some xs := by
  unfold sq; simp only; rw [h]
theorem lq_ref {G : Gp} {p : Addr} {xs : List D} (h : G p = some (.lst xs)) : lq G (.ref p) = some xs := by
  unfold lq; simp only; rw [h]
theorem mq_ref {G : Gp} {p : Addr} {xs : List D} (h : G p = some (.lst xs)) : mq G (.ref p) = some xs := by
  unfold mq; simp only; rw [h]
theorem isL_ref {G : Gp} {p : Addr} {xs : List D} (h : G p = some (.lst xs)) : isL (.ref p) G := ⟨xs, lq_ref h⟩
theorem ixn_ok {n : Nat} (k : Nat) (h : k < n) : ixN n (k : Int) = some k := by
  unfold ixN; simp; omega
theorem ixi_ok {n : Nat} {i : Int} (h0 : 0 ≤ i) (h : i < n) : ixN n i = some i.toNat := by
  have := ixn_ok (n := n) i.toNat (by omega)
  rwa [Int.toNat_of_nonneg h0] at this
theorem at_ok {α : Type} {xs : List α} {i : Int} (h0 : 0 ≤ i) (h : i < xs.length) : ∃ x, atI xs i = some x ∧ x ∈ xs := by
  refine ⟨xs[i.toNat]'(by omega), ?_, by simp⟩
  unfold atI
  rw [ixi_ok h0 h]
  simp
theorem at_get {α : Type} {xs : List α} {i : Int} {d : α} (h0 : 0 ≤ i) (h : xs[i.toNat]? = some d) : atI xs i = some d := by
  have : i.toNat < xs.length := (List.getElem?_eq_some_iff.mp h).1
  unfold atI
  rw [ixi_ok h0 (by omega)]
  exact h
theorem ne_new {G : Gp} {h p : Addr} {o : GO} (e : G h = some o) (n : G p = none) : p ≠ h := fun z => by rw [z, e] at n; cases n
/-- a known thing: isinstance can be asked -/
def kn (OC : List Str) : D → Bool
  | .ob c _ _ => OC.contains c
  | .ref _ => false
  | .ex _ => false
  | .exf _ _ _ => false
  | _ => true
def isiD (T : Bt) : D → Bool
  | .non => decide (T = .non)
  | .bl _ => decide (T = .bl) || decide (T = .int)
  | .int _ => decide (T = .int)
  | .str _ => decide (T = .str)
  | .tup _ => decide (T = .tup)
  | .fl _ => decide (T = .lst)
  | .sl _ => decide (T = .lst)
  | .emp => decide (T = .dic)
  | _ => false
theorem isi_use {OC : List Str} {T : Bt} {x : D} {G : Gp} {P : Bool → Prop} (k : kn OC x = true) (h : P (isiD T x)) : ∃ t b, tyD G x = some t ∧ isT OC T t = some b ∧ P b := by
  cases x <;> first | (simp [kn] at k; done) | skip
  all_goals first
    | (refine ⟨_, _, rfl, rfl, ?_⟩; cases T <;> exact h)
    | (refine ⟨_, false, rfl, ?_, h⟩; unfold isT; simp only; unfold kn at k; rw [if_pos k])
theorem isa_use {OC : List Str} {Ts : List Bt} {x : D} {G : Gp} {P : Bool → Prop} (k : kn OC x = true) (h : P (Ts.any fun T => isiD T x)) : ∃ t b, tyD G x = some t ∧ isA OC Ts t = some b ∧ P b := by
  cases x <;> first | (simp [kn] at k; done) | skip
  all_goals first
    | (refine ⟨_, _, rfl, rfl, ?_⟩
       have e : ∀ (U : Bt) (f : Bt → Bool), (∀ T, (decide (U = T) || (decide (U = .bl) && decide (T = .int))) = f T) → (Ts.any fun T => decide (U = T) || (decide (U = .bl) && decide (T = .int))) = Ts.any f := fun U f z => congrArg (Ts.any ·) (funext z)
       rw [e _ _ ?_]; exact h; intro T; cases T <;> rfl)
    | (refine ⟨_, false, rfl, ?_, ?_⟩
       · unfold isA; simp only; unfold kn at k; rw [if_pos k]
       · have : ∀ c ns xs, (Ts.any fun T => isiD T (.ob c ns xs)) = false := fun c ns xs => by simp [isiD]
         rw [this] at h; exact h)
theorem iso_use {OC : List Str} {C : Str} {x : D} {G : Gp} {P : Bool → Prop} (k : kn OC x = true) (h : P (match x with | .ob c _ _ => c == C | _ => false)) : ∃ t b, tyD G x = some t ∧ isO OC C t = some b ∧ P b := by
  cases x <;> first | (simp [kn] at k; done) | skip
  all_goals first
    | exact ⟨_, _, rfl, rfl, h⟩
    | (refine ⟨_, _, rfl, ?_, h⟩; unfold isO; simp only; unfold kn at k; rw [if_pos k])
theorem bls_map {α : Type} (xs : List α) (g : α → Bool) : blsD (xs.filterMap fun x => some (D.bl (g x))) = some (xs.map g) := by
  induction xs with
  | nil => rfl
  | cons x xs ih =>
    rw [List.filterMap_cons]
    simp only [blsD, ih, List.map_cons, Option.map_some]
end L3
namespace L3
open PySem PySem.Spec PyProof.Rows L2
open He (ga)
theorem fz_ins {G : Gp} {a : Addr} {c : Str} {fs : List (Str × D)} {Q : QK} (h : G a = some (.ins c fs)) (q : Q (.ob c (fs.map (·.1)) (fs.map (·.2))) (dl G a)) : fz (.ref a) G Q := by
  unfold fz; simp only; rw [h]; exact q
theorem fz_lst {G : Gp} {a : Addr} {xs : List D} {Q : QK} (h : G a = some (.lst xs)) (q : Q (.fl xs) (dl G a)) : fz (.ref a) G Q := by
  unfold fz; simp only; rw [h]; exact q
theorem cutD_len {α : Type} {xs : List α} {lo hi : Option Int} : (L3.cutD xs lo hi).length ≤ xs.length := by
  unfold L3.cutD
  rw [List.length_take, List.length_drop]; omega
theorem cutD_mem {α : Type} {xs : List α} {lo hi : Option Int} {x : α} (h : x ∈ L3.cutD xs lo hi) : x ∈ xs := by
  unfold L3.cutD at h
  exact List.mem_of_mem_drop (List.mem_of_mem_take h)
end L3
namespace L3
open PySem PySem.Spec PyProof.Rows L2
open He (ga)
theorem dvl_ints {K : K3} {G : Gp} {H : Hp} : ∀ ns : List Int, DvL K G H (ns.map D.int) (ns.map V.int)
  | [] => .nil
  | i :: r => .cons (.int i) (dvl_ints r)
/-- THE END of a law -/
theorem walk3 {l : PySem.W.OpenLaw} {n k : Nat} {q : Program} {loose : List Str} {XP : (Str → Option Value) → Heap → Prop} {YP : World → Heap → Prop} {d : DefRec} {x : Str} {sp : Sp3}
    (hn : l.most = some n) (hn2 : n ≤ sizeLine) (hdf : d.params.defaults = []) (hr : Room k callerA)
    (F : ∀ (w : World) (mg : Str → Option Value) (fa : Addr) (h : Heap), YP w h → h.Ns mainGlobals mg → mg d.name = some (.ref fa) →
      ∃ (K : PySem.W.Frag) (fd : FuncData), K.In h ∧ (∀ (s : Shared) (u : Value), BindsTo s fd ⟨[u], []⟩ [(x, u)]) ∧
        ∀ base : Heap, K.In base → base.Ns mainGlobals mg → FnOk l.prog w K mg base (L2.CX l.prog w) k fa fd [x] (liftSp ⟨K, Z0⟩ sp))
    (hsp : ∀ (ns : List Int) (Q : QK) (E : EK), ns.length ≤ n → (∀ G, Q (.bl true) G) → sp [.sl (ns.map D.int)] (fun _ => none) Q E) :
    PySem.W.WalkO q loose XP YP l.row.toRowW d [] (fun f vs => PySem.call f vs) := by
  refine Att.attach_call hn hdf fun w s₀ s₁ mg mb fa o pm cd doc a vs ns G Y ho hd hcd hmg hobj hints hlen hg => ?_
  obtain ⟨K, fd, KX, hb, hF⟩ := F w mg fa _ Y G.T.g hmg
  refine law_call KX G.T.g G.T.b G.T.builtins G.T.nolimit hg hobj hints (Nat.le_trans hlen hn2) hr hF hb (fun H hO hS => ?_) fun H e s' hx => ?_
  · have g0 : GH ⟨K, Z0⟩ (fun _ => none) H := fun a o h => by cases h
    exact ⟨[.sl (ns.map D.int)], fun _ => none, fun d _ => d = .bl true, fun _ _ => False, g0, .cons (.sl (SqF.of g0 hS rfl) (dvl_ints ns)) .nil, hsp ns _ _ hlen fun _ => rfl,
      fun d G' v H' h g r k => by subst h; cases r; rfl, fun _ _ _ _ _ z => z.elim⟩
  · obtain ⟨_, _, _, _, _, _, _, _, _, _, _, _, z⟩ := hx
    exact z
end L3
namespace L3
open PySem PySem.Spec PyProof.Rows L2
open He (ga)
/-! ### {k: v}, a dict that is only asked for its kind -/
def tdic1 (te : TE3) : TE3 := fun σ G Q E => ∀ p, G p = none → te σ (up G p (.dic [])) (fun _ G1 => G1 p = some (.dic []) ∧ Q .emp (dl G1 p)) E
section
variable {X : Cx} {Z : Zx} {W : WX} {e : Expr} {te : TE3} {pos p1 : Pos} {i : Int} {j : Nat}
theorem dic1_ (h : PE3 X Z W e te) : PE3 X Z W (.Dict [some (.Constant (.int i) j p1)] [e] pos) (tdic1 te) := PE.imp (pe_disp (pps_cons (tk := tC (.int i)) pe_int h pps_nil) rfl rfl (by simp) (by show 1 ≤ 15; decide)) fun σ H Q hq => by
  obtain ⟨σ3, G, Q3, E3, g, rs, h, q, x⟩ := hq
  intro p n
  have kp := Keep.newG (G := G) (H := H) (o := .dK []) (u := .dic []) n
  have gp := g.newG (p := p) (o := .dK []) (u := .dic []) n ⟨[], upd_same, .nil⟩
  refine ⟨σ3, up G p (.dic []), _, E3, gp, rs.keep g kp, h p (g.free n), fun d G1 v H1 ⟨e1, h1⟩ g1 r1 k1 => ?_, x.keep kp⟩
  obtain ⟨vs, e2, r2⟩ := g1 p _ e1
  cases r2
  refine ⟨e2, [(Sum.inl i, v)], rfl, by show 1 ≤ 15; decide, ?_⟩
  show Q (.ref p) (upd H1 p (.dK [(Sum.inl i, v)]))
  have g2 : GH (Cxk X Z) (up G1 p (.dic [(Sum.inl i, d)])) (upd H1 p (.dK [(Sum.inl i, v)])) := g1.set e1 ⟨[v], upd_same, .cons (r1.keep g1 (Keep.set e1)) .nil⟩
  have k2 : Keep G1 H1 (up G1 p (.dic [(Sum.inl i, d)])) (upd H1 p (.dK [(Sum.inl i, v)])) := Keep.set e1
  have e3 : dl (up G1 p (.dic [(Sum.inl i, d)])) p = dl G1 p := by
    funext b; unfold dl up; split
    · rfl
    · rfl
  have g3 : GH (Cxk X Z) (dl G1 p) (upd H1 p (.dK [(Sum.inl i, v)])) := by rw [← e3]; exact g2.sub Sub.dl
  have k3 : Keep (up G1 p (.dic [(Sum.inl i, d)])) (upd H1 p (.dK [(Sum.inl i, v)])) (dl G1 p) (upd H1 p (.dK [(Sum.inl i, v)])) := by rw [← e3]; exact Keep.sub Sub.dl
  exact q _ _ _ _ h1 g3 (.emp upd_same dl_same) (((kp.trans k1).trans k2).trans k3)
/-! ### list(range(n)) -/
def tlrg (m : Bool) (ta : TE3) : TE3 := fun σ G Q E => ta σ G (fun x G1 => ∃ n : Int, x = .int n ∧ RgOk 0 n ∧ outL m ((List.range n.toNat).map fun (i : Nat) => D.int i) G1 Q) E
theorem dvl_rg {K : K3} {G : Gp} {H : Hp} (n : Int) : DvL K G H ((List.range n.toNat).map fun (i : Nat) => D.int i) (rgV 0 n) := by
  unfold rgV
  rw [Int.sub_zero]
  have : ∀ l : List Nat, DvL K G H (l.map fun (i : Nat) => D.int i) (l.map fun i => V.int (0 + (i : Nat))) := by
    intro l
    induction l with
    | nil => exact .nil
    | cons a l ih =>
      refine .cons ?_ ih
      show Dv K G H (.int a) (.int (0 + (a : Int)))
      rw [Int.zero_add]
      exact .int _
  exact this _
theorem lrg_ (m : Bool) {a : Expr} {ta : TE3} {p p2 : Pos} (hc : X.calm = true) (hl : X.mg "list" = none) (hr : X.mg "range" = none) (ha : PE3 X Z W a ta) (hg : Gl X "list" := by rfl) (hg2 : Gl X "range" := by rfl)
    (na : starEach [.Call (.Name "range" p2) [a] [] p1] X.env = (false, eval (.Call (.Name "range" p2) [a] [] p1) X.env) :: starEach [] X.env := by rfl) (na2 : starEach [a] X.env = (false, eval a X.env) :: starEach [] X.env := by rfl) :
    PE3 X Z W (.Call (.Name "list" p) [.Call (.Name "range" p2) [a] [] p1] [] pos) (tlrg m ta) := PE.imp (pe_listRg hc hg hl (prg_1 hg2 hr ha na2) na) fun σ H Q hq => by
  obtain ⟨σ3, G, Q3, E3, g, rs, h, q, x⟩ := hq
  refine ⟨σ3, G, _, E3, g, rs, h, fun d G1 v H1 ⟨n, e1, ok, h1⟩ g1 r1 k1 => ?_, x⟩
  subst e1
  cases r1
  exact ⟨n, rfl, ok, fun p np => outL_ok m g1 (dvl_rg n) (q.keep k1) h1 np⟩
end
/-! ### a[i], b[j] = e -/
def sswp (o1 i1 o2 i2 te : TE3) (t u : QS) : TS3 := fun E σ G => te σ G (fun x G1 => ∃ d1 d2, x = .tup [d1, d2] ∧
  o1 σ G1 (fun o G2 => i1 σ G2 (fun i G3 => t o i d1 G3 fun G4 => o2 σ G4 (fun o G5 => i2 σ G5 (fun i G6 => u o i d2 G6 fun G7 => E.nx σ G7) (fun x G1 => E.ex x σ G1)) (fun x G1 => E.ex x σ G1)) (fun x G1 => E.ex x σ G1)) (fun x G1 => E.ex x σ G1)) (fun x G1 => E.ex x σ G1)
section
variable {X : Cx} {Z : Zx} {W : WX} {a1 b1 a2 b2 e : Expr} {o1 i1 o2 i2 te : TE3} {t u : QS} {pt1 pt2 pt pos : Pos} {k : Nat}
theorem swp_ (hc : X.calm = true) (hs : PSet3 X Z t) (hs2 : PSet3 X Z u) (ho : PE3 X Z W a1 o1) (hi : PE3 X Z W b1 i1) (ho2 : PE3 X Z W a2 o2) (hi2 : PE3 X Z W b2 i2) (he : PE3 X Z W e te)
    (ha : ∀ v, assign (.Subscript a1 b1 pt1) X.env v = (do
      let ov ← holding [v] (eval a1 X.env)
      let iv ← holding [v, ov] (eval b1 X.env)
      standAt pt1
      holding [v, ov, iv] (setItem ov iv v)
      release [v, ov, iv] []) := by intro _; rfl)
    (ha2 : ∀ v, assign (.Subscript a2 b2 pt2) X.env v = (do
      let ov ← holding [v] (eval a2 X.env)
      let iv ← holding [v, ov] (eval b2 X.env)
      standAt pt2
      holding [v, ov, iv] (setItem ov iv v)
      release [v, ov, iv] []) := by intro _; rfl)
    (hsw : swapsWithSole [.Tuple [.Subscript a1 b1 pt1, .Subscript a2 b2 pt2] k pt] e pos.line X.env = pure false := by rfl) (hw : swappedStores [.Tuple [.Subscript a1 b1 pt1, .Subscript a2 b2 pt2] k pt] e X.env = pure none := by rfl)
    (h1 : (assignEach [.Tuple [.Subscript a1 b1 pt1, .Subscript a2 b2 pt2] k pt] X.env).map (·.2) = [assign (.Tuple [.Subscript a1 b1 pt1, .Subscript a2 b2 pt2] k pt) X.env] := by rfl)
    (hn : (assignEach [.Subscript a1 b1 pt1, .Subscript a2 b2 pt2] X.env).length = 2 := by rfl) (hst : (assignEach [.Subscript a1 b1 pt1, .Subscript a2 b2 pt2] X.env).findIdx? (·.1) = none := by rfl)
    (hs3 : (assignEach [.Subscript a1 b1 pt1, .Subscript a2 b2 pt2] X.env).map (·.2) = assign (.Subscript a1 b1 pt1) X.env :: (assignEach [.Subscript a2 b2 pt2] X.env).map (·.2) := by rfl)
    (hs4 : (assignEach [.Subscript a2 b2 pt2] X.env).map (·.2) = assign (.Subscript a2 b2 pt2) X.env :: (assignEach [] X.env).map (·.2) := by rfl) :
    PS3 X Z W (.Assign [.Tuple [.Subscript a1 b1 pt1, .Subscript a2 b2 pt2] k pt] e pos) (sswp o1 i1 o2 i2 te t u) := by
  obtain ⟨r, hs, kk⟩ := hs
  obtain ⟨r2, hs2, kk2⟩ := hs2
  refine PS.imp (ps_asg he (pg_tup (n := 2) hc (pgs_cons (pg_sub ho hi hs ha) (pgs_cons (pg_sub ho2 hi2 hs2 ha2) pgs_nil hs4) hs3) hn hst) hsw hw h1) fun D σ H h => ?_
  obtain ⟨σ3, G, D3, g, rs, h, d⟩ := h
  refine ⟨σ3, G, _, _, g, rs, h, fun x G1 v H1 ⟨d1, d2, ex, h1⟩ g1 rx k1 => ?_, d.exk g rs⟩
  subst ex
  cases rx with
  | tup s r =>
  cases r with
  | cons r1 r =>
  cases r with
  | cons r2' r =>
  cases r
  rename_i a v1 v2
  refine ⟨a, [v1, v2], rfl, s, rfl, v1, [v2], rfl, ?_⟩
  have rsA := rs.keep g k1
  have dA := d.keep k1
  refine ⟨σ3, G1, _, _, g1, rsA, h1, fun o G2 ov H2 h2 g2 ro k2 => ?_, dA.exk g1 rsA⟩
  have rsB := rsA.keep g1 k2
  have dB := dA.keep k2
  refine ⟨σ3, G2, _, _, g2, rsB, h2, fun i G3 iv H3 h3 g3 ri k3 => ?_, dB.exk g2 rsB⟩
  have rsC := rsB.keep g2 k3
  have dC := dB.keep k3
  have kC := (k1.trans k2).trans k3
  refine kk G3 H3 o i d1 ov iv v1 _ _ g3 (ro.keep g2 k3) ri ((r1.keep g1 k2).keep g2 k3) h3 fun G4 H4 h4 g4 k4 => ?_
  have rsD := rsC.keep g3 k4
  have dD := dC.keep k4
  refine ⟨v2, [], rfl, σ3, G4, _, _, g4, rsD, h4, fun o' G5 ov' H5 h5 g5 ro' k5 => ?_, dD.exk g4 rsD⟩
  have rsE := rsD.keep g4 k5
  have dE := dD.keep k5
  refine ⟨σ3, G5, _, _, g5, rsE, h5, fun i' G6 iv' H6 h6 g6 ri' k6 => ?_, dE.exk g5 rsE⟩
  have rsF := rsE.keep g5 k6
  have dF := dE.keep k6
  refine kk2 G6 H6 o' i' d2 ov' iv' v2 _ _ g6 (ro'.keep g5 k6) ri' (((((r2'.keep g1 k2).keep g2 k3).keep g3 k4).keep g4 k5).keep g5 k6) h6 fun G7 H7 h7 g7 k7 => ?_
  exact ⟨rfl, (dF.keep k7).nx _ _ _ _ h7 g7 (rsF.keep g6 k7) Keep.refl⟩
end
end L3
namespace L3
open PySem PySem.Spec PyProof.Rows L2
open He (ga)
/-- a comprehension whose turns change G -/
theorem lc_inv {t : Tg} {tt : TT3} {te : TE3} {gd : Gp → Prop} {σ : St3} {Q : QK} {G : Gp} {xs : List D} (I : Nat → List D → Gp → Prop) (l : xs.length ≤ sizeLine)
    (step : ∀ (k : Nat) (x : D) (acc : List D) (G : Gp) (p : Addr) (N : D → Gp → Prop) (N' : Gp → Prop), xs[k]? = some x → G p = none → I k acc G → (∀ d G3, G3 p = none → I (k + 1) (acc ++ [d]) G3 → N d (up G3 p (.lst acc))) → (∀ G3, G3 p = none → I (k + 1) acc G3 → N' (up G3 p (.lst acc))) →
      gd (up G p (.lst acc)) ∧ t.b x σ fun σ' => tt σ' (up G p (.lst acc)) (fun b G1 => if b = true then te σ' G1 N (fun _ _ => False) else N' G1) (fun _ _ => False))
    (fin : ∀ acc G p, G p = none → I xs.length acc G → gd (up G p (.lst acc)) ∧ Q (.fl acc) G) (h : I 0 [] G) : ∀ p, G p = none → lcL t tt te gd σ p (lcEnd false p Q) xs (up G p (.lst [])) := by
  intro p np
  have key : ∀ (n k : Nat) (acc : List D) (G : Gp), n + k = xs.length → acc.length ≤ k → G p = none → I k acc G → lcL t tt te gd σ p (lcEnd false p Q) (xs.drop k) (up G p (.lst acc)) := by
    intro n
    induction n with
    | zero =>
      intro k acc G e ha np h
      have e : k = xs.length := by omega
      subst e
      rw [List.drop_length]
      obtain ⟨h1, h2⟩ := fin acc G p np h
      exact ⟨h1, acc, up_same, by rw [dl_up np]; exact h2⟩
    | succ n ih =>
      intro k acc G e ha np h
      have lt : k < xs.length := by omega
      rw [List.drop_eq_getElem_cons lt]
      refine step k xs[k] acc G p _ _ (by simp [lt]) np h (fun d G3 n3 h3 => ⟨acc, up_same, by omega, ?_⟩) fun G3 n3 h3 => ?_
      · rw [up_up]
        exact ih (k + 1) (acc ++ [d]) G3 (by omega) (by simp; omega) n3 h3
      · exact ih (k + 1) acc G3 (by omega) (by omega) n3 h3
  simpa using key xs.length 0 [] G (by omega) (by simp) np h
end L3
namespace C3
open PySem PySem.Spec PyProof.Rows L2 L3
open He (ga)

abbrev OC : List Str := []
def top (i : Nat) : Stmt := PySem.Challenge.pw_cutlinked_k07_whole_shapes_judged.main.body.getD i (.Pass ⟨0, 0, 0, 0⟩)
abbrev s__law_draw : Stmt := top 22
abbrev N__law_draw : List Str := [(Str.ofString "_law_hand_here"), (Str.ofString "_law_many_here"), (Str.ofString "_law_number_here"), (Str.ofString "_law_cell"), (Str.ofString "_law_digit")]
abbrev s__law_deep : Stmt := top 24
abbrev N__law_deep : List Str := [(Str.ofString "_law_hand_here"), (Str.ofString "_law_found"), (Str.ofString "_law_turn")]
abbrev s__law_bent : Stmt := top 33
abbrev N__law_bent : List Str := [(Str.ofString "_law_hand_here"), (Str.ofString "_law_shape_here"), (Str.ofString "_law_house_here"), (Str.ofString "_law_row"), (Str.ofString "_law_kind"), (Str.ofString "_law_at"), (Str.ofString "_law_many_here"), (Str.ofString "_law_odd"), (Str.ofString "_law_other")]
abbrev s__law_hand : Stmt := top 21
abbrev N__law_hand : List Str := [(Str.ofString "_law_script"), (Str.ofString "_law_cell")]
abbrev s__law_is : Stmt := top 23
abbrev N__law_is : List Str := [(Str.ofString "_law_told"), (Str.ofString "_law_due"), (Str.ofString "_law_one"), (Str.ofString "_law_two")]
abbrev s__law_is_integer : Stmt := top 26
abbrev N__law_is_integer : List Str := [(Str.ofString "_law_thing")]
abbrev s__law_number : Stmt := top 25
abbrev N__law_number : List Str := [(Str.ofString "_law_thing"), (Str.ofString "_law_least"), (Str.ofString "_law_most")]
abbrev s__law_is_shape : Stmt := top 32
abbrev N__law_is_shape : List Str := [(Str.ofString "_law_thing"), (Str.ofString "_law_many_here"), (Str.ofString "_law_row"), (Str.ofString "_law_house_here"), (Str.ofString "_law_son"), (Str.ofString "_law_here"), (Str.ofString "_law_turn"), (Str.ofString "_law_left"), (Str.ofString "_law_right"), (Str.ofString "_law_part")]
abbrev s__law_many : Stmt := top 28
abbrev N__law_many : List Str := [(Str.ofString "_law_hand_here"), (Str.ofString "_law_most")]
abbrev s__law_house : Stmt := top 30
abbrev N__law_house : List Str := [(Str.ofString "_law_up"), (Str.ofString "_law_value_here")]
abbrev s__law_shuffled : Stmt := top 29
abbrev N__law_shuffled : List Str := [(Str.ofString "_law_hand_here"), (Str.ofString "_law_many_here"), (Str.ofString "_law_found"), (Str.ofString "_law_at"), (Str.ofString "_law_other")]
abbrev s__law_value : Stmt := top 27
abbrev N__law_value : List Str := [(Str.ofString "_law_hand_here"), (Str.ofString "_law_kind")]
abbrev s__law_shape : Stmt := top 31
abbrev N__law_shape : List Str := [(Str.ofString "_law_hand_here"), (Str.ofString "_law_many_here"), (Str.ofString "_law_order"), (Str.ofString "_law_found"), (Str.ofString "_law_kind"), (Str.ofString "_law_at"), (Str.ofString "_law_mine"), (Str.ofString "_law_house_here"), (Str.ofString "_law_other"), (Str.ofString "_law_theirs"), (Str.ofString "_law_side"), (Str.ofString "_law_row")]
abbrev s_comes_out : Stmt := top 17
abbrev N_comes_out : List Str := [(Str.ofString "shape"), (Str.ofString "house"), (Str.ofString "here"), (Str.ofString "turn")]
abbrev s_is_integer : Stmt := top 2
abbrev N_is_integer : List Str := [(Str.ofString "thing")]
abbrev s_is_within : Stmt := top 3
abbrev N_is_within : List Str := [(Str.ofString "thing"), (Str.ofString "least"), (Str.ofString "most")]
abbrev s_is_below : Stmt := top 4
abbrev N_is_below : List Str := [(Str.ofString "thing"), (Str.ofString "many")]
abbrev s_is_place : Stmt := top 14
abbrev N_is_place : List Str := [(Str.ofString "many"), (Str.ofString "thing")]
abbrev s_is_sized : Stmt := top 5
abbrev N_is_sized : List Str := [(Str.ofString "thing"), (Str.ofString "least"), (Str.ofString "most")]
abbrev s_is_part : Stmt := top 15
abbrev N_is_part : List Str := [(Str.ofString "many"), (Str.ofString "thing"), (Str.ofString "item")]
abbrev s_sons_of : Stmt := top 16
abbrev N_sons_of : List Str := [(Str.ofString "shape"), (Str.ofString "house"), (Str.ofString "son")]
abbrev s_is_right_shape : Stmt := top 18
abbrev N_is_right_shape : List Str := [(Str.ofString "thing"), (Str.ofString "house"), (Str.ofString "part"), (Str.ofString "son")]
abbrev s_is_shape : Stmt := top 19
abbrev N_is_shape : List Str := [(Str.ofString "thing")]
abbrev s_law : Stmt := top 34
abbrev N_law : List Str := [(Str.ofString "_law_script"), (Str.ofString "_law_hand_here"), (Str.ofString "_law_shape_here"), (Str.ofString "_law_turn"), (Str.ofString "_law_thing")]
structure Tx (K : PySem.W.Frag) (mg : Str → Option Value) : Prop where
  f_isinstance : mg (Str.ofString "isinstance") = none
  f_int : mg (Str.ofString "int") = none
  isf : IsF K OC
  f_bool : mg (Str.ofString "bool") = none
  g_is_integer : mg (Str.ofString "is_integer") = some (.ref (ga K (Str.ofString "is_integer")))
  g_is_within : mg (Str.ofString "is_within") = some (.ref (ga K (Str.ofString "is_within")))
  f_tuple : mg (Str.ofString "tuple") = none
  f_len : mg (Str.ofString "len") = none
  g_is_below : mg (Str.ofString "is_below") = some (.ref (ga K (Str.ofString "is_below")))
  i_PARTS : ∃ t, mg (Str.ofString "PARTS") = some (.int 6 t)
  g_is_sized : mg (Str.ofString "is_sized") = some (.ref (ga K (Str.ofString "is_sized")))
  i_TURNED : ∃ t, mg (Str.ofString "TURNED") = some (.int 3 t)
  g_is_place : mg (Str.ofString "is_place") = some (.ref (ga K (Str.ofString "is_place")))
  f_all : mg (Str.ofString "all") = none
  i_LEFT : ∃ t, mg (Str.ofString "LEFT") = some (.int 1 t)
  i_RIGHT : ∃ t, mg (Str.ofString "RIGHT") = some (.int 2 t)
  i_ADDED : ∃ t, mg (Str.ofString "ADDED") = some (.int 4 t)
  i_VALUE : ∃ t, mg (Str.ofString "VALUE") = some (.int 5 t)
  f_range : mg (Str.ofString "range") = none
  i_UP : ∃ t, mg (Str.ofString "UP") = some (.int 0 t)
  i_MOST_HOUSES : ∃ t, mg (Str.ofString "MOST_HOUSES") = some (.int 64 t)
  g_is_part : mg (Str.ofString "is_part") = some (.ref (ga K (Str.ofString "is_part")))
  g_sons_of : mg (Str.ofString "sons_of") = some (.ref (ga K (Str.ofString "sons_of")))
  g_comes_out : mg (Str.ofString "comes_out") = some (.ref (ga K (Str.ofString "comes_out")))
  g_is_right_shape : mg (Str.ofString "is_right_shape") = some (.ref (ga K (Str.ofString "is_right_shape")))
  f_list : mg (Str.ofString "list") = none
  g__law_draw : mg (Str.ofString "_law_draw") = some (.ref (ga K (Str.ofString "_law_draw")))
  g__law_shuffled : mg (Str.ofString "_law_shuffled") = some (.ref (ga K (Str.ofString "_law_shuffled")))
  g__law_value : mg (Str.ofString "_law_value") = some (.ref (ga K (Str.ofString "_law_value")))
  g__law_house : mg (Str.ofString "_law_house") = some (.ref (ga K (Str.ofString "_law_house")))
  f_min : mg (Str.ofString "min") = none
  g__law_number : mg (Str.ofString "_law_number") = some (.ref (ga K (Str.ofString "_law_number")))
  g__law_is_integer : mg (Str.ofString "_law_is_integer") = some (.ref (ga K (Str.ofString "_law_is_integer")))
  g__law_deep : mg (Str.ofString "_law_deep") = some (.ref (ga K (Str.ofString "_law_deep")))
  g__law_hand : mg (Str.ofString "_law_hand") = some (.ref (ga K (Str.ofString "_law_hand")))
  g__law_many : mg (Str.ofString "_law_many") = some (.ref (ga K (Str.ofString "_law_many")))
  g__law_shape : mg (Str.ofString "_law_shape") = some (.ref (ga K (Str.ofString "_law_shape")))
  g_is_shape : mg (Str.ofString "is_shape") = some (.ref (ga K (Str.ofString "is_shape")))
  g__law_is : mg (Str.ofString "_law_is") = some (.ref (ga K (Str.ofString "_law_is")))
  g__law_is_shape : mg (Str.ofString "_law_is_shape") = some (.ref (ga K (Str.ofString "_law_is_shape")))
  g__law_bent : mg (Str.ofString "_law_bent") = some (.ref (ga K (Str.ofString "_law_bent")))
  g_law : mg (Str.ofString "law") = some (.ref (ga K (Str.ofString "law")))
  d__law_draw : ∃ fd, FunD K (Str.ofString "_law_draw") (Str.ofString "_law_draw") (defArgs s__law_draw) (defBody s__law_draw) (defScope s__law_draw) [] [] (He.fAd K ((Str.ofString "_law_draw"), none)) fd
  d__law_deep : ∃ fd, FunD K (Str.ofString "_law_deep") (Str.ofString "_law_deep") (defArgs s__law_deep) (defBody s__law_deep) (defScope s__law_deep) [] [] (He.fAd K ((Str.ofString "_law_deep"), none)) fd
  d__law_bent : ∃ fd, FunD K (Str.ofString "_law_bent") (Str.ofString "_law_bent") (defArgs s__law_bent) (defBody s__law_bent) (defScope s__law_bent) [] [] (He.fAd K ((Str.ofString "_law_bent"), none)) fd
  d__law_hand : ∃ fd, FunD K (Str.ofString "_law_hand") (Str.ofString "_law_hand") (defArgs s__law_hand) (defBody s__law_hand) (defScope s__law_hand) [] [] (He.fAd K ((Str.ofString "_law_hand"), none)) fd
  d__law_is : ∃ fd, FunD K (Str.ofString "_law_is") (Str.ofString "_law_is") (defArgs s__law_is) (defBody s__law_is) (defScope s__law_is) [] [] (He.fAd K ((Str.ofString "_law_is"), none)) fd
  d__law_is_integer : ∃ fd, FunD K (Str.ofString "_law_is_integer") (Str.ofString "_law_is_integer") (defArgs s__law_is_integer) (defBody s__law_is_integer) (defScope s__law_is_integer) [] [] (He.fAd K ((Str.ofString "_law_is_integer"), none)) fd
  d__law_number : ∃ fd, FunD K (Str.ofString "_law_number") (Str.ofString "_law_number") (defArgs s__law_number) (defBody s__law_number) (defScope s__law_number) [] [] (He.fAd K ((Str.ofString "_law_number"), none)) fd
  d__law_is_shape : ∃ fd, FunD K (Str.ofString "_law_is_shape") (Str.ofString "_law_is_shape") (defArgs s__law_is_shape) (defBody s__law_is_shape) (defScope s__law_is_shape) [] [] (He.fAd K ((Str.ofString "_law_is_shape"), none)) fd
  d__law_many : ∃ fd, FunD K (Str.ofString "_law_many") (Str.ofString "_law_many") (defArgs s__law_many) (defBody s__law_many) (defScope s__law_many) [] [] (He.fAd K ((Str.ofString "_law_many"), none)) fd
  d__law_house : ∃ fd, FunD K (Str.ofString "_law_house") (Str.ofString "_law_house") (defArgs s__law_house) (defBody s__law_house) (defScope s__law_house) [] [] (He.fAd K ((Str.ofString "_law_house"), none)) fd
  d__law_shuffled : ∃ fd, FunD K (Str.ofString "_law_shuffled") (Str.ofString "_law_shuffled") (defArgs s__law_shuffled) (defBody s__law_shuffled) (defScope s__law_shuffled) [] [] (He.fAd K ((Str.ofString "_law_shuffled"), none)) fd
  d__law_value : ∃ fd, FunD K (Str.ofString "_law_value") (Str.ofString "_law_value") (defArgs s__law_value) (defBody s__law_value) (defScope s__law_value) [] [] (He.fAd K ((Str.ofString "_law_value"), none)) fd
  d__law_shape : ∃ fd, FunD K (Str.ofString "_law_shape") (Str.ofString "_law_shape") (defArgs s__law_shape) (defBody s__law_shape) (defScope s__law_shape) [] [] (He.fAd K ((Str.ofString "_law_shape"), none)) fd
  d_comes_out : ∃ fd, FunD K (Str.ofString "comes_out") (Str.ofString "comes_out") (defArgs s_comes_out) (defBody s_comes_out) (defScope s_comes_out) [] [] (He.fAd K ((Str.ofString "comes_out"), none)) fd
  d_is_integer : ∃ fd, FunD K (Str.ofString "is_integer") (Str.ofString "is_integer") (defArgs s_is_integer) (defBody s_is_integer) (defScope s_is_integer) [] [] (He.fAd K ((Str.ofString "is_integer"), none)) fd
  d_is_within : ∃ fd, FunD K (Str.ofString "is_within") (Str.ofString "is_within") (defArgs s_is_within) (defBody s_is_within) (defScope s_is_within) [] [] (He.fAd K ((Str.ofString "is_within"), none)) fd
  d_is_below : ∃ fd, FunD K (Str.ofString "is_below") (Str.ofString "is_below") (defArgs s_is_below) (defBody s_is_below) (defScope s_is_below) [] [] (He.fAd K ((Str.ofString "is_below"), none)) fd
  d_is_place : ∃ fd, FunD K (Str.ofString "is_place") (Str.ofString "is_place") (defArgs s_is_place) (defBody s_is_place) (defScope s_is_place) [] [] (He.fAd K ((Str.ofString "is_place"), none)) fd
  d_is_sized : ∃ fd, FunD K (Str.ofString "is_sized") (Str.ofString "is_sized") (defArgs s_is_sized) (defBody s_is_sized) (defScope s_is_sized) [] [] (He.fAd K ((Str.ofString "is_sized"), none)) fd
  d_is_part : ∃ fd, FunD K (Str.ofString "is_part") (Str.ofString "is_part") (defArgs s_is_part) (defBody s_is_part) (defScope s_is_part) [] [] (He.fAd K ((Str.ofString "is_part"), none)) fd
  d_sons_of : ∃ fd, FunD K (Str.ofString "sons_of") (Str.ofString "sons_of") (defArgs s_sons_of) (defBody s_sons_of) (defScope s_sons_of) [] [] (He.fAd K ((Str.ofString "sons_of"), none)) fd
  d_is_right_shape : ∃ fd, FunD K (Str.ofString "is_right_shape") (Str.ofString "is_right_shape") (defArgs s_is_right_shape) (defBody s_is_right_shape) (defScope s_is_right_shape) [] [] (He.fAd K ((Str.ofString "is_right_shape"), none)) fd
  d_is_shape : ∃ fd, FunD K (Str.ofString "is_shape") (Str.ofString "is_shape") (defArgs s_is_shape) (defBody s_is_shape) (defScope s_is_shape) [] [] (He.fAd K ((Str.ofString "is_shape"), none)) fd
  d_law : ∃ fd, FunD K (Str.ofString "law") (Str.ofString "law") (defArgs s_law) (defBody s_law) (defScope s_law) [] [] (He.fAd K ((Str.ofString "law"), none)) fd
/-! ### the plain part -/

def hnd (cs : List D) (i c s t : Int) : GO := .lst [.fl cs, .int i, .int c, .int s, .int t]
structure HOk (cs : List D) (i c : Int) : Prop where
  nums : ∀ x ∈ cs, ∃ n : Int, x = .int n
  i0 : 0 ≤ i
  c0 : 0 ≤ c
theorem snext_eq {D : Ends3} {σ : St3} {G : Gp} (h : D.nx σ G) : snext D σ G := h
theorem nof {P : Prop} (h : false = true) : P := by cases h
theorem iteT {A B : Prop} (h : A) : if true = true then A else B := h
theorem iteF {A B : Prop} (h : B) : if false = true then A else B := h
def isI : D → Bool
  | .int _ => true
  | _ => false
theorem isI_eq (x : D) : (isiD .int x && !isiD .bl x) = isI x := by cases x <;> rfl
theorem isI_of {x : D} (h : isI x = true) : ∃ i, x = .int i := by cases x <;> first | exact ⟨_, rfl⟩ | cases h
theorem isT_of {x : D} (h : isiD .tup x = true) : ∃ xs, x = .tup xs := by cases x <;> first | exact ⟨_, rfl⟩ | (simp [isiD] at h)
def wiI (a b : Int) : D → Bool
  | .int i => decide (a ≤ i) && decide (i ≤ b)
  | _ => false
def nuI : D → Bool
  | .int i => decide (0 ≤ i)
  | _ => false
def siI (a b : Int) : D → Bool
  | .tup xs => decide (a ≤ (xs.length : Int)) && decide ((xs.length : Int) ≤ b)
  | _ => false

/-! ### shapes -/
structure Row where
  u : Option Nat
  l : Option Nat
  r : Option Nat
  t : Bool
  a : Int
  v : Int
def pl : Option Nat → D
  | none => .non
  | some i => .int i
def Row.items (r : Row) : List D := [pl r.u, pl r.l, pl r.r, .bl r.t, .int r.a, .int r.v]
def Row.d (r : Row) : D := .tup r.items
def okp (n : Nat) (o : Option Nat) : Prop := ∀ i, o = some i → i < n
structure Row.ok (r : Row) (n : Nat) : Prop where
  u : okp n r.u
  l : okp n r.l
  r : okp n r.r
def Row.two (r : Row) : Prop := r.l = none ∨ r.l ≠ r.r
/-- going up from h comes to a top within k steps -/
def go (rs : List Row) : Nat → Nat → Bool
  | 0, _ => false
  | k + 1, h => match rs[h]? with
    | some r => (match r.u with
      | none => true
      | some p => go rs k p)
    | none => false
def sonIs (rs : List Row) (h : Nat) (o : Option Nat) : Prop := ∀ s, o = some s → ∃ q, rs[s]? = some q ∧ q.u = some h
structure ShpR (rs : List Row) : Prop where
  n1 : 1 ≤ rs.length
  n64 : rs.length ≤ 64
  ok : ∀ r ∈ rs, r.ok rs.length
  two : ∀ r ∈ rs, r.two
  sons : ∀ h r, rs[h]? = some r → sonIs rs h r.l ∧ sonIs rs h r.r
  go : ∀ h, h < rs.length → go rs rs.length h = true
def Shp (x : D) : Prop := ∃ rs : List Row, x = .tup (rs.map Row.d) ∧ ShpR rs
/-- a row of right form -/
def RowP (n : Nat) (x : D) : Prop := ∃ r : Row, x = r.d ∧ r.ok n
theorem pl_inj {o p : Option Nat} (h : pl o = pl p) : o = p := by
  cases o <;> cases p <;> simp [pl] at h ⊢; omega
theorem Row.d_inj {r q : Row} (h : r.d = q.d) : r = q := by
  unfold Row.d Row.items at h
  injection h with h
  injection h with h1 h; injection h with h2 h; injection h with h3 h; injection h with h4 h; injection h with h5 h; injection h with h6 h
  injection h4 with h4; injection h5 with h5; injection h6 with h6
  cases r; cases q
  simp only at h1 h2 h3 h4 h5 h6
  rw [pl_inj h1, pl_inj h2, pl_inj h3, h4, h5, h6]
theorem rows_inj : ∀ {rs qs : List Row}, rs.map Row.d = qs.map Row.d → rs = qs
  | [], [], _ => rfl
  | [], _ :: _, h => by simp at h
  | _ :: _, [], h => by simp at h
  | r :: rs, q :: qs, h => by
    simp only [List.map_cons, List.cons.injEq] at h
    rw [Row.d_inj h.1, rows_inj h.2]
theorem shp_rows {rs : List Row} : Shp (.tup (rs.map Row.d)) ↔ ShpR rs := by
  constructor
  · rintro ⟨qs, e, h⟩
    injection e with e
    rw [rows_inj e]; exact h
  · exact fun h => ⟨rs, rfl, h⟩
theorem rows_all : ∀ {n : Nat} {xs : List D}, (∀ x ∈ xs, RowP n x) → ∃ rs : List Row, xs = rs.map Row.d ∧ ∀ r ∈ rs, r.ok n
  | _, [], _ => ⟨[], rfl, by simp⟩
  | n, x :: xs, h => by
    obtain ⟨r, e, ok⟩ := h x (by simp)
    obtain ⟨rs, e2, ok2⟩ := rows_all (n := n) (xs := xs) fun y hy => h y (by simp [hy])
    refine ⟨r :: rs, by rw [e, e2]; rfl, fun q hq => ?_⟩
    rcases List.mem_cons.mp hq with rfl | hq
    · exact ok
    · exact ok2 q hq
/-- what is judged: each thing, its parts, their parts can be asked for their kinds -/
def wkr : D → Bool
  | .tup xs => xs.all (kn OC)
  | x => kn OC x
def wks : D → Bool
  | .tup xs => xs.all wkr
  | x => kn OC x
theorem wkr_kn {x : D} (h : wkr x = true) : kn OC x = true := by cases x <;> first | rfl | exact h
theorem wks_kn {x : D} (h : wks x = true) : kn OC x = true := by cases x <;> first | rfl | exact h
/-- a place: None, or a number below n -/
def plB (n : Int) : D → Bool
  | .non => true
  | x => wiI 0 (n - 1) x
theorem plB_ok {n : Nat} {x : D} : plB n x = true ↔ ∃ o, x = pl o ∧ okp n o := by
  constructor
  · intro h
    cases x with
    | non => exact ⟨none, rfl, fun i e => by cases e⟩
    | int i =>
      have h : (decide (0 ≤ i) && decide (i ≤ (n : Int) - 1)) = true := h
      rw [Bool.and_eq_true, decide_eq_true_eq, decide_eq_true_eq] at h
      refine ⟨some i.toNat, ?_, fun j e => ?_⟩
      · show D.int i = D.int (i.toNat : Int)
        rw [Int.toNat_of_nonneg h.1]
      · cases e; omega
    | _ => cases h
  · rintro ⟨o, rfl, h⟩
    cases o with
    | none => rfl
    | some i =>
      have := h i rfl
      show (decide ((0 : Int) ≤ (i : Int)) && decide ((i : Int) ≤ (n : Int) - 1)) = true
      rw [Bool.and_eq_true, decide_eq_true_eq, decide_eq_true_eq]; omega
def lenD : D → Nat
  | .tup xs => xs.length
  | _ => 0
theorem siI_of {a b : Int} {x : D} (h : siI a b x = true) : ∃ xs, x = .tup xs ∧ a ≤ xs.length ∧ (xs.length : Int) ≤ b := by
  cases x with
  | tup xs =>
    have h : (decide (a ≤ (xs.length : Int)) && decide ((xs.length : Int) ≤ b)) = true := h
    rw [Bool.and_eq_true, decide_eq_true_eq, decide_eq_true_eq] at h
    exact ⟨xs, rfl, h.1, h.2⟩
  | _ => cases h
theorem siI_tup {a b : Int} {xs : List D} : siI a b (.tup xs) = true ↔ a ≤ xs.length ∧ (xs.length : Int) ≤ b := by
  show (decide (a ≤ (xs.length : Int)) && decide ((xs.length : Int) ≤ b)) = true ↔ _
  rw [Bool.and_eq_true, decide_eq_true_eq, decide_eq_true_eq]
theorem six {xs : List D} (h : xs.length = 6) : ∃ a b c d e f, xs = [a, b, c, d, e, f] := by
  match xs, h with
  | [a, b, c, d, e, f], _ => exact ⟨a, b, c, d, e, f, rfl⟩
theorem at_row {rs : List Row} {h : Nat} {r : Row} (e : rs[h]? = some r) : atI (rs.map Row.d) (h : Int) = some r.d := at_get (by omega) (by simp [e])
theorem pl_eqD {o p : Option Nat} : eqD (pl o) (pl p) = true ↔ o = p := by
  cases o <;> cases p <;> simp [pl, eqD]
  omega
theorem pl_eqOk {o p : Option Nat} : eqOk (pl o) (pl p) = true := by cases o <;> cases p <;> rfl
theorem pl_isN {o : Option Nat} : isN (pl o) = true ↔ o = none := by cases o <;> simp [pl, isN]
def sonsL (r : Row) : List D := [pl r.l, pl r.r].filterMap fun x => if isN x then none else some x
theorem sonsL_mem {r : Row} {x : D} (h : x ∈ sonsL r) : ∃ s : Nat, x = .int s ∧ (r.l = some s ∨ r.r = some s) := by
  unfold sonsL at h
  cases hl : r.l <;> cases hr : r.r <;> simp [hl, hr, pl, isN] at h
  · exact ⟨_, h, .inr rfl⟩
  · exact ⟨_, h, .inl rfl⟩
  · rcases h with h | h
    · exact ⟨_, h, .inl rfl⟩
    · exact ⟨_, h, .inr rfl⟩
theorem sonsL_in {r : Row} {s : Nat} (h : r.l = some s ∨ r.r = some s) : D.int s ∈ sonsL r := by
  unfold sonsL
  rcases h with h | h <;> simp [h, pl, isN]

/-- where one stands after k steps up -/
def walk (rs : List Row) : Nat → Option Nat → Option Nat
  | 0, o => o
  | _ + 1, none => none
  | k + 1, some h => match rs[h]? with
    | some r => walk rs k r.u
    | none => some h
theorem walk_none (rs : List Row) : ∀ k, walk rs k none = none
  | 0 => rfl
  | _ + 1 => rfl
theorem go_walk {rs : List Row} (ok : ∀ r ∈ rs, r.ok rs.length) : ∀ (k h : Nat), h < rs.length → (go rs k h = true ↔ walk rs k (some h) = none)
  | 0, h, _ => by simp [go, walk]
  | k + 1, h, hl => by
    obtain ⟨r, er⟩ : ∃ r, rs[h]? = some r := ⟨rs[h], by simp [hl]⟩
    unfold go walk
    rw [er]
    cases hu : r.u with
    | none => simp [walk_none, hu]
    | some p => simpa [hu] using go_walk ok k p ((ok r (List.mem_of_getElem? er)).u p hu)

/-! ### rows as lists that are written -/
def upf (f : Nat → Row) (w : Nat) (r : Row) : Nat → Row := fun q => if q = w then r else f q
theorem upf_same {f : Nat → Row} {w : Nat} {r : Row} : upf f w r w = r := if_pos rfl
theorem upf_fld {α : Type} (g : Row → α) {f : Nat → Row} {w : Nat} {r : Row} (e : g r = g (f w)) (q : Nat) : g (upf f w r q) = g (f q) := by
  unfold upf
  by_cases h : q = w
  · rw [if_pos h, e, h]
  · rw [if_neg h]
theorem upf_ne {f : Nat → Row} {w q : Nat} {r : Row} (h : q ≠ w) : upf f w r q = f q := if_neg h
structure RA (G0 : Gp) (h : Addr) (m : Nat) (ad : Nat → Addr) (f : Nat → Row) (cs : List D) (i c s t : Int) (G : Gp) : Prop where
  ok : HOk cs i c
  hh : G h = some (hnd cs i c s t)
  rows : ∀ q, q < m → G (ad q) = some (.lst (f q).items)
  inj : ∀ q p, q < m → p < m → ad q = ad p → q = p
  nh : ∀ q, q < m → ad q ≠ h
  fresh : ∀ q, q < m → G0 (ad q) = none
  keep : ∀ b o, b ≠ h → G0 b = some o → G b = some o
section
variable {G0 G : Gp} {h : Addr} {m : Nat} {ad : Nat → Addr} {f : Nat → Row} {cs : List D} {i c s t i' c' s' t' : Int}
theorem RA.draw (R : RA G0 h m ad f cs i c s t G) (ok : HOk cs i' c') : RA G0 h m ad f cs i' c' s' t' (up G h (hnd cs i' c' s' t')) :=
  ⟨ok, up_same, fun q hq => by rw [up_ne (R.nh q hq)]; exact R.rows q hq, R.inj, R.nh, R.fresh, fun b o hb e => by rw [up_ne hb]; exact R.keep b o hb e⟩
theorem RA.row (R : RA G0 h m ad f cs i c s t G) {w : Nat} (hw : w < m) (r : Row) : RA G0 h m ad (upf f w r) cs i c s t (up G (ad w) (.lst r.items)) :=
  ⟨R.ok, by rw [up_ne (Ne.symm (R.nh w hw))]; exact R.hh, fun q hq => by
    by_cases e : q = w
    · subst e; rw [up_same, upf_same]
    · rw [up_ne (fun z => e (R.inj q w hq hw z)), upf_ne e]; exact R.rows q hq, R.inj, R.nh, R.fresh, fun b o hb e => by
    rw [up_ne (fun z => by rw [z, R.fresh w hw] at e; cases e)]; exact R.keep b o hb e⟩
theorem RA.sub (R : RA G0 h m ad f cs i c s t G) : L3.Sub (up G0 h (hnd cs i c s t)) G := fun b o e => by
  by_cases hb : b = h
  · subst hb; rw [up_same] at e; rw [R.hh]; exact e
  · rw [up_ne hb] at e; exact R.keep b o hb e
end
theorem RA.new {G0 G : Gp} {h : Addr} {m : Nat} {ad : Nat → Addr} {f : Nat → Row} {cs : List D} {i c s t : Int} (R : RA G0 h m ad f cs i c s t G) {q : Addr} (nq : G q = none) (r : Row) : RA G0 h (m + 1) (fun j => if j = m then q else ad j) (upf f m r) cs i c s t (up G q (.lst r.items)) := by
  have qh : q ≠ h := ne_new R.hh nq
  have old : ∀ j, j < m → (if j = m then q else ad j) = ad j := fun j hj => if_neg (by omega)
  have neq : ∀ j, j < m → ad j ≠ q := fun j hj z => by have := R.rows j hj; rw [z, nq] at this; cases this
  refine ⟨R.ok, by rw [up_ne (Ne.symm qh)]; exact R.hh, fun j hj => ?_, fun a b ha hb e => ?_, fun j hj => ?_, fun j hj => ?_, fun b o hb e => ?_⟩
  · by_cases e : j = m
    · subst e; simp only [if_true]; rw [up_same, upf_same]
    · have hj : j < m := by omega
      simp only [old j hj]
      rw [up_ne (neq j hj), upf_ne e]; exact R.rows j hj
  · by_cases ea : a = m
    · by_cases eb : b = m
      · omega
      · simp only [ea, if_true, old b (by omega)] at e
        exact absurd e.symm (neq b (by omega))
    · by_cases eb : b = m
      · simp only [eb, if_true, old a (by omega)] at e
        exact absurd e (neq a (by omega))
      · simp only [old a (by omega), old b (by omega)] at e
        exact R.inj a b (by omega) (by omega) e
  · by_cases e : j = m
    · simp only [e, if_true]; exact qh
    · simp only [old j (by omega)]; exact R.nh j (by omega)
  · by_cases e : j = m
    · simp only [e, if_true]
      cases z : G0 q with
      | none => rfl
      | some o => have := R.keep q o qh z; rw [nq] at this; cases this
    · simp only [old j (by omega)]; exact R.fresh j (by omega)
  · rw [up_ne (fun z => by
      rw [z] at e
      have := R.keep q o qh e; rw [nq] at this; cases this)]
    exact R.keep b o hb e
/-- the shape while it grows: o the order, k how many are placed -/
structure Grow (m : Nat) (o : Nat → Nat) (k : Nat) (f : Nat → Row) : Prop where
  a : ∀ i, k ≤ i → i < m → (f (o i)).u = none ∧ (f (o i)).l = none ∧ (f (o i)).r = none
  b : ∀ i, i < k → (f (o i)).u = none ∨ ∃ j, j < i ∧ (f (o i)).u = some (o j)
  c : ∀ q s, q < m → (f q).l = some s ∨ (f q).r = some s → ∃ i, i < k ∧ s = o i ∧ (f s).u = some q
  d : ∀ q, q < m → (f q).two
structure Ord (m : Nat) (o : Nat → Nat) : Prop where
  lt : ∀ i, i < m → o i < m
  inj : ∀ i j, i < m → j < m → o i = o j → i = j
  sur : ∀ q, q < m → ∃ i, i < m ∧ o i = q
theorem Grow.same {m k : Nat} {o : Nat → Nat} {f : Nat → Row} (O : Ord m o) (g : Grow m o k f) (hk : k < m) (r : Row) (e1 : r.u = (f (o k)).u) (e2 : r.l = (f (o k)).l) (e3 : r.r = (f (o k)).r) : Grow m o k (upf f (o k) r) := by
  have U : ∀ q, (upf f (o k) r q).u = (f q).u := upf_fld Row.u e1
  have L : ∀ q, (upf f (o k) r q).l = (f q).l := upf_fld Row.l e2
  have R : ∀ q, (upf f (o k) r q).r = (f q).r := upf_fld Row.r e3
  exact ⟨fun i a b => by rw [U, L, R]; exact g.a i a b, fun i a => by rw [U]; exact g.b i a, fun q s a b => by
    rw [L, R] at b
    obtain ⟨i, h1, h2, h3⟩ := g.c q s a b
    exact ⟨i, h1, h2, by rw [U]; exact h3⟩, fun q a => by unfold Row.two; rw [L, R]; exact g.d q a⟩
theorem Grow.next {m k : Nat} {o : Nat → Nat} {f : Nat → Row} (g : Grow m o k f) (hk : k < m) : Grow m o (k + 1) f :=
  ⟨fun i a b => g.a i (by omega) b, fun i a => by
    by_cases e : i = k
    · subst e; exact .inl (g.a i (Nat.le_refl _) hk).1
    · exact g.b i (by omega), fun q s a b => by
    obtain ⟨i, h1, h2, h3⟩ := g.c q s a b
    exact ⟨i, by omega, h2, h3⟩, g.d⟩
/-- the house o k gets o j as its up -/
theorem Grow.up {m k j : Nat} {o : Nat → Nat} {f : Nat → Row} (O : Ord m o) (g : Grow m o k f) (hk : k < m) (hj : j < k) : Grow m o (k + 1) (upf f (o k) { f (o k) with u := some (o j) }) := by
  have L : ∀ q, (upf f (o k) { f (o k) with u := some (o j) } q).l = (f q).l := upf_fld Row.l rfl
  have R : ∀ q, (upf f (o k) { f (o k) with u := some (o j) } q).r = (f q).r := upf_fld Row.r rfl
  have ne : ∀ i, i < m → i ≠ k → o i ≠ o k := fun i hi h e => h (O.inj i k hi hk e)
  refine ⟨fun i a b => ?_, fun i a => ?_, fun q s a b => ?_, fun q a => by unfold Row.two; rw [L, R]; exact g.d q a⟩
  · rw [L, R, upf_ne (ne i b (by omega))]; exact g.a i (by omega) b
  · by_cases e : i = k
    · subst e
      rw [upf_same]; exact .inr ⟨j, hj, rfl⟩
    · rw [upf_ne (ne i (by omega) e)]; exact g.b i (by omega)
  · rw [L, R] at b
    obtain ⟨i, h1, h2, h3⟩ := g.c q s a b
    subst h2
    exact ⟨i, by omega, rfl, by rw [upf_ne (ne i (by omega) (by omega))]; exact h3⟩
/-- .. and is o j's son -/
theorem Grow.son {m k j : Nat} {o : Nat → Nat} {f : Nat → Row} (O : Ord m o) (g : Grow m o (k + 1) f) (hk : k < m) (hj : j < k) (hu : (f (o k)).u = some (o j)) (hn : ∀ q, q < m → (f q).l ≠ some (o k) ∧ (f q).r ≠ some (o k)) (r : Row)
    (e : r.u = (f (o j)).u ∧ ((r.l = some (o k) ∧ r.r = (f (o j)).r) ∨ (r.r = some (o k) ∧ r.l = (f (o j)).l))) : Grow m o (k + 1) (upf f (o j) r) := by
  have U : ∀ q, (upf f (o j) r q).u = (f q).u := upf_fld Row.u e.1
  have ne : ∀ i, i < m → i ≠ j → o i ≠ o j := fun i hi h e => h (O.inj i j hi (by omega) e)
  refine ⟨fun i a b => ?_, fun i a => by rw [U]; exact g.b i a, fun q s a b => ?_, fun q a => ?_⟩
  · rw [upf_ne (ne i b (by omega))]; exact g.a i a b
  · rw [U]
    by_cases z : q = o j
    · subst z
      rw [upf_same] at b
      have old : (f (o j)).l = some s ∨ (f (o j)).r = some s → ∃ i, i < k + 1 ∧ s = o i ∧ (f s).u = some (o j) := g.c _ _ a
      have new : some (o k) = some s → ∃ i, i < k + 1 ∧ s = o i ∧ (f s).u = some (o j) := fun z => by
        injection z with z
        subst z
        exact ⟨k, by omega, rfl, hu⟩
      rcases e.2 with ⟨e1, e2⟩ | ⟨e1, e2⟩
      · rw [e1, e2] at b
        rcases b with b | b
        · exact new b
        · exact old (.inr b)
      · rw [e1, e2] at b
        rcases b with b | b
        · exact old (.inl b)
        · exact new b
    · rw [upf_ne z] at b
      exact g.c q s a b
  · by_cases z : q = o j
    · subst z
      rw [upf_same]
      unfold Row.two
      rcases e.2 with ⟨e1, e2⟩ | ⟨e1, e2⟩
      · right; rw [e1, e2]; exact fun z => (hn _ a).2 z.symm
      · by_cases y : r.l = none
        · exact .inl y
        · right; rw [e1, e2]; exact fun z => (hn _ a).1 z
    · rw [upf_ne z]; exact g.d q a
theorem grow_new {m k : Nat} {o : Nat → Nat} {f : Nat → Row} (O : Ord m o) (g : Grow m o k f) (hk : k < m) : ∀ q, q < m → (f q).l ≠ some (o k) ∧ (f q).r ≠ some (o k) := fun q hq => by
  constructor <;> intro e
  · obtain ⟨i, h1, h2, _⟩ := g.c q _ hq (.inl e)
    have := O.inj k i hk (by omega) h2; omega
  · obtain ⟨i, h1, h2, _⟩ := g.c q _ hq (.inr e)
    have := O.inj k i hk (by omega) h2; omega
theorem Grow.shape {m : Nat} {o : Nat → Nat} {f : Nat → Row} (O : Ord m o) (m1 : 1 ≤ m) (m2 : m ≤ 64) (g : Grow m o m f) : ShpR ((List.range m).map f) := by
  have get : ∀ {h : Nat} {r : Row}, ((List.range m).map f)[h]? = some r → h < m ∧ r = f h := fun {h r} e => by
    rw [List.getElem?_map] at e
    cases z : (List.range m)[h]? with
    | none => rw [z] at e; cases e
    | some a =>
      rw [z] at e
      obtain ⟨h1, h2⟩ := List.getElem?_eq_some_iff.mp z
      have : a = h := by simpa using h2.symm
      subst this
      cases e
      exact ⟨by simpa using h1, rfl⟩
  have at_ : ∀ {h : Nat}, h < m → ((List.range m).map f)[h]? = some (f h) := fun {h} hh => by simp [hh]
  have lt : ∀ i, i < m → o i < m := O.lt
  have son : ∀ q s, q < m → (f q).l = some s ∨ (f q).r = some s → s < m ∧ (f s).u = some q := fun q s hq e => by
    obtain ⟨i, h1, h2, h3⟩ := g.c q s hq e
    subst h2
    exact ⟨lt i h1, h3⟩
  have len : ((List.range m).map f).length = m := by simp
  have okr : ∀ r ∈ (List.range m).map f, r.ok m := fun r hr => by
    obtain ⟨q, hq, rfl⟩ := List.mem_map.mp hr
    have hq : q < m := List.mem_range.mp hq
    refine ⟨fun p e => ?_, fun p e => (son q p hq (.inl e)).1, fun p e => (son q p hq (.inr e)).1⟩
    obtain ⟨i, hi, rfl⟩ := O.sur q hq
    rcases g.b i hi with z | ⟨j, hj, z⟩
    · rw [z] at e; cases e
    · rw [z] at e; cases e; exact lt j (by omega)
  refine ⟨by rw [len]; exact m1, by rw [len]; exact m2, by rw [len]; exact okr, fun r hr => ?_, fun h r e => ?_, fun h hh => ?_⟩
  · obtain ⟨q, hq, rfl⟩ := List.mem_map.mp hr
    exact g.d q (List.mem_range.mp hq)
  · obtain ⟨h1, rfl⟩ := get e
    exact ⟨fun s e => ⟨f s, at_ (son h s h1 (.inl e)).1, (son h s h1 (.inl e)).2⟩, fun s e => ⟨f s, at_ (son h s h1 (.inr e)).1, (son h s h1 (.inr e)).2⟩⟩
  · rw [len] at hh ⊢
    have key : ∀ (i k : Nat), i < k → i < m → go ((List.range m).map f) k (o i) = true := by
      intro i
      induction i using Nat.strongRecOn with
      | ind i ih =>
        intro k hk hi
        obtain ⟨k, rfl⟩ : ∃ k', k = k' + 1 := ⟨k - 1, by omega⟩
        unfold go
        rw [at_ (lt i hi)]
        rcases g.b i hi with z | ⟨j, hj, z⟩
        · simp only [z]
        · simp only [z]
          exact ih j hj k (by omega) (by omega)
    obtain ⟨i, hi, rfl⟩ := O.sur h hh
    exact key i m hi hi
theorem ord_of {m : Nat} {l : List Nat} (p : l.Perm (List.range m)) : Ord m (fun i => l.getD i 0) := by
  have len : l.length = m := by simpa using p.length_eq
  have nd : l.Nodup := p.nodup_iff.mpr List.nodup_range
  have g : ∀ i (h : i < m), l.getD i 0 = l[i]'(by omega) := fun i h => by simp [List.getD, len, h]
  refine ⟨fun i hi => ?_, fun i j hi hj e => ?_, fun q hq => ?_⟩
  · simp only [g i hi]
    exact List.mem_range.mp (p.mem_iff.mp (List.getElem_mem _))
  · simp only [g i hi, g j hj] at e
    have pw := List.pairwise_iff_getElem.mp nd
    rcases Nat.lt_trichotomy i j with h | h | h
    · exact absurd e (pw i j (by omega) (by omega) h)
    · exact h
    · exact absurd e.symm (pw j i (by omega) (by omega) h)
  · obtain ⟨i, hi, e⟩ := List.mem_iff_getElem.mp (p.mem_iff.mpr (List.mem_range.mpr hq))
    exact ⟨i, by omega, by simp only [g i (by omega)]; exact e⟩

/-! #### _law_draw -/

def sp__law_draw : Sp3 := fun ds G Q E => match ds with
  | [.ref h, .int m] => ∃ cs i c s t, G h = some (hnd cs i c s t) ∧ HOk cs i c ∧ 1 ≤ m ∧ m < 1000000 ∧ ∀ r i' c' s' t', 0 ≤ r → r < m → HOk cs i' c' → Q (.int r) (up G h (hnd cs i' c' s' t'))
  | _ => False
def t__law_draw : TS3 :=
    (sseq (sif (Tand (tb3 (t2 eq3 (t2 ix3 (tv 0) (tc (.int 2))) (tc (.int 0)))) (tb3 (t2 lt3 (t2 ix3 (tv 0) (tc (.int 1))) (tcb bLen (acons (t2 ix3 (tv 0) (tc (.int 0))) anil))))) (sseq (sset 3 (t2 ix3 (t2 ix3 (tv 0) (tc (.int 0))) (t2 ix3 (tv 0) (tc (.int 1)))))
    (sseq (ssub (tv 0) (tc (.int 1)) (t2 (add3 false) (t2 ix3 (tv 0) (tc (.int 1))) (tc (.int 1))) setL3)
    (sseq (ssub (tv 0) (tc (.int 3)) (t2 mod3 (tcb bInt (acons (t2 (add3 false) (t2 (add3 false) (t2 (mul3 false) (t2 ix3 (tv 0) (tc (.int 3))) (tc (.int 69621))) (t2 (mul3 false) (tv 3) (tc (.int 16)))) (tc (.int 11))) anil)) (tc (.int 2147483629))) setL3)
    (sif (tb3 (t2 ge3 (tv 3) (t2 pow3 (tc (.int 10)) (tc (.int 18))))) (ssub (tv 0) (tc (.int 2)) (tv 3) setL3) snext)))) snext)
    (sseq (sif (tb3 (t2 gt3 (t2 ix3 (tv 0) (tc (.int 2))) (tc (.int 0)))) (sseq (sset 4 (t2 mod3 (tcb bInt (acons (t2 ix3 (tv 0) (tc (.int 2))) anil)) (tv 1)))
    (sseq (ssub (tv 0) (tc (.int 2)) (t2 fdiv3 (t2 ix3 (tv 0) (tc (.int 2))) (tv 1)) setL3)
    (sret (tv 4)))) snext)
    (sseq (ssub (tv 0) (tc (.int 4)) (t2 (add3 false) (t2 ix3 (tv 0) (tc (.int 4))) (tc (.int 1))) setL3)
    (sseq (sset 2 (t2 mod3 (tcb bInt (acons (t2 (mul3 false) (tcb bInt (acons (t2 (add3 false) (t2 ix3 (tv 0) (tc (.int 3))) (t2 (mul3 false) (tc (.int 7919)) (t2 ix3 (tv 0) (tc (.int 4))))) anil)) (tc (.int 48271))) anil)) (tc (.int 2147483647))))
    (sseq (sset 2 (t2 mod3 (tcb bInt (acons (t2 (mul3 false) (tv 2) (t2 (add3 false) (t2 fdiv3 (tv 2) (tc (.int 1009))) (tc (.int 69621)))) anil)) (tc (.int 2147483647))))
    (sseq (sset 2 (t2 mod3 (tcb bInt (acons (t2 (mul3 false) (tv 2) (t2 (add3 false) (t2 fdiv3 (tv 2) (tc (.int 2003))) (tc (.int 40692)))) anil)) (tc (.int 2147483399))))
    (sret (t2 mod3 (tcb bInt (acons (t2 fdiv3 (tv 2) (tc (.int 16))) anil)) (tv 1)))))))))
set_option maxHeartbeats 4000000 in
theorem vc__law_draw (ds : List D) (G : Gp) (Q : QK) (E : EK) (h : sp__law_draw ds G Q E) : t__law_draw (fnEnds Q E) (start3 N__law_draw ds) G := by
  unfold sp__law_draw at h
  split at h
  case h_2 => exact h.elim
  rename_i h m
  obtain ⟨cs, i, c, s, t, hG, ok, m1, m2, hq⟩ := h
  refine sseq_cut (fun σ G' => ∃ y i c s t, G' = up G h (hnd cs i c s t) ∧ HOk cs i c ∧ σ = [some (.ref h), some (.int m), none, y, none]) (fun N hN => ?_) ?_
  · have hN0 : N [some (.ref h), some (.int m), none, none, none] G := hN _ _ ⟨none, i, c, s, t, (up_self hG).symm, ok, rfl⟩
    refine ⟨_, rfl, _, _, sq_ref hG, rfl, rfl, _, rfl, ite_b (fun h1 => ?_) (fun _ => hN0)⟩
    refine ⟨_, rfl, _, _, sq_ref hG, rfl, _, rfl, _, _, sq_ref hG, rfl, _, rfl, _, rfl, ite_b (fun h2 => ?_) (fun _ => hN0)⟩
    have h2 : i < cs.length := by simpa using h2
    obtain ⟨v, ev, mv⟩ := at_ok ok.i0 h2
    obtain ⟨n, e1⟩ := ok.nums v mv
    subst e1
    refine ⟨_, rfl, _, _, sq_ref hG, rfl, _, rfl, _, _, sq_ref hG, rfl, _, _, rfl, ev, ?_⟩
    refine ⟨_, rfl, _, _, sq_ref hG, rfl, _, rfl, _, _, hG, rfl, ?_⟩
    refine ⟨_, rfl, _, _, sq_ref up_same, rfl, .inr (.inl ⟨by decide, by decide⟩), _, rfl, .inr (.inl ⟨by decide, by decide⟩), by decide, _, rfl, _, _, up_same, rfl, ?_⟩
    refine ⟨_, rfl, ⟨by decide, by decide, by decide⟩, _, rfl, ite_b (fun h3 => ?_) (fun _ => ?_)⟩
    · have e2 : 0 ≤ n := by
        have h3 : (10 : Int) ^ (18 : Int).toNat ≤ n := of_decide_eq_true h3
        have h4 : (0 : Int) ≤ 10 ^ (18 : Int).toNat := by decide
        omega
      refine ⟨_, rfl, _, rfl, _, _, up_same, rfl, ?_⟩
      refine hN _ _ ⟨some (.int n), i + 1, n, (s * 69621 + n * 16 + 11) % 2147483629, t, ?_, ⟨ok.nums, by have := ok.i0; omega, e2⟩, rfl⟩
      rw [up_up, up_up]; rfl
    · refine hN _ _ ⟨some (.int n), i + 1, c, (s * 69621 + n * 16 + 11) % 2147483629, t, ?_, ⟨ok.nums, by have := ok.i0; omega, ok.c0⟩, rfl⟩
      rw [up_up]; rfl
  · rintro σ G' ⟨y, i, c, s, t, rfl, ok, rfl⟩
    have hU : ∀ {o : GO} {u : GO}, up (up G h o) h u = up G h u := up_up
    refine sseq_cut (fun σ G' => G' = up G h (hnd cs i c s t) ∧ σ = [some (.ref h), some (.int m), none, y, none]) (fun N hN => ?_) ?_
    · refine ⟨_, rfl, _, _, sq_ref up_same, rfl, _, rfl, ite_b (fun h1 => ?_) (fun _ => hN _ _ ⟨rfl, rfl⟩)⟩
      refine ⟨_, rfl, _, _, sq_ref up_same, rfl, _, rfl, by omega, ?_⟩
      refine ⟨_, rfl, _, _, sq_ref up_same, rfl, _, rfl, by omega, by omega, _, rfl, _, _, up_same, rfl, _, rfl, dn_refl ?_⟩
      rw [up_up]
      exact hq _ _ _ _ _ (Int.emod_nonneg _ (by omega)) (Int.emod_lt_of_pos _ (by omega)) ⟨ok.nums, ok.i0, Int.ediv_nonneg ok.c0 (by omega)⟩
    · rintro σ G' ⟨rfl, rfl⟩
      refine ⟨_, rfl, _, _, sq_ref up_same, rfl, _, rfl, _, _, up_same, rfl, ?_⟩
      refine ⟨_, rfl, _, _, sq_ref up_same, rfl, _, rfl, _, _, sq_ref up_same, rfl, .inl ⟨by decide, by decide⟩, .inr (.inl ⟨by decide, by decide⟩), by decide, ?_⟩
      generalize (s + 7919 * (t + 1)) * 48271 = z0
      have a1 := Int.emod_nonneg z0 (b := 2147483647) (by decide)
      have a2 := Int.emod_lt_of_pos z0 (b := 2147483647) (by decide)
      refine ⟨_, rfl, _, rfl, by decide, by decide, .inl ⟨by omega, by omega⟩, by decide, ?_⟩
      generalize z0 % 2147483647 * (z0 % 2147483647 / 1009 + 69621) = z1
      have b1 := Int.emod_nonneg z1 (b := 2147483647) (by decide)
      have b2 := Int.emod_lt_of_pos z1 (b := 2147483647) (by decide)
      refine ⟨_, rfl, _, rfl, by decide, by decide, .inl ⟨by omega, by omega⟩, by decide, ?_⟩
      refine ⟨_, rfl, by decide, by decide, _, rfl, by omega, dn_refl ?_⟩
      rw [up_up]
      exact hq _ _ _ _ _ (Int.emod_nonneg _ (by omega)) (Int.emod_lt_of_pos _ (by omega)) ok
/-! #### _law_deep -/

def sp__law_deep : Sp3 := fun ds G Q E => match ds with | [.ref h] => ∃ cs i c s t, G h = some (hnd cs i c s t) ∧ HOk cs i c ∧ ∀ d i' c' s' t', wks d = true → wkr d = true → kn OC d = true → HOk cs i' c' → Q d (up G h (hnd cs i' c' s' t')) | _ => False
def t__law_deep : TS3 :=
    (sseq (sset 1 (t2 ix3 (tlst false (acons (tc .non) (acons (tc (.str (Str.ofString "a"))) (acons (tneg (tc (.int 1))) (acons (tc .emp) anil))))) (tcall sp__law_draw (acons (tv 0) (acons (tc (.int 4)) anil)))))
    (sseq (sfor (irng1 (acons (t2 (add3 false) (tc (.int 1)) (tcall sp__law_draw (acons (tv 0) (acons (tc (.int 30)) anil)))) anil)) (.n 2) (sset 1 (t2 ix3 (tlst false (acons (ttup (acons (tv 1) anil)) (acons (tlst false (acons (tv 1) anil)) (acons (tsl false (ttup (acons (tv 1) (acons (tv 1) anil))) onone (osome (tc (.int 1)))) (acons (tdic1 (tv 1)) anil))))) (tcall sp__law_draw (acons (tv 0) (acons (tc (.int 4)) anil))))))
    (sret (tv 1))))
set_option maxHeartbeats 4000000 in
theorem vc__law_deep (ds : List D) (G : Gp) (Q : QK) (E : EK) (h : sp__law_deep ds G Q E) : t__law_deep (fnEnds Q E) (start3 N__law_deep ds) G := by
  unfold sp__law_deep at h
  split at h
  case h_2 => exact h.elim
  rename_i h
  obtain ⟨cs, i, c, s, t, hG, ok, hq⟩ := h
  refine ⟨_, rfl, Nat.le_of_ble_eq_true rfl, _, rfl, _, _, _, _, _, hG, ok, by decide, by decide, fun r i c s t r0 r1 ok => ?_⟩
  obtain ⟨x, e, mx⟩ := at_ok (xs := [D.non, D.str (Str.ofString "a"), D.int (-1), D.emp]) r0 (by show r < 4; exact r1)
  have kx : wks x = true ∧ wkr x = true ∧ kn OC x = true := by
    simp only [List.mem_cons, List.not_mem_nil, or_false] at mx
    rcases mx with rfl | rfl | rfl | rfl <;> exact ⟨rfl, rfl, rfl⟩
  refine ⟨_, _, rfl, e, ?_⟩
  refine ⟨_, rfl, _, _, _, _, _, up_same, ok, by decide, by decide, fun r i c s t r0 r1 ok => ?_⟩
  rw [up_up]
  refine ⟨_, rfl, by omega, by omega, forL_inv (fun k σ G' => ∃ i c s t d y, G' = up G h (hnd cs i c s t) ∧ HOk cs i c ∧ (wks d = true ∧ wkr d = true ∧ kn OC d = true) ∧ σ = [some (.ref h), some d, y]) ?_ ?_ ⟨i, c, s, t, x, none, rfl, ok, kx, rfl⟩⟩
  · rintro k x σ G' N ex ⟨i, c, s, t, d, y, rfl, ok, ⟨k1, k2, k3⟩, rfl⟩ hN
    have nh : ∀ p, up G h (hnd cs i c s t) p = none → p ≠ h := fun p np => ne_new up_same np
    refine ⟨trivial, _, rfl, Nat.le_of_ble_eq_true rfl, _, rfl, Nat.le_of_ble_eq_true rfl, _, rfl, _, rfl, Nat.le_of_ble_eq_true rfl, _, rfl, fun p np => ⟨_, rfl, up_same, ?_⟩⟩
    rw [dl_up np]
    refine ⟨Nat.le_of_ble_eq_true rfl, _, rfl, _, _, _, _, _, up_same, ok, by decide, by decide, fun r i c s t r0 r1 ok => ?_⟩
    rw [up_up]
    obtain ⟨x, e, mx⟩ := at_ok (xs := [D.tup [d], D.fl [d], D.tup [d], D.emp]) r0 (by show r < 4; exact r1)
    refine ⟨_, _, rfl, e, hN _ _ ⟨i, c, s, t, x, _, rfl, ok, ?_, rfl⟩⟩
    simp only [List.mem_cons, List.not_mem_nil, or_false] at mx
    have kt : wks (.tup [d]) = true ∧ wkr (.tup [d]) = true ∧ kn OC (.tup [d]) = true := ⟨by simp [wks, k2], by simp [wkr, k3], rfl⟩
    rcases mx with rfl | rfl | rfl | rfl
    · exact kt
    · exact ⟨rfl, rfl, rfl⟩
    · exact kt
    · exact ⟨rfl, rfl, rfl⟩
  · rintro σ G' ⟨i, c, s, t, d, y, rfl, ok, ⟨k1, k2, k3⟩, rfl⟩
    exact ⟨trivial, _, rfl, dn_refl (hq _ _ _ _ _ k1 k2 k3 ok)⟩
/-! #### _law_bent -/

def sp__law_bent : Sp3 := fun ds G Q E => match ds with | [.ref h, .tup xs] => ∃ cs i c s t, ∃ rs : List Row, G h = some (hnd cs i c s t) ∧ HOk cs i c ∧ xs = rs.map Row.d ∧ ShpR rs ∧ ∀ y i' c' s' t', wks y = true → HOk cs i' c' → Q y (up G h (hnd cs i' c' s' t')) | _ => False
def t__law_bent : TS3 :=
    (sseq (sset 2 (tcall sp__law_draw (acons (tv 0) (acons (tcb bLen (acons (tv 1) anil)) anil))))
    (sseq (sset 3 (t2 ix3 (tv 1) (tv 2)))
    (sseq (sset 4 (tcall sp__law_draw (acons (tv 0) (acons (tc (.int 9)) anil))))
    (sseq (sif (tb3 (t2 eq3 (tv 4) (tc (.int 0)))) (sseq (sset 7 (tlst false (acons (tc .non) (acons (tc (.int 0)) (acons (tc (.str (Str.ofString "shape"))) (acons (tc .emp) (acons (ttup anil) (acons (tcb (bList false) (acons (tv 1) anil)) (acons (tsl false (tv 1) (osome (tc (.int 1))) onone) (acons (t2 (add3 false) (tv 1) (tsl false (tv 1) onone (osome (tc (.int 1))))) (acons (t2 (mul3 false) (ttup (acons (tv 3) anil)) (tc (.int 65))) (acons (tcall sp__law_deep (acons (tv 0) anil)) anil))))))))))))
    (sret (t2 ix3 (tv 7) (tcall sp__law_draw (acons (tv 0) (acons (tc (.int 10)) anil)))))) snext)
    (sseq (sif (tb3 (t2 eq3 (tv 4) (tc (.int 1)))) (sseq (sset 8 (t2 ix3 (tlst false (acons (tcb (bList false) (acons (tv 3) anil)) (acons (tsl false (tv 3) onone (osome (tc (.int 5)))) (acons (t2 (add3 false) (tv 3) (ttup (acons (tc (.int 0)) anil))) (acons (tc .non) (acons (ttup anil) (acons (tc (.int 0)) anil))))))) (tcall sp__law_draw (acons (tv 0) (acons (tc (.int 6)) anil)))))
    (sret (t2 (add3 false) (t2 (add3 false) (tsl false (tv 1) onone (osome (tv 2))) (ttup (acons (tv 8) anil))) (tsl false (tv 1) (osome (t2 (add3 false) (tv 2) (tc (.int 1)))) onone)))) snext)
    (sseq (sif (tb3 (t2 eq3 (tv 4) (tc (.int 2)))) (sseq (sset 5 (t2 (add3 false) (tc (.int 3)) (tcall sp__law_draw (acons (tv 0) (acons (tc (.int 3)) anil)))))
    (sseq (sset 7 (tlst false (acons (tc .non) (acons (tc (.bl true)) (acons (tc (.bl false)) (acons (tc (.int 0)) (acons (tc (.int 1)) (acons (tc (.str (Str.ofString "0"))) (acons (ttup (acons (tc (.int 0)) anil)) (acons (tneg (tc (.int 1))) (acons (t2 pow3 (tc (.int 10)) (tc (.int 19))) anil)))))))))))
    (sret (t2 (add3 false) (t2 (add3 false) (tsl false (tv 1) onone (osome (tv 2))) (ttup (acons (t2 (add3 false) (t2 (add3 false) (tsl false (tv 3) onone (osome (tv 5))) (ttup (acons (t2 ix3 (tv 7) (tcall sp__law_draw (acons (tv 0) (acons (tc (.int 9)) anil)))) anil))) (tsl false (tv 3) (osome (t2 (add3 false) (tv 5) (tc (.int 1)))) onone)) anil))) (tsl false (tv 1) (osome (t2 (add3 false) (tv 2) (tc (.int 1)))) onone))))) snext)
    (sseq (sset 5 (tcall sp__law_draw (acons (tv 0) (acons (tc (.int 3)) anil))))
    (sseq (sset 6 (tcb bLen (acons (tv 1) anil)))
    (sseq (sset 7 (tlst false (acons (tcall sp__law_draw (acons (tv 0) (acons (tv 6) anil))) (acons (tcall sp__law_draw (acons (tv 0) (acons (tv 6) anil))) (acons (tv 2) (acons (tc .non) (acons (tv 6) (acons (tneg (tc (.int 1))) (acons (tc (.bl true)) (acons (tc (.str (Str.ofString "0"))) (acons (ttup (acons (tc (.int 0)) anil)) (acons (t2 pow3 (tc (.int 10)) (tc (.int 19))) anil))))))))))))
    (sseq (sset 8 (t2 ix3 (tv 7) (tcall sp__law_draw (acons (tv 0) (acons (t2 ix3 (tlst false (acons (tc (.int 4)) (acons (tc (.int 10)) anil))) (tcall sp__law_draw (acons (tv 0) (acons (tc (.int 2)) anil)))) anil)))))
    (sseq (sif (Tand (tb3 (t2 eq3 (tv 4) (tc (.int 3)))) (tb3 (t2 (is3 true) (t2 ix3 (tv 3) (tc (.int 1))) (tc .non)))) (sseq (sset 5 (tc (.int 2)))
    (sset 8 (t2 ix3 (tv 3) (tc (.int 1))))) snext)
    (sret (t2 (add3 false) (t2 (add3 false) (tsl false (tv 1) onone (osome (tv 2))) (ttup (acons (t2 (add3 false) (t2 (add3 false) (tsl false (tv 3) onone (osome (tv 5))) (ttup (acons (tv 8) anil))) (tsl false (tv 3) (osome (t2 (add3 false) (tv 5) (tc (.int 1)))) onone)) anil))) (tsl false (tv 1) (osome (t2 (add3 false) (tv 2) (tc (.int 1)))) onone))))))))))))))
set_option maxHeartbeats 4000000 in
theorem vc__law_bent (ds : List D) (G : Gp) (Q : QK) (E : EK) (h : sp__law_bent ds G Q E) : t__law_bent (fnEnds Q E) (start3 N__law_bent ds) G := by
  unfold sp__law_bent at h
  split at h
  case h_2 => exact h.elim
  rename_i h xs
  obtain ⟨cs, i, c, s, t, rs, hG, ok, rfl, sh, hq⟩ := h
  have l1 := sh.n1
  have l2 := sh.n64
  have lA : (rs.map Row.d).length = rs.length := List.length_map _
  have kp : ∀ o, kn OC (pl o) = true := fun o => by cases o <;> rfl
  have ri : ∀ (q : Row), ∀ y ∈ q.items, kn OC y = true := fun q y hy => by
    simp only [Row.items, List.mem_cons, List.not_mem_nil, or_false] at hy
    rcases hy with rfl | rfl | rfl | rfl | rfl | rfl
    · exact kp _
    · exact kp _
    · exact kp _
    · rfl
    · rfl
    · rfl
  have rw' : ∀ (q : Row), wkr q.d = true := fun q => List.all_eq_true.mpr (ri q)
  have aw : ∀ y ∈ rs.map Row.d, wkr y = true := fun y hy => by
    obtain ⟨q, _, rfl⟩ := List.mem_map.mp hy; exact rw' q
  have cl : ∀ lo hi, (L3.cutD (rs.map Row.d) lo hi).length ≤ 64 := fun lo hi => Nat.le_trans cutD_len (by omega)
  have cr : ∀ (q : Row) lo hi, (L3.cutD q.items lo hi).length ≤ 6 := fun q lo hi => cutD_len
  have wcat : ∀ lo hi lo' hi' o, wkr o = true → wks (.tup (L3.cutD (rs.map Row.d) lo hi ++ [o] ++ L3.cutD (rs.map Row.d) lo' hi')) = true := fun lo hi lo' hi' o ho => by
    refine List.all_eq_true.mpr fun y hy => ?_
    rw [List.mem_append, List.mem_append, List.mem_singleton] at hy
    rcases hy with (hy | rfl) | hy
    · exact aw y (cutD_mem hy)
    · exact ho
    · exact aw y (cutD_mem hy)
  have rcat : ∀ (q : Row) lo hi lo' hi' o, kn OC o = true → wkr (.tup (L3.cutD q.items lo hi ++ [o] ++ L3.cutD q.items lo' hi')) = true := fun q lo hi lo' hi' o ho => by
    refine List.all_eq_true.mpr fun y hy => ?_
    rw [List.mem_append, List.mem_append, List.mem_singleton] at hy
    rcases hy with (hy | rfl) | hy
    · exact ri q y (cutD_mem hy)
    · exact ho
    · exact ri q y (cutD_mem hy)
  have L1 : ∀ {A : List D} {o : D}, A.length ≤ 64 → A.length + [o].length ≤ sizeLine := fun {A o} h => by show A.length + 1 ≤ 16777216; omega
  have L2 : ∀ {A B : List D} {o : D}, A.length ≤ 64 → B.length ≤ 64 → (A ++ [o]).length + B.length ≤ sizeLine := fun {A B o} h h' => by rw [List.length_append, List.length_singleton]; show A.length + 1 + B.length ≤ 16777216; omega
  have L0 : ∀ {o : D}, [o].length ≤ sizeLine := fun {o} => Nat.le_of_ble_eq_true rfl
  refine ⟨_, rfl, _, rfl, _, rfl, _, _, _, _, _, hG, ok, by omega, by omega, fun hs i c s t h0 h1 ok => ?_⟩
  obtain ⟨x, erow, mx⟩ := at_ok h0 h1
  obtain ⟨q, _, rfl⟩ := List.mem_map.mp mx
  refine ⟨_, rfl, _, rfl, _, _, rfl, erow, ?_⟩
  refine ⟨_, rfl, _, _, _, _, _, up_same, ok, by decide, by decide, fun kd i c s t kd0 kd1 ok => ?_⟩
  rw [up_up]
  refine ⟨_, rfl, rfl, _, rfl, ite_b (fun _ => ?_) (fun _ => ?_)⟩
  · refine ⟨Nat.le_of_ble_eq_true rfl, _, rfl, _, rfl, ?_⟩
    refine ⟨_, rfl, _, rfl, _, rfl, _, rfl, _, rfl, ?_⟩
    refine ⟨by show _ ≤ 16777216; have := cutD_len (xs := rs.map Row.d) (lo := none) (hi := some 1); omega, _, rfl, L0, ⟨by simp, by decide, by decide, by show 1 ≤ 1000; decide, ?_⟩⟩
    refine ⟨_, rfl, _, _, _, _, _, up_same, ok, fun d i c s t w1 w2 w3 ok => ?_⟩
    rw [up_up]
    refine ⟨Nat.le_of_ble_eq_true rfl, ?_⟩
    refine ⟨_, rfl, _, rfl, _, _, _, _, _, up_same, ok, by decide, by decide, fun r i c s t r0 r1 ok => ?_⟩
    rw [up_up]
    obtain ⟨y, e, my⟩ := at_ok (xs := [D.non, .int 0, .str (Str.ofString "shape"), .emp, .tup [], .fl (rs.map Row.d), .tup (L3.cutD (rs.map Row.d) (some 1) none), .tup (rs.map Row.d ++ L3.cutD (rs.map Row.d) none (some 1)), .tup (List.replicate (65 : Int).toNat [q.d]).flatten, d]) r0 (by show r < 10; exact r1)
    refine ⟨_, _, rfl, e, dn_refl (hq _ _ _ _ _ ?_ ok)⟩
    simp only [List.mem_cons, List.not_mem_nil, or_false] at my
    rcases my with rfl | rfl | rfl | rfl | rfl | rfl | rfl | rfl | rfl | rfl
    · rfl
    · rfl
    · rfl
    · rfl
    · rfl
    · rfl
    · exact List.all_eq_true.mpr fun y hy => aw y (cutD_mem hy)
    · refine List.all_eq_true.mpr fun y hy => ?_
      rcases List.mem_append.mp hy with hy | hy
      · exact aw y hy
      · exact aw y (cutD_mem hy)
    · refine List.all_eq_true.mpr fun y hy => ?_
      obtain ⟨l, hl, hy⟩ := List.mem_flatten.mp hy
      rw [List.eq_of_mem_replicate hl, List.mem_singleton] at hy
      subst hy; exact rw' q
    · exact w1
  refine ⟨_, rfl, rfl, _, rfl, ite_b (fun _ => ?_) (fun _ => ?_)⟩
  · refine ⟨_, rfl, _, rfl, _, rfl, _, rfl, _, rfl, L0, Nat.le_of_ble_eq_true rfl, Nat.le_of_ble_eq_true rfl, Nat.le_of_ble_eq_true rfl, ?_⟩
    refine ⟨_, rfl, _, _, _, _, _, up_same, ok, by decide, by decide, fun r i c s t r0 r1 ok => ?_⟩
    rw [up_up]
    obtain ⟨y, e, my⟩ := at_ok (xs := [D.fl q.items, .tup (L3.cutD q.items none (some 5)), .tup (q.items ++ [.int 0]), .non, .tup [], .int 0]) r0 (by show r < 6; exact r1)
    have wy : wkr y = true := by
      simp only [List.mem_cons, List.not_mem_nil, or_false] at my
      rcases my with rfl | rfl | rfl | rfl | rfl | rfl
      · rfl
      · exact List.all_eq_true.mpr fun y hy => ri q y (cutD_mem hy)
      · refine List.all_eq_true.mpr fun y hy => ?_
        rcases List.mem_append.mp hy with hy | hy
        · exact ri q y hy
        · rw [List.mem_singleton] at hy; subst hy; rfl
      · rfl
      · rfl
      · rfl
    refine ⟨_, _, rfl, e, ?_⟩
    exact ⟨_, rfl, _, rfl, _, rfl, _, rfl, L0, L1 (cl _ _), _, rfl, _, rfl, _, rfl, L2 (cl _ _) (cl _ _), dn_refl (hq _ _ _ _ _ (wcat _ _ _ _ _ wy) ok)⟩
  refine ⟨_, rfl, rfl, _, rfl, ite_b (fun _ => ?_) (fun _ => ?_)⟩
  · refine ⟨_, rfl, _, _, _, _, _, up_same, ok, by decide, by decide, fun r2 i c s t _ _ ok => ?_⟩
    rw [up_up]
    refine ⟨L0, _, rfl, ⟨by decide, by decide, by decide⟩, Nat.le_of_ble_eq_true rfl, ?_⟩
    refine ⟨_, rfl, _, rfl, _, rfl, _, rfl, _, rfl, _, rfl, _, rfl, _, rfl, _, _, _, _, _, up_same, ok, by decide, by decide, fun r i c s t r0 r1 ok => ?_⟩
    rw [up_up]
    obtain ⟨y, e, my⟩ := at_ok (xs := [D.non, .bl true, .bl false, .int 0, .int 1, .str (Str.ofString "0"), .tup [.int 0], .int (-1), .int (10 ^ (19 : Int).toNat)]) r0 (by show r < 9; exact r1)
    have wy : kn OC y = true := by
      simp only [List.mem_cons, List.not_mem_nil, or_false] at my
      rcases my with rfl | rfl | rfl | rfl | rfl | rfl | rfl | rfl | rfl <;> rfl
    refine ⟨_, _, rfl, e, L0, L1 (Nat.le_trans (cr q _ _) (by decide)), _, rfl, _, rfl, _, rfl, L2 (Nat.le_trans (cr q _ _) (by decide)) (Nat.le_trans (cr q _ _) (by decide)), ?_⟩
    exact ⟨L0, L1 (cl _ _), _, rfl, _, rfl, _, rfl, L2 (cl _ _) (cl _ _), dn_refl (hq _ _ _ _ _ (wcat _ _ _ _ _ (rcat q _ _ _ _ _ wy)) ok)⟩
  refine ⟨_, rfl, _, _, _, _, _, up_same, ok, by decide, by decide, fun a i c s t _ _ ok => ?_⟩
  rw [up_up]
  refine ⟨_, rfl, _, rfl, ?_⟩
  refine ⟨_, rfl, _, rfl, _, _, _, _, _, up_same, ok, by omega, by omega, fun r1 i c s t _ _ ok => ?_⟩
  rw [up_up]
  refine ⟨_, rfl, _, rfl, _, _, _, _, _, up_same, ok, by omega, by omega, fun r2 i c s t _ _ ok => ?_⟩
  rw [up_up]
  refine ⟨_, rfl, _, rfl, _, rfl, L0, ⟨by decide, by decide, by decide⟩, Nat.le_of_ble_eq_true rfl, ?_⟩
  refine ⟨_, rfl, _, rfl, Nat.le_of_ble_eq_true rfl, _, rfl, _, _, _, _, _, up_same, ok, by decide, by decide, fun r i c s t r0 r1' ok => ?_⟩
  rw [up_up]
  obtain ⟨x, e, mx⟩ := at_ok (xs := [D.int 4, .int 10]) r0 (by show r < 2; exact r1')
  obtain ⟨b, rfl, b1, b2⟩ : ∃ b : Int, x = .int b ∧ 1 ≤ b ∧ b ≤ 10 := by
    simp only [List.mem_cons, List.not_mem_nil, or_false] at mx
    rcases mx with rfl | rfl <;> exact ⟨_, rfl, by decide, by decide⟩
  refine ⟨_, _, rfl, e, _, _, _, _, _, up_same, ok, b1, by omega, fun r i c s t r0 r1' ok => ?_⟩
  rw [up_up]
  obtain ⟨y, e, my⟩ := at_ok (xs := [D.int r1, .int r2, .int hs, .non, .int ((rs.map Row.d).length : Nat), .int (-1), .bl true, .str (Str.ofString "0"), .tup [.int 0], .int (10 ^ (19 : Int).toNat)]) r0 (by show r < 10; omega)
  have wy : kn OC y = true := by
    simp only [List.mem_cons, List.not_mem_nil, or_false] at my
    rcases my with rfl | rfl | rfl | rfl | rfl | rfl | rfl | rfl | rfl | rfl <;> rfl
  refine ⟨_, _, rfl, e, ?_⟩
  dsimp only
  refine sseq_cut (fun σ G' => G' = up G h (hnd cs i c s t) ∧ ∃ (a : Int) (y : D) (y6 y7 : Option D), kn OC y = true ∧ σ = [some (.ref h), some (.tup (rs.map Row.d)), some (.int hs), some q.d, some (.int kd), some (.int a), y6, y7, some y]) (fun N hN => ?_) ?_
  · refine ⟨_, rfl, rfl, _, rfl, ite_b (fun _ => ?_) (fun _ => hN _ _ ⟨rfl, _, _, _, _, wy, rfl⟩)⟩
    refine ⟨_, rfl, _, _, rfl, rfl, _, rfl, ite_b (fun _ => ?_) (fun _ => hN _ _ ⟨rfl, _, _, _, _, wy, rfl⟩)⟩
    exact ⟨_, rfl, _, _, rfl, rfl, hN _ _ ⟨rfl, _, _, _, _, kp _, rfl⟩⟩
  · rintro σ G' ⟨rfl, a, y, y6, y7, wy, rfl⟩
    refine ⟨_, rfl, _, rfl, _, rfl, _, rfl, _, rfl, _, rfl, _, rfl, L0, L1 (Nat.le_trans (cr q _ _) (by decide)), _, rfl, _, rfl, _, rfl, L2 (Nat.le_trans (cr q _ _) (by decide)) (Nat.le_trans (cr q _ _) (by decide)), ?_⟩
    exact ⟨L0, L1 (cl _ _), _, rfl, _, rfl, _, rfl, L2 (cl _ _) (cl _ _), dn_refl (hq _ _ _ _ _ (wcat _ _ _ _ _ (rcat q _ _ _ _ _ wy)) ok)⟩
/-! #### _law_hand -/

def sp__law_hand : Sp3 := fun ds G Q E => match ds with
  | [.sl xs] => (∀ x ∈ xs, ∃ n : Int, x = .int n) ∧ xs.length ≤ 63 ∧ ∀ p cs i c s t, G p = none → HOk cs i c → Q (.ref p) (up G p (hnd cs i c s t))
  | _ => False
def t__law_hand : TS3 :=
    (sret (tlst true (acons (tlc false (iseq (tsl false (tv 0) onone (osome (tc (.int 63))))) (.n 1) Tyes (tcb bInt (acons (tv 1) anil)) [1]) (acons (tc (.int 0)) (acons (tc (.int 0)) (acons (t2 (add3 false) (tc (.int 1)) (tcb bLen (acons (tsl false (tv 0) onone (osome (tc (.int 63)))) anil))) (acons (tc (.int 0)) anil)))))))
set_option maxHeartbeats 4000000 in
theorem vc__law_hand (ds : List D) (G : Gp) (Q : QK) (E : EK) (h : sp__law_hand ds G Q E) : t__law_hand (fnEnds Q E) (start3 N__law_hand ds) G := by
  unfold sp__law_hand at h
  split at h
  case h_2 => exact h.elim
  rename_i xs
  obtain ⟨hx, hl, hq⟩ := h
  have hc : ∀ x ∈ L3.cutD xs none (some 63), x ∈ xs := fun x hx => cutD_mem hx
  have hcl : (L3.cutD xs none (some 63)).length ≤ 63 := Nat.le_trans cutD_len hl
  refine ⟨_, rfl, _, rfl, _, rfl, _, rfl, lc_pure (fun x => match x with | .int n => some (.int n) | _ => none) (fun x mx G' _ R hR => ?_) (fun _ _ => trivial) (by show _ ≤ 16777216; omega) ?_⟩
  · obtain ⟨n, rfl⟩ := hx x (hc x mx)
    exact ⟨_, rfl, hR⟩
  · generalize hcs : (L3.cutD xs none (some 63)).filterMap _ = cs
    refine ⟨_, rfl, _, rfl, _, rfl, _, rfl, Nat.le_of_ble_eq_true rfl, fun p n => dn_refl (hq p cs 0 0 _ 0 n ⟨fun x mx => ?_, by decide, by decide⟩)⟩
    rw [← hcs] at mx
    obtain ⟨y, my, ey⟩ := List.mem_filterMap.mp mx
    obtain ⟨n, rfl⟩ := hx y (hc y my)
    injection ey with ey
    exact ⟨_, ey.symm⟩
/-! #### _law_is -/

def sp__law_is : Sp3 := fun ds G Q E => match ds with | [.bl a, .bl b] => Q (.bl (a == b)) G | _ => False
def t__law_is : TS3 :=
    (sseq (sif (tb3 (tisi (isA OC [.tup, .lst]) (tv 1))) sdead snext)
    (sret (tand (t2 eq3 (tisi (isT OC .bl) (tv 0)) (tisi (isT OC .bl) (tv 1))) (t2 eq3 (tv 0) (tv 1)))))
set_option maxHeartbeats 4000000 in
theorem vc__law_is (ds : List D) (G : Gp) (Q : QK) (E : EK) (h : sp__law_is ds G Q E) : t__law_is (fnEnds Q E) (start3 N__law_is ds) G := by
  unfold sp__law_is at h
  split at h
  case h_2 => exact h.elim
  refine ⟨_, rfl, _, _, rfl, rfl, _, rfl, ite_b (fun z => absurd z (by decide)) (fun _ => ?_)⟩
  refine ⟨_, rfl, _, _, rfl, rfl, _, rfl, _, _, rfl, rfl, rfl, _, rfl, ite_b (fun _ => ?_) (fun z => absurd z (by decide))⟩
  exact ⟨_, rfl, _, rfl, rfl, dn_refl h⟩
/-! #### _law_is_integer -/

def sp__law_is_integer : Sp3 := fun ds G Q E => match ds with | [x] => kn OC x = true ∧ Q (.bl (isI x)) G | _ => False
def t__law_is_integer : TS3 :=
    (sret (tand (tisi (isT OC .int) (tv 0)) (tnot (tisi (isT OC .bl) (tv 0)))))
set_option maxHeartbeats 4000000 in
theorem vc__law_is_integer (ds : List D) (G : Gp) (Q : QK) (E : EK) (h : sp__law_is_integer ds G Q E) : t__law_is_integer (fnEnds Q E) (start3 N__law_is_integer ds) G := by
  unfold sp__law_is_integer at h
  split at h
  case h_2 => exact h.elim
  rename_i x
  refine ⟨_, rfl, isi_use (P := fun b => _) h.1 ⟨_, rfl, ite_b (fun hc => ?_) (fun hc => ?_)⟩⟩
  · refine ⟨_, rfl, isi_use (P := fun b => _) h.1 ⟨_, rfl, dn_refl ?_⟩⟩
    have := isI_eq x
    rw [hc, Bool.true_and] at this
    rw [this]; exact h.2
  · refine dn_refl ?_
    have := isI_eq x
    rw [hc, Bool.false_and] at this
    rw [this]; exact h.2
/-! #### _law_number -/

def sp__law_number : Sp3 := fun ds G Q E => match ds with | [x, .int a, .int b] => kn OC x = true ∧ Q (.bl (wiI a b x)) G | _ => False
def t__law_number : TS3 :=
    (sret (tand (tisi (isT OC .int) (tv 0)) (tand (tnot (tisi (isT OC .bl) (tv 0))) (tch le3 le3 (tv 1) (tv 0) (tv 2)))))
set_option maxHeartbeats 4000000 in
theorem vc__law_number (ds : List D) (G : Gp) (Q : QK) (E : EK) (h : sp__law_number ds G Q E) : t__law_number (fnEnds Q E) (start3 N__law_number ds) G := by
  unfold sp__law_number at h
  split at h
  case h_2 => exact h.elim
  rename_i x a b
  have no : isI x = false → wiI a b x = false := fun z => by cases x <;> first | rfl | cases z
  refine ⟨_, rfl, isi_use (P := fun b => _) h.1 ⟨_, rfl, ite_b (fun hc => ?_) (fun hc => ?_)⟩⟩
  · refine ⟨_, rfl, isi_use (P := fun b => _) h.1 ⟨_, rfl, _, rfl, ite_b (fun hd => ?_) (fun hd => ?_)⟩⟩
    · obtain ⟨i, rfl⟩ := isI_of (x := x) (by rw [← isI_eq, hc, hd]; rfl)
      refine ⟨_, rfl, _, rfl, _, rfl, ite_b (fun h1 => ?_) (fun h1 => ?_)⟩
      · refine ⟨_, rfl, dn_refl ?_⟩
        have this : Q (.bl (decide (a ≤ i) && decide (i ≤ b))) G := h.2
        rwa [h1, Bool.true_and] at this
      · refine dn_refl ?_
        have this : Q (.bl (decide (a ≤ i) && decide (i ≤ b))) G := h.2
        rwa [h1, Bool.false_and] at this
    · refine dn_refl ?_
      have := no (by rw [← isI_eq, hd, Bool.and_false])
      rw [this] at h; exact h.2
  · refine dn_refl ?_
    have := no (by rw [← isI_eq, hc]; rfl)
    rw [this] at h; exact h.2
/-! #### _law_is_shape -/

def sp__law_is_shape : Sp3 := fun ds G Q E => match ds with | [x] => wks x = true ∧ ∀ b, (b = true ↔ Shp x) → Q (.bl b) G | _ => False
def t__law_is_shape : TS3 :=
    (sseq (sif (Tor (Tnot (tb3 (tisi (isT OC .tup) (tv 0)))) (Tnot (tb3 (tch le3 le3 (tc (.int 1)) (tcb bLen (acons (tv 0) anil)) (tc (.int 64)))))) (sret (tc (.bl false))) snext)
    (sseq (sset 1 (tcb bLen (acons (tv 0) anil)))
    (sseq (sfor (iseq (tv 0)) (.n 2) (sseq (sif (Tor (Tnot (tb3 (tisi (isT OC .tup) (tv 2)))) (Tor (tb3 (t2 ne3 (tcb bLen (acons (tv 2) anil)) (tc (.int 6)))) (Tnot (tb3 (tisi (isT OC .bl) (t2 ix3 (tv 2) (tc (.int 3)))))))) (sret (tc (.bl false))) snext)
    (sseq (sif (Tnot (tb3 (tcb bAll (acons (tlc false (iseq (tsl false (tv 2) onone (osome (tc (.int 3))))) (.n 9) Tyes (tor (t2 (is3 false) (tv 9) (tc .non)) (tcall sp__law_number (acons (tv 9) (acons (tc (.int 0)) (acons (t2 sub3 (tv 1) (tc (.int 1))) anil))))) [9]) anil)))) (sret (tc (.bl false))) snext)
    (sif (Tor (Tnot (tb3 (tcall sp__law_is_integer (acons (t2 ix3 (tv 2) (tc (.int 4))) anil)))) (Tnot (tb3 (tcall sp__law_is_integer (acons (t2 ix3 (tv 2) (tc (.int 5))) anil))))) (sret (tc (.bl false))) snext))))
    (sseq (sfor (irng1 (acons (tv 1) anil)) (.n 3) (sseq (sunp [7, 8] (tsl false (t2 ix3 (tv 0) (tv 3)) (osome (tc (.int 1))) (osome (tc (.int 3)))))
    (sseq (sif (Tand (tb3 (t2 (is3 true) (tv 7) (tc .non))) (tb3 (t2 eq3 (tv 7) (tv 8)))) (sret (tc (.bl false))) snext)
    (sseq (sfor (iseq (tlst false (acons (tv 7) (acons (tv 8) anil)))) (.n 4) (sif (Tand (tb3 (t2 (is3 true) (tv 4) (tc .non))) (tb3 (t2 ne3 (t2 ix3 (t2 ix3 (tv 0) (tv 4)) (tc (.int 0))) (tv 3)))) (sret (tc (.bl false))) snext))
    (sseq (sset 5 (tv 3))
    (sseq (sfor (irng1 (acons (tv 1) anil)) (.n 6) (sif (tb3 (t2 (is3 true) (tv 5) (tc .non))) (sset 5 (t2 ix3 (t2 ix3 (tv 0) (tv 5)) (tc (.int 0)))) snext))
    (sif (tb3 (t2 (is3 true) (tv 5) (tc .non))) (sret (tc (.bl false))) snext)))))))
    (sret (tc (.bl true)))))))
set_option maxHeartbeats 4000000 in
theorem vc__law_is_shape (ds : List D) (G : Gp) (Q : QK) (E : EK) (h : sp__law_is_shape ds G Q E) : t__law_is_shape (fnEnds Q E) (start3 N__law_is_shape ds) G := by
  unfold sp__law_is_shape at h
  split at h
  case h_2 => exact h.elim
  rename_i x
  obtain ⟨hk, hq⟩ := h
  have no : ¬ Shp x → dn Q (.bl false) G := fun h => dn_refl (hq false ⟨nof, fun z => absurd z h⟩)
  refine ⟨_, rfl, isi_use (P := fun b => _) (wks_kn hk) ⟨_, rfl, ite_b (fun z => iteT (no ?_)) (fun z => ?_)⟩⟩
  · rintro ⟨rs, rfl, h⟩
    cases z
  obtain ⟨xs, rfl⟩ := isT_of (x := x) (by simpa using z)
  have noN : ¬ (1 ≤ xs.length ∧ xs.length ≤ 64) → dn Q (.bl false) G := fun h => no (by
    rintro ⟨rs, e, y⟩
    injection e with e
    subst e
    rw [List.length_map] at h
    exact h ⟨y.n1, y.n64⟩)
  refine ⟨_, rfl, xs, rfl, _, rfl, ite_b (fun z1 => ?_) (fun z1 => ⟨_, rfl, iteT (noN fun h => by have := of_decide_eq_false z1; omega)⟩)⟩
  refine ⟨_, rfl, ite_b (fun z2 => noN fun h => by have z2 : (!decide ((xs.length : Int) ≤ 64)) = true := z2; simp at z2; omega) (fun z2 => ?_)⟩
  have l1 : 1 ≤ xs.length := by have := of_decide_eq_true z1; omega
  have l2 : xs.length ≤ 64 := by have z2 : (!decide ((xs.length : Int) ≤ 64)) = false := z2; simp at z2; omega
  clear noN z1 z2
  have hk : ∀ y ∈ xs, wkr y = true := List.all_eq_true.mp hk
  have no : (∃ y ∈ xs, ¬ RowP xs.length y) → dn Q (.bl false) G := fun ⟨y, hy, h⟩ => no (by
    rintro ⟨rs, e, sh⟩
    injection e with e
    subst e
    obtain ⟨r, hr, rfl⟩ := List.mem_map.mp hy
    exact h ⟨r, rfl, by rw [List.length_map]; exact sh.ok r hr⟩)
  refine ⟨_, rfl, xs, rfl, _, rfl, xs, rfl, forL_inv (fun k σ G' => G' = G ∧ ∃ (y : Option D), (∀ j z, j < k → xs[j]? = some z → RowP xs.length z) ∧ σ = [some (.tup xs), some (.int xs.length), y, none, none, none, none, none, none, none]) ?_ ?_ ⟨rfl, none, fun j z l => by omega, rfl⟩⟩
  · rintro k x σ G' N ex ⟨rfl, y, hs, rfl⟩ hN
    have mx := List.mem_of_getElem? ex
    have hkx := hk x mx
    have no : ¬ RowP xs.length x → dn Q (.bl false) G' := fun h => no ⟨x, mx, h⟩
    refine ⟨trivial, _, rfl, isi_use (P := fun b => _) (wkr_kn hkx) ⟨_, rfl, ite_b (fun z => iteT (no ?_)) (fun z => ?_)⟩⟩
    · rintro ⟨r, rfl, _⟩
      cases z
    obtain ⟨ys, rfl⟩ := isT_of (x := x) (by simpa using z)
    refine ⟨_, rfl, ys, rfl, rfl, _, rfl, ite_b (fun z => iteT (no ?_)) (fun z => ?_)⟩
    · rintro ⟨r, e, _⟩
      injection e with e
      subst e
      cases z
    have z : ((ys.length : Int) == 6) = true := by simpa [eqD] using z
    have l6 : ys.length = 6 := by have := eq_of_beq z; omega
    obtain ⟨u, l, r, t, a, v, rfl⟩ := six l6
    have hkx : kn OC u = true ∧ kn OC l = true ∧ kn OC r = true ∧ kn OC t = true ∧ kn OC a = true ∧ kn OC v = true := by simpa [wkr] using hkx
    refine ⟨_, rfl, _, _, rfl, rfl, isi_use (P := fun b => _) hkx.2.2.2.1 ⟨_, rfl, ite_b (fun z => no ?_) (fun z => ?_)⟩⟩
    · rintro ⟨q, e, _⟩
      injection e with e
      injection e with e1 e; injection e with e2 e; injection e with e3 e; injection e with e4 e
      rw [e4] at z; cases z
    obtain ⟨t, rfl⟩ : ∃ b, t = .bl b := by cases t <;> first | exact ⟨_, rfl⟩ | (simp [isiD] at z)
    refine ⟨_, rfl, _, rfl, _, rfl, lc_pure (fun y => some (.bl (plB xs.length y))) (fun y my G'' _ R hR => ?_) (fun _ _ => trivial) (Nat.le_of_ble_eq_true rfl) ?_⟩
    · have ky : kn OC y = true := by
        have my : y ∈ [u, l, r] := my
        simp only [List.mem_cons, List.not_mem_nil, or_false] at my
        rcases my with rfl | rfl | rfl
        · exact hkx.1
        · exact hkx.2.1
        · exact hkx.2.2.1
      refine ⟨_, rfl, _, rfl, ite_b (fun z => ?_) (fun z => ?_)⟩
      · have e : y = .non := by cases y <;> first | rfl | cases z
        subst e
        exact hR
      · refine ⟨_, rfl, _, rfl, ky, ?_⟩
        have e : plB xs.length y = wiI 0 (xs.length - 1) y := by cases y <;> first | rfl | cases z
        rw [e] at hR; exact hR
    refine ⟨_, _, rfl, bls_map _ _, _, rfl, ite_b (fun z => no ?_) (fun z => ?_)⟩
    · rintro ⟨q, e, ok⟩
      injection e with e
      injection e with e1 e; injection e with e2 e; injection e with e3 e
      have z : (!([u, l, r].map (plB xs.length)).all id) = true := z
      simp [e1, e2, e3, plB_ok.mpr ⟨_, rfl, ok.u⟩, plB_ok.mpr ⟨_, rfl, ok.l⟩, plB_ok.mpr ⟨_, rfl, ok.r⟩] at z
    have z : (!([u, l, r].map (plB xs.length)).all id) = false := z
    have z : plB xs.length u = true ∧ plB xs.length l = true ∧ plB xs.length r = true := by simpa using z
    obtain ⟨u, rfl, ou⟩ := plB_ok.mp z.1
    obtain ⟨l, rfl, ol⟩ := plB_ok.mp z.2.1
    obtain ⟨r, rfl, or⟩ := plB_ok.mp z.2.2
    refine ⟨_, rfl, _, _, rfl, rfl, hkx.2.2.2.2.1, _, rfl, ite_b (fun z => iteT (no ?_)) (fun z => ?_)⟩
    · rintro ⟨q, e, _⟩
      injection e with e
      injection e with e1 e; injection e with e2 e; injection e with e3 e; injection e with e4 e; injection e with e5 e
      rw [e5] at z; cases z
    obtain ⟨a, rfl⟩ := isI_of (x := a) (by simpa using z)
    refine ⟨_, rfl, _, _, rfl, rfl, hkx.2.2.2.2.2, _, rfl, ite_b (fun z => no ?_) (fun z => ?_)⟩
    · rintro ⟨q, e, _⟩
      injection e with e
      injection e with e1 e; injection e with e2 e; injection e with e3 e; injection e with e4 e; injection e with e5 e; injection e with e6 e
      rw [e6] at z; cases z
    obtain ⟨v, rfl⟩ := isI_of (x := v) (by simpa using z)
    refine hN _ _ ⟨rfl, _, fun j w hj ew => ?_, rfl⟩
    by_cases e : j = k
    · subst e
      rw [ex] at ew; cases ew
      exact ⟨⟨u, l, r, t, a, v⟩, rfl, ⟨ou, ol, or⟩⟩
    · exact hs j w (by omega) ew
  rintro σ G' ⟨rfl, y, hs, rfl⟩
  obtain ⟨rs, rfl, ok⟩ := rows_all (n := xs.length) (xs := xs) fun y hy => by
    obtain ⟨j, ej⟩ := List.mem_iff_getElem?.mp hy
    exact hs j y (List.getElem?_eq_some_iff.mp ej).1 ej
  rw [List.length_map] at ok l1 l2
  have no : ¬ ShpR rs → dn Q (.bl false) G' := fun h => dn_refl (hq false ⟨nof, fun z => absurd (shp_rows.mp z) h⟩)
  have hq : ∀ b, (b = true ↔ ShpR rs) → dn Q (.bl b) G' := fun b h => dn_refl (hq b (h.trans shp_rows.symm))
  refine ⟨trivial, _, rfl, _, rfl, (by rw [List.length_map]; omega), (by rw [List.length_map]; omega), ?_⟩
  rw [List.length_map]
  refine forL_inv (fun k σ G1 => G1 = G' ∧ ∃ (y2 y3 y4 y5 y6 y7 y8 : Option D), (∀ h r, h < k → rs[h]? = some r → r.two ∧ (sonIs rs h r.l ∧ sonIs rs h r.r) ∧ go rs rs.length h = true) ∧ σ = [some (.tup (rs.map Row.d)), some (.int rs.length), y2, y3, y4, y5, y6, y7, y8, none]) ?_ ?_ ⟨rfl, y, _, _, _, _, _, _, fun h r z => by omega, rfl⟩
  · rintro k x σ G1 N ex ⟨rfl, y2, y3, y4, y5, y6, y7, y8, hs, rfl⟩ hN
    obtain ⟨hk2, ex⟩ := List.getElem?_eq_some_iff.mp ex
    have hk2 : k < rs.length := by simpa using hk2
    have ex : x = .int k := by simpa using ex.symm
    subst ex
    obtain ⟨r, er⟩ : ∃ r, rs[k]? = some r := ⟨rs[k], by simp [hk2]⟩
    have okr := ok r (List.mem_of_getElem? er)
    refine ⟨trivial, _, rfl, _, rfl, _, _, rfl, at_row er, _, rfl, _, rfl, _, rfl, rfl, ?_⟩
    dsimp only
    refine sseq_cut (fun σ G2 => G2 = G1 ∧ r.two ∧ σ = [some (.tup (rs.map Row.d)), some (.int rs.length), y2, some (.int k), y4, y5, y6, some (pl r.l), some (pl r.r), none]) (fun N hN => ?_) ?_
    · have no : r.l ≠ none → r.l = r.r → dn Q (.bl false) G1 := fun h1 h2 => no fun z => by
        rcases z.two r (List.mem_of_getElem? er) with h | h
        · exact h1 h
        · exact h h2
      refine ⟨_, rfl, _, rfl, ite_b (fun z1 => ?_) (fun z1 => ?_)⟩
      · have z1 : (!isN (pl r.l)) = true := z1
        have z1 : r.l ≠ none := fun e => by rw [e] at z1; cases z1
        refine ⟨_, rfl, _, rfl, pl_eqOk, _, rfl, ite_b (fun z2 => no z1 (pl_eqD.mp z2)) (fun z2 => hN _ _ ⟨rfl, .inr fun e => ?_, rfl⟩)⟩
        rw [pl_eqD.mpr e] at z2; cases z2
      · have z1 : (!isN (pl r.l)) = false := z1
        have z1 : isN (pl r.l) = true := by simpa using z1
        exact hN _ _ ⟨rfl, .inl (pl_isN.mp z1), rfl⟩
    rintro σ G2 ⟨rfl, tw, rfl⟩
    refine sseq_cut (fun σ G3 => G3 = G2 ∧ (sonIs rs k r.l ∧ sonIs rs k r.r) ∧ ∃ y4, σ = [some (.tup (rs.map Row.d)), some (.int rs.length), y2, some (.int k), y4, y5, y6, some (pl r.l), some (pl r.r), none]) (fun N hN => ?_) ?_
    · refine ⟨_, rfl, _, rfl, Nat.le_of_ble_eq_true rfl, [pl r.l, pl r.r], rfl, forL_inv (fun j σ G3 => G3 = G2 ∧ (0 < j → sonIs rs k r.l) ∧ (1 < j → sonIs rs k r.r) ∧ ∃ y4, σ = [some (.tup (rs.map Row.d)), some (.int rs.length), y2, some (.int k), y4, y5, y6, some (pl r.l), some (pl r.r), none]) ?_ ?_ ⟨rfl, fun z => by omega, fun z => by omega, _, rfl⟩⟩
      · rintro j x σ G3 N ex ⟨rfl, h1, h2, y4, rfl⟩ hN
        obtain ⟨o, rfl, oo, ho⟩ : ∃ o, x = pl o ∧ okp rs.length o ∧ ((j = 0 ∧ o = r.l) ∨ (j = 1 ∧ o = r.r)) := by
          match j, ex with
          | 0, ex => exact ⟨r.l, by simpa using ex.symm, okr.l, .inl ⟨rfl, rfl⟩⟩
          | 1, ex => exact ⟨r.r, by simpa using ex.symm, okr.r, .inr ⟨rfl, rfl⟩⟩
          | j + 2, ex => simp at ex
        have nx : sonIs rs k o → N [some (.tup (rs.map Row.d)), some (.int rs.length), y2, some (.int k), some (pl o), y5, y6, some (pl r.l), some (pl r.r), none] G3 := fun h => hN _ _ ⟨rfl, fun _ => by
            rcases ho with ⟨e, rfl⟩ | ⟨e, rfl⟩
            · exact h
            · exact h1 (by omega), fun z => by
            rcases ho with ⟨e, rfl⟩ | ⟨e, rfl⟩
            · omega
            · exact h, _, rfl⟩
        have no : ¬ sonIs rs k o → dn Q (.bl false) G3 := fun h => no fun z => by
          have := z.sons k r er
          rcases ho with ⟨e, rfl⟩ | ⟨e, rfl⟩
          · exact h this.1
          · exact h this.2
        cases o with
        | none => exact ⟨trivial, _, rfl, _, rfl, ite_b (fun z => by cases z) (fun _ => nx fun s e => by cases e)⟩
        | some s =>
          have hs2 := oo s rfl
          obtain ⟨q, eq⟩ : ∃ q, rs[s]? = some q := ⟨rs[s], by simp [hs2]⟩
          refine ⟨trivial, _, rfl, _, rfl, ite_b (fun _ => ?_) (fun z => by cases z)⟩
          refine ⟨_, rfl, _, rfl, _, _, rfl, at_row eq, _, _, rfl, rfl, _, rfl, (by cases q.u <;> rfl), _, rfl, ite_b (fun z => no ?_) (fun z => nx ?_)⟩
          · have z : (!eqD (pl q.u) (pl (some k))) = true := z
            intro h
            obtain ⟨q2, e1, e2⟩ := h s rfl
            rw [eq] at e1; cases e1
            rw [pl_eqD.mpr e2] at z; cases z
          · have z : (!eqD (pl q.u) (pl (some k))) = false := z
            intro s2 e2
            cases e2
            exact ⟨q, eq, pl_eqD.mp (by simpa using z)⟩
      · rintro σ G3 ⟨rfl, h1, h2, y4, rfl⟩
        exact ⟨trivial, hN _ _ ⟨rfl, ⟨h1 (Nat.le_of_ble_eq_true rfl), h2 (Nat.le_of_ble_eq_true rfl)⟩, _, rfl⟩⟩
    rintro σ G3 ⟨rfl, sn, y4, rfl⟩
    refine ⟨_, rfl, _, rfl, _, rfl, (by omega), (by omega), ?_⟩
    refine forL_inv (fun j σ G4 => G4 = G3 ∧ ∃ (o : Option Nat) (y6 : Option D), okp rs.length o ∧ j ≤ rs.length ∧ walk rs (rs.length - j) o = walk rs rs.length (some k) ∧ σ = [some (.tup (rs.map Row.d)), some (.int rs.length), y2, some (.int k), y4, some (pl o), y6, some (pl r.l), some (pl r.r), none]) ?_ ?_ ⟨rfl, some k, _, fun i e => by cases e; exact hk2, by omega, by simp, rfl⟩
    · rintro j x σ G4 N ex ⟨rfl, o, y6, oo, hj, e, rfl⟩ hN
      have hj2 : j < rs.length := by
        obtain ⟨h3, _⟩ := List.getElem?_eq_some_iff.mp ex
        simpa using h3
      rw [show rs.length - j = (rs.length - (j + 1)) + 1 by omega] at e
      cases o with
      | none =>
        exact ⟨trivial, _, rfl, _, rfl, ite_b (fun z => by cases z) (fun _ => hN _ _ ⟨rfl, none, _, oo, by omega, by rw [walk_none]; exact e, rfl⟩)⟩
      | some i =>
        have hi := oo i rfl
        obtain ⟨q, eq⟩ : ∃ q, rs[i]? = some q := ⟨rs[i], by simp [hi]⟩
        have e : (match rs[i]? with | some r => walk rs (rs.length - (j + 1)) r.u | none => some i) = walk rs rs.length (some k) := e
        rw [eq] at e
        refine ⟨trivial, _, rfl, _, rfl, ite_b (fun _ => ?_) (fun z => by cases z)⟩
        exact ⟨_, rfl, _, rfl, _, _, rfl, at_row eq, _, _, rfl, rfl, hN _ _ ⟨rfl, q.u, _, (ok q (List.mem_of_getElem? eq)).u, by omega, e, rfl⟩⟩
    · rintro σ G4 ⟨rfl, o, y6, oo, hj, e, rfl⟩
      have e : walk rs (rs.length - ((List.range (rs.length : Int).toNat).map fun (i : Nat) => D.int i).length) o = walk rs rs.length (some k) := e
      rw [List.length_map, List.length_range, Int.toNat_natCast, Nat.sub_self] at e
      have e : o = walk rs rs.length (some k) := e
      have gw := go_walk ok rs.length k hk2
      refine ⟨trivial, _, rfl, _, rfl, ite_b (fun z => no fun h => ?_) (fun z => hN _ _ ⟨rfl, _, _, _, _, _, _, _, fun h q hh eq => ?_, rfl⟩)⟩
      · have := gw.mp (h.go k hk2)
        rw [← e] at this
        subst this
        cases z
      · by_cases eh : h = k
        · subst eh
          rw [er] at eq; cases eq
          refine ⟨tw, sn, gw.mpr ?_⟩
          rw [← e]
          cases o with
          | none => rfl
          | some i => cases z
        · exact hs h q (by omega) eq
  · rintro σ G1 ⟨rfl, y2, y3, y4, y5, y6, y7, y8, hs, rfl⟩
    have hs : ∀ h r, rs[h]? = some r → r.two ∧ (sonIs rs h r.l ∧ sonIs rs h r.r) ∧ go rs rs.length h = true := fun h r e => hs h r (by
      have := (List.getElem?_eq_some_iff.mp e).1
      simpa using this) e
    refine ⟨trivial, hq true ⟨fun _ => ⟨by omega, by omega, ok, fun r hr => ?_, fun h r e => (hs h r e).2.1, fun h hl => ?_⟩, fun _ => rfl⟩⟩
    · obtain ⟨j, ej⟩ := List.mem_iff_getElem?.mp hr
      exact (hs j r ej).1
    · obtain ⟨r, er⟩ : ∃ r, rs[h]? = some r := ⟨rs[h], by simp [hl]⟩
      exact (hs h r er).2.2
/-! #### _law_many -/

def sp__law_many : Sp3 := fun ds G Q E => match ds with | [.ref h, .int m] => ∃ cs i c s t, G h = some (hnd cs i c s t) ∧ HOk cs i c ∧ 1 ≤ m ∧ m ≤ 64 ∧ ∀ (v : Nat) i' c' s' t', 1 ≤ v → v ≤ 64 → HOk cs i' c' → Q (.int v) (up G h (hnd cs i' c' s' t')) | _ => False
def t__law_many : TS3 :=
    (sseq (sif (tb3 (t2 eq3 (tcall sp__law_draw (acons (tv 0) (acons (tc (.int 12)) anil))) (tc (.int 0)))) (sret (t2 ix3 (tlst false (acons (tc (.int 64)) (acons (tc (.int 63)) (acons (tc (.int 33)) (acons (tc (.int 32)) (acons (tc (.int 16)) anil)))))) (tcall sp__law_draw (acons (tv 0) (acons (tc (.int 5)) anil))))) snext)
    (sret (t2 (add3 false) (tc (.int 1)) (tcall sp__law_draw (acons (tv 0) (acons (tv 1) anil))))))
set_option maxHeartbeats 4000000 in
theorem vc__law_many (ds : List D) (G : Gp) (Q : QK) (E : EK) (h : sp__law_many ds G Q E) : t__law_many (fnEnds Q E) (start3 N__law_many ds) G := by
  unfold sp__law_many at h
  split at h
  case h_2 => exact h.elim
  rename_i h m
  obtain ⟨cs, i, c, s, t, hG, ok, m1, m2, hq⟩ := h
  refine ⟨_, rfl, _, _, _, _, _, hG, ok, by decide, by decide, fun r i c s t r0 r1 ok => ?_⟩
  refine ⟨rfl, _, rfl, ite_b (fun _ => ?_) (fun _ => ?_)⟩
  · refine ⟨Nat.le_of_ble_eq_true rfl, _, rfl, _, _, _, _, _, up_same, ok, by decide, by decide, fun r i c s t r0 r1 ok => ?_⟩
    rw [up_up]
    obtain ⟨x, e, mx⟩ := at_ok (xs := [D.int 64, D.int 63, D.int 33, D.int 32, D.int 16]) r0 (by show r < 5; exact r1)
    refine ⟨_, _, rfl, e, dn_refl ?_⟩
    simp only [List.mem_cons, List.not_mem_nil, or_false] at mx
    rcases mx with rfl | rfl | rfl | rfl | rfl
    · exact hq 64 _ _ _ _ (by decide) (by decide) ok
    · exact hq 63 _ _ _ _ (by decide) (by decide) ok
    · exact hq 33 _ _ _ _ (by decide) (by decide) ok
    · exact hq 32 _ _ _ _ (by decide) (by decide) ok
    · exact hq 16 _ _ _ _ (by decide) (by decide) ok
  · refine ⟨_, rfl, _, rfl, _, _, _, _, _, up_same, ok, m1, by omega, fun r i c s t r0 r1 ok => ?_⟩
    rw [up_up]
    refine dn_refl ?_
    have := hq (1 + r).toNat i c s t (by omega) (by omega) ok
    rwa [Int.toNat_of_nonneg (by omega)] at this
/-! #### _law_house -/

def sp__law_house : Sp3 := fun ds G Q E => match ds with | [x, y] => ∀ p, G p = none → Q (.ref p) (up G p (.lst [x, .non, .non, .bl false, .int 0, y])) | _ => False
def t__law_house : TS3 :=
    (sret (tlst true (acons (tv 0) (acons (tc .non) (acons (tc .non) (acons (tc (.bl false)) (acons (tc (.int 0)) (acons (tv 1) anil))))))))
set_option maxHeartbeats 4000000 in
theorem vc__law_house (ds : List D) (G : Gp) (Q : QK) (E : EK) (h : sp__law_house ds G Q E) : t__law_house (fnEnds Q E) (start3 N__law_house ds) G := by
  unfold sp__law_house at h
  split at h
  case h_2 => exact h.elim
  exact ⟨_, rfl, _, rfl, Nat.le_of_ble_eq_true rfl, fun p np => dn_refl (h p np)⟩
/-! #### _law_shuffled -/

def sp__law_shuffled : Sp3 := fun ds G Q E => match ds with | [.ref h, .int n] => ∃ cs i c s t, ∃ m : Nat, G h = some (hnd cs i c s t) ∧ HOk cs i c ∧ n = m ∧ 1 ≤ m ∧ m ≤ 64 ∧ ∀ (o : List Nat) i' c' s' t', o.Perm (List.range m) → HOk cs i' c' → Q (.fl (o.map fun (j : Nat) => D.int j)) (up G h (hnd cs i' c' s' t')) | _ => False
def t__law_shuffled : TS3 :=
    (sseq (sset 2 (tlrg true (tv 1)))
    (sseq (sfor (irng1 (acons (tv 1) anil)) (.n 3) (sseq (sset 4 (t2 (add3 false) (tv 3) (tcall sp__law_draw (acons (tv 0) (acons (t2 sub3 (tv 1) (tv 3)) anil)))))
    (sswp (tv 2) (tv 3) (tv 2) (tv 4) (ttup (acons (t2 ix3 (tv 2) (tv 4)) (acons (t2 ix3 (tv 2) (tv 3)) anil))) setL3 setL3)))
    (sret (tfz (tv 2)))))
set_option maxHeartbeats 4000000 in
theorem vc__law_shuffled (ds : List D) (G : Gp) (Q : QK) (E : EK) (h : sp__law_shuffled ds G Q E) : t__law_shuffled (fnEnds Q E) (start3 N__law_shuffled ds) G := by
  unfold sp__law_shuffled at h
  split at h
  case h_2 => exact h.elim
  rename_i h n
  obtain ⟨cs, i, c, s, t, m, hG, ok, rfl, m1, m2, hq⟩ := h
  refine ⟨_, rfl, _, rfl, .of_le (by omega) (by omega) (by omega) (by omega), fun p np => ?_⟩
  have ph : p ≠ h := ne_new hG np
  refine ⟨_, rfl, _, rfl, by omega, by omega, forL_inv (fun k σ G' => ∃ (o : List Nat) (i c s t : Int) (y3 y4 : Option D), o.Perm (List.range m) ∧ HOk cs i c ∧ G' = up (up G h (hnd cs i c s t)) p (.lst (o.map fun (j : Nat) => D.int j)) ∧ σ = [some (.ref h), some (.int m), some (.ref p), y3, y4]) ?_ ?_ ⟨List.range m, i, c, s, t, none, none, .refl _, ok, ?_, rfl⟩⟩
  · rintro k x σ G' N ex ⟨o, i, c, s, t, y3, y4, pm, ok, rfl, rfl⟩ hN
    obtain ⟨hk, ex⟩ := List.getElem?_eq_some_iff.mp ex
    have hk : k < m := by simpa using hk
    have ex : x = .int k := by simpa using ex.symm
    subst ex
    have ol : o.length = m := by simpa using pm.length_eq
    refine ⟨trivial, _, rfl, _, rfl, _, rfl, _, rfl, _, _, _, _, _, (by rw [up_ne (Ne.symm ph), up_same]), ok, by omega, by omega, fun r i c s t r0 r1 ok => ?_⟩
    rw [up_comm (Ne.symm ph), up_up]
    obtain ⟨j, ej, hj, jk⟩ : ∃ j : Nat, (k : Int) + r = j ∧ j < m ∧ k ≤ j := ⟨(k + r).toNat, by omega, by omega, by omega⟩
    dsimp only [add3]
    rw [ej]
    have g1 : ∀ (q : Nat) (hq : q < m), atI (o.map fun (j : Nat) => D.int j) (q : Int) = some (.int (o[q]'(by omega))) := fun q hq => at_get (by omega) (by simp [ol, hq])
    have ix : ∀ (q : Nat) (l : List D), l.length = m → q < m → ixN l.length (q : Int) = some q := fun q l e hq => ixn_ok q (by omega)
    refine ⟨_, rfl, _, rfl, _, _, sq_ref up_same, g1 j hj, _, rfl, _, rfl, _, _, sq_ref up_same, g1 k hk, Nat.le_of_ble_eq_true rfl, _, _, rfl, ?_⟩
    refine ⟨_, rfl, _, rfl, _, _, up_same, ix k _ (by simp [ol]) hk, _, rfl, _, rfl, _, _, up_same, ix j _ (by simp [ol]) hj, ?_⟩
    rw [up_up, up_up]
    refine hN _ _ ⟨(o.set k (o[j]'(by omega))).set j (o[k]'(by omega)), i, c, s, t, _, _, (List.set_set_perm (by omega) (by omega)).trans pm, ok, ?_, rfl⟩
    rw [List.map_set, List.map_set]
  · rintro σ G' ⟨o, i, c, s, t, y3, y4, pm, ok, rfl, rfl⟩
    refine ⟨trivial, _, rfl, fz_lst up_same ?_⟩
    rw [dl_up (by rw [up_ne ph]; exact np)]
    exact dn_refl (hq _ _ _ _ _ pm ok)
  · rw [up_self hG]; rfl
/-! #### _law_value -/

def sp__law_value : Sp3 := fun ds G Q E => match ds with | [.ref h] => ∃ cs i c s t, G h = some (hnd cs i c s t) ∧ HOk cs i c ∧ ∀ v i' c' s' t', HOk cs i' c' → Q (.int v) (up G h (hnd cs i' c' s' t')) | _ => False
def t__law_value : TS3 :=
    (sseq (sset 1 (tcall sp__law_draw (acons (tv 0) (acons (tc (.int 8)) anil))))
    (sseq (sif (tb3 (t2 eq3 (tv 1) (tc (.int 0)))) (sret (t2 ix3 (tlst false (acons (t2 pow3 (tc (.int 10)) (tc (.int 18))) (acons (t2 sub3 (tc (.int 0)) (t2 pow3 (tc (.int 10)) (tc (.int 18)))) (acons (t2 pow3 (tc (.int 2)) (tc (.int 62))) (acons (tneg (tc (.int 1))) (acons (tc (.int 0)) (acons (t2 pow3 (tc (.int 10)) (tc (.int 9))) anil))))))) (tcall sp__law_draw (acons (tv 0) (acons (tc (.int 6)) anil))))) snext)
    (sret (t2 sub3 (tcall sp__law_draw (acons (tv 0) (acons (tc (.int 41)) anil))) (tc (.int 20))))))
set_option maxHeartbeats 4000000 in
theorem vc__law_value (ds : List D) (G : Gp) (Q : QK) (E : EK) (h : sp__law_value ds G Q E) : t__law_value (fnEnds Q E) (start3 N__law_value ds) G := by
  unfold sp__law_value at h
  split at h
  case h_2 => exact h.elim
  rename_i h
  obtain ⟨cs, i, c, s, t, hG, ok, hq⟩ := h
  refine ⟨_, rfl, _, _, _, _, _, hG, ok, by decide, by decide, fun r i c s t r0 r1 ok => ?_⟩
  refine ⟨_, rfl, rfl, _, rfl, ite_b (fun _ => ?_) (fun _ => ?_)⟩
  · refine ⟨⟨by decide, by decide, by decide⟩, ⟨by decide, by decide, by decide⟩, ⟨by decide, by decide, by decide⟩, _, rfl, ⟨by decide, by decide, by decide⟩, Nat.le_of_ble_eq_true rfl, ?_⟩
    refine ⟨_, rfl, _, _, _, _, _, up_same, ok, by decide, by decide, fun r i c s t r0 r1 ok => ?_⟩
    rw [up_up]
    obtain ⟨x, e, mx⟩ := at_ok (xs := [D.int (10 ^ (18 : Int).toNat), D.int (0 - 10 ^ (18 : Int).toNat), D.int (2 ^ (62 : Int).toNat), D.int (-1), D.int 0, D.int (10 ^ (9 : Int).toNat)]) r0 (by show r < 6; exact r1)
    obtain ⟨v, rfl⟩ : ∃ v, x = .int v := by
      simp only [List.mem_cons, List.not_mem_nil, or_false] at mx
      rcases mx with rfl | rfl | rfl | rfl | rfl | rfl <;> exact ⟨_, rfl⟩
    exact ⟨_, _, rfl, e, dn_refl (hq _ _ _ _ _ ok)⟩
  · refine ⟨_, rfl, _, _, _, _, _, up_same, ok, by decide, by decide, fun r i c s t r0 r1 ok => ?_⟩
    rw [up_up]
    exact dn_refl (hq _ _ _ _ _ ok)
/-! #### _law_shape -/

def sp__law_shape : Sp3 := fun ds G Q E => match ds with | [.ref h, .int n] => ∃ cs i c s t, ∃ m : Nat, G h = some (hnd cs i c s t) ∧ HOk cs i c ∧ n = m ∧ 1 ≤ m ∧ m ≤ 64 ∧ ∀ (rs : List Row) i' c' s' t', ShpR rs → HOk cs i' c' → Q (.tup (rs.map Row.d)) (up G h (hnd cs i' c' s' t')) | _ => False
def t__law_shape : TS3 :=
    (sseq (sset 2 (tcall sp__law_shuffled (acons (tv 0) (acons (tv 1) anil))))
    (sseq (sset 3 (tlc false (irng1 (acons (tv 1) anil)) (.n 7) Tyes (tcall sp__law_house (acons (tc .non) (acons (tcall sp__law_value (acons (tv 0) anil)) anil))) [7]))
    (sseq (sset 4 (tcall sp__law_draw (acons (tv 0) (acons (tc (.int 4)) anil))))
    (sseq (sfor (irng1 (acons (tv 1) anil)) (.n 5) (sseq (sset 6 (t2 ix3 (tv 3) (t2 ix3 (tv 2) (tv 5))))
    (sseq (ssub (tv 6) (tc (.int 3)) (t2 eq3 (tcall sp__law_draw (acons (tv 0) (acons (tc (.int 3)) anil))) (tc (.int 0))) setL3)
    (sseq (ssub (tv 6) (tc (.int 4)) (t2 ix3 (tlst false (acons (tc (.int 0)) (acons (tc (.int 0)) (acons (tc (.int 0)) (acons (tc (.int 1)) (acons (tneg (tc (.int 7))) (acons (t2 pow3 (tc (.int 10)) (tc (.int 18))) anil))))))) (tcall sp__law_draw (acons (tv 0) (acons (tc (.int 6)) anil)))) setL3)
    (sif (tb3 (t2 gt3 (tv 5) (tc (.int 0)))) (sseq (sset 8 (t2 ix3 (tv 2) (t2 sub3 (t2 sub3 (tv 5) (tc (.int 1))) (tcall sp__law_draw (acons (tv 0) (acons (t2 ix3 (tlst false (acons (tv 5) (acons (tcb bMin2 (acons (tv 5) (acons (tc (.int 2)) anil))) (acons (tc (.int 1)) (acons (tv 5) anil))))) (tv 4)) anil))))))
    (sseq (sset 9 (t2 ix3 (tv 3) (tv 8)))
    (sseq (sset 10 (t2 (add3 false) (tc (.int 1)) (tcall sp__law_draw (acons (tv 0) (acons (tc (.int 2)) anil)))))
    (sif (tb3 (t2 gt3 (tcall sp__law_draw (acons (tv 0) (acons (tc (.int 8)) anil))) (tc (.int 0)))) (sseq (ssub (tv 6) (tc (.int 0)) (tv 8) setL3)
    (sif (Tand (tb3 (t2 (is3 false) (t2 ix3 (tv 9) (tv 10)) (tc .non))) (tb3 (t2 gt3 (tcall sp__law_draw (acons (tv 0) (acons (tc (.int 4)) anil))) (tc (.int 0))))) (ssub (tv 9) (tv 10) (t2 ix3 (tv 2) (tv 5)) setL3) snext)) snext)))) snext)))))
    (sret (tcb bTup (acons (tlc false (iseq (tv 3)) (.n 11) Tyes (tcb bTup (acons (tv 11) anil)) [11]) anil)))))))
set_option maxHeartbeats 4000000 in
theorem vc__law_shape (ds : List D) (G : Gp) (Q : QK) (E : EK) (h : sp__law_shape ds G Q E) : t__law_shape (fnEnds Q E) (start3 N__law_shape ds) G := by
  unfold sp__law_shape at h
  split at h
  case h_2 => exact h.elim
  rename_i h n
  obtain ⟨cs, i, c, s, t, m, hG, ok, rfl, m1, m2, hq⟩ := h
  refine ⟨_, rfl, _, rfl, _, _, _, _, _, m, hG, ok, rfl, m1, m2, fun ol i c s t pm ok => ?_⟩
  have O := ord_of pm
  have oll : ol.length = m := by simpa using pm.length_eq
  have oget : ∀ q, q < m → atI (ol.map fun (j : Nat) => D.int j) (q : Int) = some (.int ((ol.getD q 0 : Nat) : Int)) := fun q hq => at_get (by omega) (by simp [List.getD, oll, hq])
  generalize ho : (fun i => ol.getD i 0) = o at O
  have oget : ∀ q, q < m → atI (ol.map fun (j : Nat) => D.int j) (q : Int) = some (.int ((o q : Nat) : Int)) := fun q hq => by rw [← ho]; exact oget q hq
  have R0 : ∀ ad f, RA G h 0 ad f cs i c s t (up G h (hnd cs i c s t)) := fun ad f => ⟨ok, up_same, fun q hq => by omega, fun q p hq => by omega, fun q hq => by omega, fun q hq => by omega, fun b o hb e => by rw [up_ne hb]; exact e⟩
  refine ⟨_, rfl, _, rfl, by omega, by omega, lc_inv (fun k acc G' => ∃ ad f i c s t, RA G h k ad f cs i c s t G' ∧ acc = (List.range k).map (fun q => D.ref (ad q)) ∧ ∀ q, q < k → (f q).u = none ∧ (f q).l = none ∧ (f q).r = none) (by rw [List.length_map, List.length_range]; show _ ≤ 16777216; omega) ?_ ?_ ⟨fun _ => 0, fun _ => ⟨none, none, none, false, 0, 0⟩, i, c, s, t, R0 _ _, rfl, fun q hq => by omega⟩⟩
  · rintro k x acc G' p N N' ex np ⟨ad, f, i, c, s, t, R, rfl, fr⟩ hN _
    have ph : p ≠ h := ne_new R.hh np
    refine ⟨trivial, ?_⟩
    refine ⟨_, rfl, _, _, _, _, _, (by rw [up_ne (Ne.symm ph)]; exact R.hh), R.ok, fun v i c s t ok => ?_⟩
    rw [up_comm (Ne.symm ph)]
    refine fun q nq => ?_
    have qp : q ≠ p := fun z => by rw [z, up_same] at nq; cases nq
    rw [up_ne qp] at nq
    have R2 := (R.draw (s' := s) (t' := t) ok).new nq ⟨none, none, none, false, 0, v⟩
    have e1 : ∀ (u : GO), up (up (up G' h (hnd cs i c s t)) p u) q (.lst [.non, .non, .non, .bl false, .int 0, .int v]) = up (up (up G' h (hnd cs i c s t)) q (.lst [.non, .non, .non, .bl false, .int 0, .int v])) p u := fun u => up_comm qp
    rw [e1]
    have pn : (up (up G' h (hnd cs i c s t)) q (.lst [.non, .non, .non, .bl false, .int 0, .int v])) p = none := by rw [up_ne (Ne.symm qp), up_ne ph]; exact np
    refine hN _ _ pn ⟨_, _, i, c, s, t, R2, ?_, fun j hj => ?_⟩
    · rw [List.range_succ, List.map_append]
      congr 1
      · refine List.map_congr_left fun j hj => ?_
        have : j ≠ k := by have := List.mem_range.mp hj; omega
        simp [this]
      · simp
    · by_cases e : j = k
      · subst e; rw [upf_same]; exact ⟨rfl, rfl, rfl⟩
      · rw [upf_ne e]; exact fr j (by omega)
  · rintro acc G' p np ⟨ad, f, i, c, s, t, R, rfl, fr⟩
    rw [List.length_map, List.length_range, Int.toNat_natCast] at R fr ⊢
    have rget : ∀ q, q < m → atI ((List.range m).map fun q => D.ref (ad q)) (q : Int) = some (.ref (ad q)) := fun q hq => at_get (by omega) (by simp [hq])
    refine ⟨trivial, ?_⟩
    refine ⟨_, rfl, _, _, _, _, _, R.hh, R.ok, by decide, by decide, fun kd i c s t kd0 kd1 ok => ?_⟩
    have R := R.draw (s' := s) (t' := t) ok
    have g0 : Grow m o 0 f := ⟨fun i _ hi => fr _ (O.lt i hi), fun i hi => by omega, fun q s hq e => by
      have := fr q hq
      rcases e with e | e
      · rw [this.2.1] at e; exact absurd e (by simp)
      · rw [this.2.2] at e; exact absurd e (by simp), fun q hq => .inl (fr q hq).2.1⟩
    refine ⟨_, rfl, _, rfl, by omega, by omega, forL_inv (fun k σ G' => ∃ f i c s t y5 y6 y8 y9 y10, RA G h m ad f cs i c s t G' ∧ Grow m o k f ∧ σ = [some (.ref h), some (.int m), some (.fl (ol.map fun (j : Nat) => D.int j)), some (.fl ((List.range m).map fun q => D.ref (ad q))), some (.int kd), y5, y6, none, y8, y9, y10, none]) ?_ ?_ ⟨f, i, c, s, t, _, _, _, _, _, R, g0, rfl⟩⟩
    · clear g0 fr R
      rintro k x σ G' N ex ⟨f, i, c, s, t, y5, y6, y8, y9, y10, R, g, rfl⟩ hN
      obtain ⟨hk, ex⟩ := List.getElem?_eq_some_iff.mp ex
      have hk : k < m := by simpa using hk
      have ex : x = .int k := by simpa using ex.symm
      subst ex
      have hw := O.lt k hk
      refine ⟨trivial, _, rfl, _, rfl, _, rfl, _, _, rfl, oget k hk, _, _, rfl, rget _ hw, ?_⟩
      refine ⟨_, rfl, _, _, _, _, _, R.hh, R.ok, by decide, by decide, fun r i c s t r0 r1 ok => ⟨rfl, ?_⟩⟩
      have R := R.draw (s' := s) (t' := t) ok
      refine ⟨_, rfl, _, _, R.rows _ hw, rfl, ?_⟩
      have R := R.row hw { f (o k) with t := eqD (.int r) (.int 0) }
      have g := g.same O hk { f (o k) with t := eqD (.int r) (.int 0) } rfl rfl rfl
      generalize upf f (o k) { f (o k) with t := eqD (.int r) (.int 0) } = f at R g
      refine ⟨_, rfl, ⟨by decide, by decide, by decide⟩, Nat.le_of_ble_eq_true rfl, _, rfl, _, _, _, _, _, R.hh, R.ok, by decide, by decide, fun r i c s t r0 r1 ok => ?_⟩
      have R := R.draw (s' := s) (t' := t) ok
      obtain ⟨x, e, mx⟩ := at_ok (xs := [D.int 0, D.int 0, D.int 0, D.int 1, D.int (-7), D.int (10 ^ (18 : Int).toNat)]) r0 (by show r < 6; exact r1)
      obtain ⟨v, rfl⟩ : ∃ v, x = .int v := by
        simp only [List.mem_cons, List.not_mem_nil, or_false] at mx
        rcases mx with rfl | rfl | rfl | rfl | rfl | rfl <;> exact ⟨_, rfl⟩
      refine ⟨_, _, rfl, e, _, rfl, _, _, R.rows _ hw, rfl, ?_⟩
      have R := R.row hw { f (o k) with a := v }
      have g := g.same O hk { f (o k) with a := v } rfl rfl rfl
      generalize upf f (o k) { f (o k) with a := v } = f at R g
      refine ⟨_, rfl, _, rfl, ite_b (fun hk0 => ?_) (fun hk0 => ?_)⟩
      · have hk0 : 0 < k := by have hk0 : (0 : Int) < k := of_decide_eq_true hk0; omega
        refine ⟨_, rfl, _, rfl, _, rfl, _, rfl, _, rfl, _, rfl, Nat.le_of_ble_eq_true rfl, _, rfl, ?_⟩
        obtain ⟨x, e, mx⟩ := at_ok (xs := [D.int k, D.int (if (2 : Int) < k then 2 else k), D.int 1, D.int k]) kd0 (by show kd < 4; exact kd1)
        obtain ⟨a, rfl, a1, a2⟩ : ∃ a : Int, x = .int a ∧ 1 ≤ a ∧ a ≤ k := by
          simp only [List.mem_cons, List.not_mem_nil, or_false] at mx
          rcases mx with rfl | rfl | rfl | rfl
          · exact ⟨_, rfl, by omega, by omega⟩
          · refine ⟨_, rfl, ?_, ?_⟩ <;> split <;> omega
          · exact ⟨_, rfl, by omega, by omega⟩
          · exact ⟨_, rfl, by omega, by omega⟩
        refine ⟨_, _, rfl, e, _, _, _, _, _, R.hh, R.ok, a1, by omega, fun r i c s t r0 r1 ok => ?_⟩
        have R := R.draw (s' := s) (t' := t) ok
        obtain ⟨j, ej, hj⟩ : ∃ j : Nat, (k : Int) - 1 - r = j ∧ j < k := ⟨((k : Int) - 1 - r).toNat, by omega, by omega⟩
        dsimp only [sub3]
        rw [ej]
        refine ⟨_, _, rfl, oget j (by omega), ?_⟩
        have hj2 := O.lt j (by omega)
        refine ⟨_, rfl, _, rfl, _, _, rfl, rget _ hj2, ?_⟩
        refine ⟨_, rfl, _, _, _, _, _, R.hh, R.ok, by decide, by decide, fun sd i c s t sd0 sd1 ok => ?_⟩
        have R := R.draw (s' := s) (t' := t) ok
        refine ⟨_, rfl, _, _, _, _, _, R.hh, R.ok, by decide, by decide, fun r i c s t r0 r1 ok => ?_⟩
        have R := R.draw (s' := s) (t' := t) ok
        refine ⟨_, rfl, ite_b (fun _ => ?_) (fun _ => ?_)⟩
        · refine ⟨_, rfl, _, rfl, _, _, R.rows _ hw, rfl, ?_⟩
          have R := R.row hw { f (o k) with u := some (o j) }
          have hn := grow_new O g hk
          have g := g.up O hk hj
          have hu : (upf f (o k) { f (o k) with u := some (o j) } (o k)).u = some (o j) := by rw [upf_same]
          have hn : ∀ q, q < m → (upf f (o k) { f (o k) with u := some (o j) } q).l ≠ some (o k) ∧ (upf f (o k) { f (o k) with u := some (o j) } q).r ≠ some (o k) := fun q hq => ⟨fun e => (hn q hq).1 ((upf_fld (r := { f (o k) with u := some (o j) }) Row.l rfl q).symm.trans e), fun e => (hn q hq).2 ((upf_fld (r := { f (o k) with u := some (o j) }) Row.r rfl q).symm.trans e)⟩
          generalize upf f (o k) { f (o k) with u := some (o j) } = f at R g hu hn
          have sd : sd = 0 ∨ sd = 1 := by omega
          rcases sd with rfl | rfl
          · refine ⟨_, rfl, _, rfl, _, _, sq_ref (R.rows _ hj2), rfl, _, rfl, ite_b (fun z => ?_) (fun z => hN _ _ ⟨f, _, _, _, _, _, _, _, _, _, R, g, rfl⟩)⟩
            refine ⟨_, rfl, _, _, _, _, _, R.hh, R.ok, by decide, by decide, fun r i c s t r0 r1 ok => ?_⟩
            have R := R.draw (s' := s) (t' := t) ok
            refine ⟨_, rfl, ite_b (fun _ => ?_) (fun z => hN _ _ ⟨f, _, _, _, _, _, _, _, _, _, R, g, rfl⟩)⟩
            refine ⟨_, rfl, _, rfl, _, _, rfl, oget k hk, _, rfl, _, rfl, _, _, R.rows _ hj2, rfl, ?_⟩
            exact hN _ _ ⟨_, _, _, _, _, _, _, _, _, _, R.row hj2 { f (o j) with l := some (o k) }, g.son O hk hj hu hn _ ⟨rfl, .inl ⟨rfl, rfl⟩⟩, rfl⟩
          · refine ⟨_, rfl, _, rfl, _, _, sq_ref (R.rows _ hj2), rfl, _, rfl, ite_b (fun z => ?_) (fun z => hN _ _ ⟨f, _, _, _, _, _, _, _, _, _, R, g, rfl⟩)⟩
            refine ⟨_, rfl, _, _, _, _, _, R.hh, R.ok, by decide, by decide, fun r i c s t r0 r1 ok => ?_⟩
            have R := R.draw (s' := s) (t' := t) ok
            refine ⟨_, rfl, ite_b (fun _ => ?_) (fun z => hN _ _ ⟨f, _, _, _, _, _, _, _, _, _, R, g, rfl⟩)⟩
            refine ⟨_, rfl, _, rfl, _, _, rfl, oget k hk, _, rfl, _, rfl, _, _, R.rows _ hj2, rfl, ?_⟩
            exact hN _ _ ⟨_, _, _, _, _, _, _, _, _, _, R.row hj2 { f (o j) with r := some (o k) }, g.son O hk hj hu hn _ ⟨rfl, .inr ⟨rfl, rfl⟩⟩, rfl⟩
        · exact hN _ _ ⟨f, _, _, _, _, _, _, _, _, _, R, g.next hk, rfl⟩
      · exact hN _ _ ⟨f, _, _, _, _, _, _, _, _, _, R, g.next hk, rfl⟩
    · rintro σ G' ⟨f, i, c, s, t, y5, y6, y8, y9, y10, R, g, rfl⟩
      rw [List.length_map, List.length_range, Int.toNat_natCast] at g
      refine ⟨trivial, _, rfl, _, rfl, lc_inv (fun k acc G'' => G'' = G' ∧ acc = (List.range k).map fun q => (f q).d) (by rw [List.length_map, List.length_range]; show _ ≤ 16777216; omega) ?_ ?_ ⟨rfl, rfl⟩⟩
      · rintro k x acc G'' p N N' ex np ⟨rfl, rfl⟩ hN _
        obtain ⟨hk, ex⟩ := List.getElem?_eq_some_iff.mp ex
        have hk : k < m := by simpa using hk
        have ex : x = .ref (ad k) := by simpa using ex.symm
        subst ex
        have ne : ad k ≠ p := fun z => by have := R.rows k hk; rw [z, np] at this; cases this
        refine ⟨trivial, _, rfl, _, sq_ref (by rw [up_ne ne]; exact R.rows k hk), hN _ _ np ⟨rfl, ?_⟩⟩
        rw [List.range_succ, List.map_append]; rfl
      · rintro acc G'' p np ⟨rfl, rfl⟩
        rw [List.length_map, List.length_range]
        refine ⟨trivial, _, rfl, _, R.sub, ?_⟩
        have := hq ((List.range m).map f) i c s t (g.shape O m1 m2) R.ok
        rw [List.map_map] at this
        exact this
/-! #### comes_out -/

def sp_comes_out : Sp3 := fun ds G Q E => match ds with | [.tup xs, .int i] => ∃ (rs : List Row) (h : Nat), xs = rs.map Row.d ∧ i = h ∧ h < rs.length ∧ rs.length ≤ 64 ∧ (∀ r ∈ rs, r.ok rs.length) ∧ Q (.bl (go rs rs.length h)) G | _ => False
def t_comes_out : TS3 :=
    (sseq (sset 2 (tv 1))
    (sseq (sfor (irng1 (acons (tcb bLen (acons (tv 0) anil)) anil)) (.n 3) (sseq (sset 2 (t2 ix3 (t2 ix3 (tv 0) (tv 2)) (tc (.int 0))))
    (sif (tb3 (t2 (is3 false) (tv 2) (tc .non))) (sret (tc (.bl true))) snext)))
    (sret (tc (.bl false)))))
set_option maxHeartbeats 4000000 in
theorem vc_comes_out (ds : List D) (G : Gp) (Q : QK) (E : EK) (h : sp_comes_out ds G Q E) : t_comes_out (fnEnds Q E) (start3 N_comes_out ds) G := by
  unfold sp_comes_out at h
  split at h
  case h_2 => exact h.elim
  obtain ⟨rs, h, rfl, rfl, hl, l64, ok, hq⟩ := h
  refine ⟨_, rfl, _, rfl, _, rfl, _, rfl, (by rw [List.length_map]; omega), (by rw [List.length_map]; omega), ?_⟩
  rw [List.length_map]
  refine forL_inv (fun k σ G' => G' = G ∧ ∃ (i : Nat) (y : Option D), i < rs.length ∧ k ≤ rs.length ∧ go rs (rs.length - k) i = go rs rs.length h ∧ σ = [some (.tup (rs.map Row.d)), some (.int h), some (.int i), y]) ?_ ?_ ⟨rfl, h, none, hl, by omega, by simp, rfl⟩
  · rintro k x σ G' N ex ⟨rfl, i, y, hi, hk, e, rfl⟩ hN
    have hk2 : k < rs.length := by
      obtain ⟨h3, _⟩ := List.getElem?_eq_some_iff.mp ex
      simpa using h3
    obtain ⟨r, er⟩ : ∃ r, rs[i]? = some r := ⟨rs[i], by simp [hi]⟩
    have okr := ok r (List.mem_of_getElem? er)
    have eu : atI r.items 0 = some (pl r.u) := rfl
    have e2 : go rs (rs.length - k) i = match r.u with | none => true | some p => go rs (rs.length - (k + 1)) p := by
      rw [show rs.length - k = (rs.length - (k + 1)) + 1 by omega]
      show (match rs[i]? with | some r => (match r.u with | none => true | some p => go rs (rs.length - (k + 1)) p) | none => false) = _
      rw [er]
    cases hu : r.u with
    | none =>
      rw [hu] at e2
      rw [hu] at eu
      refine ⟨trivial, _, rfl, _, rfl, _, _, rfl, at_row er, _, _, rfl, eu, _, rfl, _, rfl, ite_b (fun z => dn_refl ?_) (fun z => ?_)⟩
      · rw [← e, e2] at hq; exact hq
      · cases z
    | some p =>
      rw [hu] at e2
      rw [hu] at eu
      refine ⟨trivial, _, rfl, _, rfl, _, _, rfl, at_row er, _, _, rfl, eu, _, rfl, _, rfl, ite_b (fun z => ?_) (fun z => ?_)⟩
      · cases z
      · exact hN _ _ ⟨rfl, p, _, okr.u p hu, by omega, e2.symm.trans e, rfl⟩
  · rintro σ G' ⟨rfl, i, y, hi, hk, e, rfl⟩
    refine ⟨trivial, dn_refl ?_⟩
    have e : go rs (rs.length - (((List.range (rs.length : Int).toNat).map fun (i : Nat) => D.int i).length)) i = go rs rs.length h := e
    rw [List.length_map, List.length_range, Int.toNat_natCast, Nat.sub_self] at e
    rw [← e] at hq
    exact hq
/-! #### is_integer -/

def sp_is_integer : Sp3 := fun ds G Q E => match ds with | [x] => kn OC x = true ∧ Q (.bl (isI x)) G | _ => False
def t_is_integer : TS3 :=
    (sret (tand (tisi (isT OC .int) (tv 0)) (tnot (tisi (isT OC .bl) (tv 0)))))
set_option maxHeartbeats 4000000 in
theorem vc_is_integer (ds : List D) (G : Gp) (Q : QK) (E : EK) (h : sp_is_integer ds G Q E) : t_is_integer (fnEnds Q E) (start3 N_is_integer ds) G := by
  unfold sp_is_integer at h
  split at h
  case h_2 => exact h.elim
  rename_i x
  refine ⟨_, rfl, isi_use (P := fun b => _) h.1 ⟨_, rfl, ite_b (fun hc => ?_) (fun hc => ?_)⟩⟩
  · refine ⟨_, rfl, isi_use (P := fun b => _) h.1 ⟨_, rfl, dn_refl ?_⟩⟩
    have := isI_eq x
    rw [hc, Bool.true_and] at this
    rw [this]; exact h.2
  · refine dn_refl ?_
    have := isI_eq x
    rw [hc, Bool.false_and] at this
    rw [this]; exact h.2
/-! #### is_within -/

def sp_is_within : Sp3 := fun ds G Q E => match ds with | [x, .int a, .int b] => kn OC x = true ∧ Q (.bl (wiI a b x)) G | _ => False
def t_is_within : TS3 :=
    (sret (tand (tcall sp_is_integer (acons (tv 0) anil)) (tch le3 le3 (tv 1) (tv 0) (tv 2))))
set_option maxHeartbeats 4000000 in
theorem vc_is_within (ds : List D) (G : Gp) (Q : QK) (E : EK) (h : sp_is_within ds G Q E) : t_is_within (fnEnds Q E) (start3 N_is_within ds) G := by
  unfold sp_is_within at h
  split at h
  case h_2 => exact h.elim
  rename_i x a b
  refine ⟨_, rfl, h.1, _, rfl, ite_b (fun hc => ?_) (fun hc => ?_)⟩
  · obtain ⟨i, rfl⟩ := isI_of hc
    refine ⟨_, rfl, _, rfl, _, rfl, ite_b (fun h1 => ?_) (fun h1 => ?_)⟩
    · refine ⟨_, rfl, dn_refl ?_⟩
      have this : Q (.bl (decide (a ≤ i) && decide (i ≤ b))) G := h.2
      rwa [h1, Bool.true_and] at this
    · refine dn_refl ?_
      have this : Q (.bl (decide (a ≤ i) && decide (i ≤ b))) G := h.2
      rwa [h1, Bool.false_and] at this
  · refine dn_refl ?_
    rw [show wiI a b x = false by cases x <;> first | rfl | cases hc] at h
    exact h.2
/-! #### is_below -/

def sp_is_below : Sp3 := fun ds G Q E => match ds with | [x, .int b] => kn OC x = true ∧ Q (.bl (wiI 0 (b - 1) x)) G | _ => False
def t_is_below : TS3 :=
    (sret (tcall sp_is_within (acons (tv 0) (acons (tc (.int 0)) (acons (t2 sub3 (tv 1) (tc (.int 1))) anil)))))
set_option maxHeartbeats 4000000 in
theorem vc_is_below (ds : List D) (G : Gp) (Q : QK) (E : EK) (h : sp_is_below ds G Q E) : t_is_below (fnEnds Q E) (start3 N_is_below ds) G := by
  unfold sp_is_below at h
  split at h
  case h_2 => exact h.elim
  exact ⟨_, rfl, _, rfl, h.1, dn_refl h.2⟩
/-! #### is_place -/

def sp_is_place : Sp3 := fun ds G Q E => match ds with | [.int n, x] => kn OC x = true ∧ Q (.bl (plB n x)) G | _ => False
def t_is_place : TS3 :=
    (sret (tor (t2 (is3 false) (tv 1) (tc .non)) (tcall sp_is_below (acons (tv 1) (acons (tv 0) anil)))))
set_option maxHeartbeats 4000000 in
theorem vc_is_place (ds : List D) (G : Gp) (Q : QK) (E : EK) (h : sp_is_place ds G Q E) : t_is_place (fnEnds Q E) (start3 N_is_place ds) G := by
  unfold sp_is_place at h
  split at h
  case h_2 => exact h.elim
  rename_i n x
  refine ⟨_, rfl, _, rfl, ite_b (fun z => ?_) (fun z => ?_)⟩
  · have e : x = .non := by cases x <;> first | rfl | cases z
    subst e
    exact dn_refl h.2
  · refine ⟨_, rfl, _, rfl, h.1, dn_refl ?_⟩
    have e : plB n x = wiI 0 (n - 1) x := by cases x <;> first | rfl | cases z
    rw [← e]; exact h.2
/-! #### is_sized -/

def sp_is_sized : Sp3 := fun ds G Q E => match ds with | [x, .int a, .int b] => kn OC x = true ∧ Q (.bl (siI a b x)) G | _ => False
def t_is_sized : TS3 :=
    (sret (tand (tisi (isT OC .tup) (tv 0)) (tch le3 le3 (tv 1) (tcb bLen (acons (tv 0) anil)) (tv 2))))
set_option maxHeartbeats 4000000 in
theorem vc_is_sized (ds : List D) (G : Gp) (Q : QK) (E : EK) (h : sp_is_sized ds G Q E) : t_is_sized (fnEnds Q E) (start3 N_is_sized ds) G := by
  unfold sp_is_sized at h
  split at h
  case h_2 => exact h.elim
  rename_i x a b
  refine ⟨_, rfl, isi_use (P := fun b => _) h.1 ⟨_, rfl, ite_b (fun hc => ?_) (fun hc => ?_)⟩⟩
  · obtain ⟨xs, rfl⟩ := isT_of hc
    refine ⟨_, rfl, _, rfl, _, rfl, _, rfl, ite_b (fun h1 => ?_) (fun h1 => ?_)⟩
    · refine ⟨_, rfl, dn_refl ?_⟩
      have this : Q (.bl (decide (a ≤ (xs.length : Int)) && decide ((xs.length : Int) ≤ b))) G := h.2
      rwa [h1, Bool.true_and] at this
    · refine dn_refl ?_
      have this : Q (.bl (decide (a ≤ (xs.length : Int)) && decide ((xs.length : Int) ≤ b))) G := h.2
      rwa [h1, Bool.false_and] at this
  · refine dn_refl ?_
    rw [show siI a b x = false by cases x <;> first | rfl | (simp [isiD] at hc)] at h
    exact h.2
/-! #### is_part -/

def sp_is_part : Sp3 := fun ds G Q E => match ds with | [.int n, x] => ∃ m : Nat, n = m ∧ wkr x = true ∧ ∀ b, (b = true ↔ ∃ r : Row, x = r.d ∧ r.ok m ∧ r.two) → Q (.bl b) G | _ => False
def t_is_part : TS3 :=
    (sseq (sif (Tor (Tnot (tb3 (tcall sp_is_sized (acons (tv 1) (acons (tc (.int 6)) (acons (tc (.int 6)) anil)))))) (Tnot (tb3 (tcb bAll (acons (tlc false (iseq (tsl false (tv 1) onone (osome (tc (.int 3))))) (.n 2) Tyes (tcall sp_is_place (acons (tv 0) (acons (tv 2) anil))) [2]) anil))))) (sret (tc (.bl false))) snext)
    (sseq (sif (Tand (tb3 (t2 (is3 true) (t2 ix3 (tv 1) (tc (.int 1))) (tc .non))) (tb3 (t2 eq3 (t2 ix3 (tv 1) (tc (.int 1))) (t2 ix3 (tv 1) (tc (.int 2)))))) (sret (tc (.bl false))) snext)
    (sret (tand (tisi (isT OC .bl) (t2 ix3 (tv 1) (tc (.int 3)))) (tand (tcall sp_is_integer (acons (t2 ix3 (tv 1) (tc (.int 4))) anil)) (tcall sp_is_integer (acons (t2 ix3 (tv 1) (tc (.int 5))) anil)))))))
set_option maxHeartbeats 4000000 in
theorem vc_is_part (ds : List D) (G : Gp) (Q : QK) (E : EK) (h : sp_is_part ds G Q E) : t_is_part (fnEnds Q E) (start3 N_is_part ds) G := by
  unfold sp_is_part at h
  split at h
  case h_2 => exact h.elim
  rename_i n x
  obtain ⟨m, rfl, hk, hq⟩ := h
  refine ⟨_, rfl, wkr_kn hk, _, rfl, ite_b (fun z => iteT (dn_refl (hq false ?_))) (fun z => ?_)⟩
  · refine ⟨nof, fun ⟨r, e, _⟩ => ?_⟩
    subst e
    cases z
  obtain ⟨xs, rfl, l1, l2⟩ := siI_of (x := x) (by simpa using z)
  obtain ⟨u, l, r, t, a, v, rfl⟩ := six (xs := xs) (by omega)
  have hk : kn OC u = true ∧ kn OC l = true ∧ kn OC r = true ∧ kn OC t = true ∧ kn OC a = true ∧ kn OC v = true := by simpa [wkr] using hk
  refine ⟨_, rfl, _, rfl, _, rfl, lc_pure (fun y => some (.bl (plB m y))) (fun y my G' _ R hR => ?_) (fun _ _ => trivial) (Nat.le_of_ble_eq_true rfl) ?_⟩
  · have ky : kn OC y = true := by
      have my : y ∈ [u, l, r] := my
      simp only [List.mem_cons, List.not_mem_nil, or_false] at my
      rcases my with rfl | rfl | rfl
      · exact hk.1
      · exact hk.2.1
      · exact hk.2.2.1
    exact ⟨_, rfl, _, rfl, ky, hR⟩
  refine ⟨_, _, rfl, bls_map _ _, _, rfl, ite_b (fun z => dn_refl (hq false ?_)) (fun z => ?_)⟩
  · refine ⟨nof, fun ⟨q, e, ok, _⟩ => ?_⟩
    injection e with e
    injection e with e1 e; injection e with e2 e; injection e with e3 e
    have z : (!([u, l, r].map (plB m)).all id) = true := z
    simp [e1, e2, e3, plB_ok.mpr ⟨_, rfl, ok.u⟩, plB_ok.mpr ⟨_, rfl, ok.l⟩, plB_ok.mpr ⟨_, rfl, ok.r⟩] at z
  have z : (!([u, l, r].map (plB m)).all id) = false := z
  have z : plB m u = true ∧ plB m l = true ∧ plB m r = true := by simpa using z
  obtain ⟨u, rfl, ou⟩ := plB_ok.mp z.1
  obtain ⟨l, rfl, ol⟩ := plB_ok.mp z.2.1
  obtain ⟨r, rfl, or⟩ := plB_ok.mp z.2.2
  refine snext_eq ?_
  dsimp only
  refine sseq_cut (fun σ G' => σ = [some (.int m), some (.tup [pl u, pl l, pl r, t, a, v]), none] ∧ G' = G ∧ (l = none ∨ l ≠ r)) (fun N hN => ?_) ?_
  · refine ⟨_, rfl, _, _, rfl, rfl, _, rfl, ite_b (fun z1 => ?_) (fun z1 => ?_)⟩
    · refine ⟨_, rfl, _, _, rfl, rfl, _, rfl, _, _, rfl, rfl, pl_eqOk, _, rfl, ite_b (fun z2 => ?_) (fun z2 => ?_)⟩
      · have e := pl_eqD.mp z2
        refine dn_refl (hq false ⟨nof, fun ⟨q, e0, _, tw⟩ => ?_⟩)
        injection e0 with e0
        injection e0 with e1 e0; injection e0 with e2 e0; injection e0 with e3 e0
        have e2 := pl_inj e2; have e3 := pl_inj e3
        rcases tw with tw | tw
        · rw [e2, tw] at z1; cases z1
        · exact (tw (e2.symm.trans (e.trans e3))).elim
      · refine hN _ _ ⟨rfl, rfl, .inr fun e => ?_⟩
        rw [pl_eqD.mpr e] at z2; cases z2
    · refine hN _ _ ⟨rfl, rfl, .inl ?_⟩
      cases l with
      | none => rfl
      | some i => cases z1
  · rintro σ G' ⟨rfl, rfl, tw⟩
    have no : (∀ q : Row, D.tup [pl u, pl l, pl r, t, a, v] ≠ q.d) → dn Q (.bl false) G' := fun h => dn_refl (hq false ⟨nof, fun ⟨q, e, _⟩ => absurd e (h q)⟩)
    refine ⟨_, rfl, _, _, rfl, rfl, isi_use (P := fun b => _) hk.2.2.2.1 ⟨_, rfl, ite_b (fun z1 => ?_) (fun z1 => no fun q e => ?_)⟩⟩
    · refine ⟨_, rfl, _, _, rfl, rfl, hk.2.2.2.2.1, _, rfl, ite_b (fun z2 => ?_) (fun z2 => no fun q e => ?_)⟩
      · refine ⟨_, rfl, _, _, rfl, rfl, hk.2.2.2.2.2, ?_⟩
        cases hv : isI v with
        | false =>
          refine no fun q e => ?_
          injection e with e
          injection e with e1 e; injection e with e2 e; injection e with e3 e; injection e with e4 e; injection e with e5 e; injection e with e6 e
          rw [e6] at hv; cases hv
        | true =>
          obtain ⟨a, rfl⟩ := isI_of z2
          obtain ⟨v, rfl⟩ := isI_of hv
          obtain ⟨t, rfl⟩ : ∃ b, t = .bl b := by cases t <;> first | exact ⟨_, rfl⟩ | (simp [isiD] at z1)
          exact dn_refl (hq true ⟨fun _ => ⟨⟨u, l, r, t, a, v⟩, rfl, ⟨ou, ol, or⟩, tw⟩, fun _ => rfl⟩)
      · injection e with e
        injection e with e1 e; injection e with e2 e; injection e with e3 e; injection e with e4 e; injection e with e5 e
        rw [e5] at z2; cases z2
    · injection e with e
      injection e with e1 e; injection e with e2 e; injection e with e3 e; injection e with e4 e
      rw [e4] at z1; cases z1
/-! #### sons_of -/

def sp_sons_of : Sp3 := fun ds G Q E => match ds with | [.tup xs, .int i] => ∃ (rs : List Row) (h : Nat) (r : Row), xs = rs.map Row.d ∧ i = h ∧ rs[h]? = some r ∧ Q (.fl (sonsL r)) G | _ => False
def t_sons_of : TS3 :=
    (sret (tlc false (iseq (tsl false (t2 ix3 (tv 0) (tv 1)) (osome (tc (.int 1))) (osome (tc (.int 3))))) (.n 2) (tb3 (t2 (is3 true) (tv 2) (tc .non))) (tv 2) [2]))
set_option maxHeartbeats 4000000 in
theorem vc_sons_of (ds : List D) (G : Gp) (Q : QK) (E : EK) (h : sp_sons_of ds G Q E) : t_sons_of (fnEnds Q E) (start3 N_sons_of ds) G := by
  unfold sp_sons_of at h
  split at h
  case h_2 => exact h.elim
  obtain ⟨rs, h, r, rfl, rfl, e, hq⟩ := h
  refine ⟨_, rfl, _, rfl, _, _, rfl, at_row e, _, rfl, _, rfl, _, rfl, lc_pure (fun x => if isN x then none else some x) (fun x mx G' _ R hR => ?_) (fun _ _ => trivial) (Nat.le_of_ble_eq_true rfl) (dn_refl hq)⟩
  refine ⟨_, rfl, _, rfl, ite_b (fun z => ?_) (fun z => ?_)⟩
  · have z : isN x = false := by cases h : isN x <;> simp [h] at z ⊢
    rw [z] at hR
    exact ⟨_, rfl, hR⟩
  · have z : isN x = true := by cases h : isN x <;> simp [h] at z ⊢
    rw [z] at hR
    exact hR
/-! #### is_right_shape -/

def sp_is_right_shape : Sp3 := fun ds G Q E => match ds with | [x] => wks x = true ∧ ∀ b, (b = true ↔ Shp x) → Q (.bl b) G | _ => False
def t_is_right_shape : TS3 :=
    (sseq (sif (Tor (Tnot (tb3 (tcall sp_is_sized (acons (tv 0) (acons (tc (.int 1)) (acons (tc (.int 64)) anil)))))) (Tnot (tb3 (tcb bAll (acons (tlc false (iseq (tv 0)) (.n 2) Tyes (tcall sp_is_part (acons (tcb bLen (acons (tv 0) anil)) (acons (tv 2) anil))) [2]) anil))))) (sret (tc (.bl false))) snext)
    (sseq (sfor (irng1 (acons (tcb bLen (acons (tv 0) anil)) anil)) (.n 1) (sif (Tnot (tb3 (tcb bAll (acons (tlc false (iseq (tcall sp_sons_of (acons (tv 0) (acons (tv 1) anil)))) (.n 3) Tyes (t2 eq3 (t2 ix3 (t2 ix3 (tv 0) (tv 3)) (tc (.int 0))) (tv 1)) [3]) anil)))) (sret (tc (.bl false))) snext))
    (sret (tcb bAll (acons (tlc false (irng1 (acons (tcb bLen (acons (tv 0) anil)) anil)) (.n 1) Tyes (tcall sp_comes_out (acons (tv 0) (acons (tv 1) anil))) [1]) anil)))))
set_option maxHeartbeats 4000000 in
theorem vc_is_right_shape (ds : List D) (G : Gp) (Q : QK) (E : EK) (h : sp_is_right_shape ds G Q E) : t_is_right_shape (fnEnds Q E) (start3 N_is_right_shape ds) G := by
  unfold sp_is_right_shape at h
  split at h
  case h_2 => exact h.elim
  rename_i x
  obtain ⟨hk, hq⟩ := h
  have no : ¬ Shp x → dn Q (.bl false) G := fun h => dn_refl (hq false ⟨nof, fun z => absurd z h⟩)
  refine ⟨_, rfl, wks_kn hk, _, rfl, ite_b (fun z => iteT (no ?_)) (fun z => ?_)⟩
  · rintro ⟨rs, rfl, h⟩
    have := siI_tup.mpr (show (1 : Int) ≤ ((rs.map Row.d).length : Int) ∧ ((rs.map Row.d).length : Int) ≤ 64 by rw [List.length_map]; have := h.n1; have := h.n64; omega)
    rw [this] at z; cases z
  obtain ⟨xs, rfl, l1, l2⟩ := siI_of (x := x) (by simpa using z)
  have hk : ∀ y ∈ xs, wkr y = true := List.all_eq_true.mp hk
  let g : D → Bool := fun y => @decide (∃ r : Row, y = r.d ∧ r.ok xs.length ∧ r.two) (Classical.propDecidable _)
  refine ⟨_, rfl, xs, rfl, lc_pure (fun y => some (.bl (g y))) (fun y my G' _ R hR => ?_) (fun _ _ => trivial) (by show _ ≤ 16777216; omega) ?_⟩
  · refine ⟨_, rfl, xs, rfl, _, rfl, xs.length, rfl, hk y my, fun b hb => ?_⟩
    have : b = g y := Bool.eq_iff_iff.mpr (hb.trans (@decide_eq_true_iff (∃ r : Row, y = r.d ∧ r.ok xs.length ∧ r.two) (Classical.propDecidable _)).symm)
    rw [this]; exact hR
  have gm : ∀ {y}, g y = true ↔ ∃ r : Row, y = r.d ∧ r.ok xs.length ∧ r.two := fun {y} => @decide_eq_true_iff _ (Classical.propDecidable _)
  refine ⟨_, _, rfl, bls_map _ _, _, rfl, ite_b (fun z => no ?_) (fun z => ?_)⟩
  · rintro ⟨rs, e, h⟩
    injection e with e
    subst e
    have : ((rs.map Row.d).map g).all id = true := by
      rw [List.all_eq_true]
      intro b hb
      obtain ⟨y, hy, rfl⟩ := List.mem_map.mp hb
      obtain ⟨r, hr, rfl⟩ := List.mem_map.mp hy
      exact gm.mpr ⟨r, rfl, by rw [List.length_map]; exact h.ok r hr, h.two r hr⟩
    rw [this] at z; cases z
  have z : (xs.map g).all id = true := by cases h : (xs.map g).all id <;> simp [h] at z ⊢
  obtain ⟨rs, rfl, ok⟩ := rows_all (n := xs.length) (xs := xs) fun y hy => by
    obtain ⟨r, e, ok, _⟩ := gm.mp (List.all_eq_true.mp z (g y) (List.mem_map_of_mem hy))
    exact ⟨r, e, ok⟩
  have tw : ∀ r ∈ rs, r.two := fun r hr => by
    obtain ⟨q, e, _, tw⟩ := gm.mp (List.all_eq_true.mp z (g r.d) (List.mem_map_of_mem (List.mem_map_of_mem hr)))
    rw [Row.d_inj e]; exact tw
  rw [List.length_map] at ok l1 l2
  have no : ¬ ShpR rs → dn Q (.bl false) G := fun h => no fun z => h (shp_rows.mp z)
  have hq : ∀ b, (b = true ↔ ShpR rs) → dn Q (.bl b) G := fun b h => dn_refl (hq b (h.trans shp_rows.symm))
  refine ⟨_, rfl, _, rfl, _, rfl, (by rw [List.length_map]; omega), (by rw [List.length_map]; omega), ?_⟩
  rw [List.length_map]
  refine forL_inv (fun k σ G' => G' = G ∧ ∃ (y : Option D), (∀ h r, h < k → rs[h]? = some r → sonIs rs h r.l ∧ sonIs rs h r.r) ∧ σ = [some (.tup (rs.map Row.d)), y, none, none]) ?_ ?_ ⟨rfl, none, fun h r z => by omega, rfl⟩
  · rintro k x σ G' N ex ⟨rfl, y, hs, rfl⟩ hN
    obtain ⟨hk, ex⟩ := List.getElem?_eq_some_iff.mp ex
    have hk : k < rs.length := by simpa using hk
    have ex : x = .int k := by simpa using ex.symm
    subst ex
    obtain ⟨r, er⟩ : ∃ r, rs[k]? = some r := ⟨rs[k], by simp [hk]⟩
    have okr := ok r (List.mem_of_getElem? er)
    have sl : ∀ y ∈ sonsL r, ∃ (s : Nat) (q : Row), y = .int s ∧ rs[s]? = some q := fun y hy => by
      obtain ⟨s, e, h⟩ := sonsL_mem hy
      have : s < rs.length := by rcases h with h | h; exact okr.l s h; exact okr.r s h
      exact ⟨s, rs[s], e, by simp [this]⟩
    let f : D → Bool := fun y => match y with
      | .int s => (match rs[s.toNat]? with
        | some q => eqD (pl q.u) (.int k)
        | none => false)
      | _ => false
    refine ⟨trivial, _, rfl, _, rfl, rs, k, r, rfl, rfl, er, ?_⟩
    refine ⟨_, rfl, lc_pure (fun y => some (.bl (f y))) (fun y my G'' _ R hR => ?_) (fun _ _ => trivial) (Nat.le_trans (List.length_filterMap_le _ _) (Nat.le_of_ble_eq_true rfl)) ?_⟩
    · obtain ⟨s, q, rfl, eq⟩ := sl y my
      have e1 : f (.int s) = eqD (pl q.u) (.int k) := by
        show (match rs[(s : Int).toNat]? with | some q => eqD (pl q.u) (.int k) | none => false) = _
        rw [Int.toNat_natCast, eq]
      rw [e1] at hR
      exact ⟨_, rfl, _, rfl, _, _, rfl, at_row eq, _, _, rfl, rfl, _, rfl, (by cases q.u <;> rfl), hR⟩
    have fm : ((sonsL r).map f).all id = true ↔ sonIs rs k r.l ∧ sonIs rs k r.r := by
      rw [List.all_eq_true]
      have fs : ∀ s : Nat, f (.int s) = true ↔ ∃ q, rs[s]? = some q ∧ q.u = some k := fun s => by
        show (match rs[(s : Int).toNat]? with | some q => eqD (pl q.u) (.int k) | none => false) = true ↔ _
        rw [Int.toNat_natCast]
        cases e : rs[s]? with
        | none => simp
        | some q =>
          have : D.int (k : Int) = pl (some k) := rfl
          simp only [this, pl_eqD]
          simp
      constructor
      · intro h
        exact ⟨fun s e => (fs s).mp (h _ (List.mem_map_of_mem (sonsL_in (.inl e)))), fun s e => (fs s).mp (h _ (List.mem_map_of_mem (sonsL_in (.inr e))))⟩
      · rintro ⟨h1, h2⟩ b hb
        obtain ⟨y, hy, rfl⟩ := List.mem_map.mp hb
        obtain ⟨s, rfl, e⟩ := sonsL_mem hy
        rcases e with e | e
        · exact (fs s).mpr (h1 s e)
        · exact (fs s).mpr (h2 s e)
    refine ⟨_, _, rfl, bls_map _ _, _, rfl, ite_b (fun z => no ?_) (fun z => hN _ _ ⟨rfl, _, ?_, rfl⟩)⟩
    · intro h
      have := fm.mpr (h.sons k r er)
      rw [this] at z; cases z
    · have z : ((sonsL r).map f).all id = true := by cases h : ((sonsL r).map f).all id <;> simp [h] at z ⊢
      intro h q hh eq
      by_cases e : h = k
      · subst e
        rw [er] at eq; cases eq
        exact fm.mp z
      · exact hs h q (by omega) eq
  · rintro σ G' ⟨rfl, y, hs, rfl⟩
    have hs : ∀ h r, rs[h]? = some r → sonIs rs h r.l ∧ sonIs rs h r.r := fun h r e => hs h r (by
      have := (List.getElem?_eq_some_iff.mp e).1
      simpa using this) e
    refine ⟨trivial, _, rfl, _, rfl, _, rfl, (by rw [List.length_map]; omega), (by rw [List.length_map]; omega), lc_pure (fun y => match y with | .int i => some (.bl (go rs rs.length i.toNat)) | _ => none) (fun y my G'' _ R hR => ?_) (fun _ _ => trivial) (by rw [List.length_map, List.length_range, List.length_map]; show _ ≤ 16777216; omega) ?_⟩
    · obtain ⟨i, hi, rfl⟩ := List.mem_map.mp my
      rw [List.mem_range, List.length_map] at hi
      have hi : i < rs.length := by omega
      refine ⟨_, rfl, _, rfl, rs, i, rfl, rfl, hi, by omega, ok, ?_⟩
      have hR : R (some (.bl (go rs rs.length (i : Int).toNat))) G'' := hR
      rw [Int.toNat_natCast] at hR
      exact hR
    have e1 : ∀ n : Nat, blsD (((List.range n).map fun (i : Nat) => D.int i).filterMap fun y => match y with | .int i => some (.bl (go rs rs.length i.toNat)) | _ => none) = some ((List.range n).map fun i => go rs rs.length i) := fun n => by
      rw [List.filterMap_map]
      exact bls_map (List.range n) fun i => go rs rs.length i
    refine ⟨_, _, rfl, e1 _, hq _ ?_⟩
    rw [List.all_eq_true]
    constructor
    · intro h
      refine ⟨by omega, by omega, ok, tw, hs, fun i hi => ?_⟩
      exact h _ (List.mem_map.mpr ⟨i, by rw [List.mem_range, List.length_map]; omega, rfl⟩)
    · rintro h b hb
      obtain ⟨i, hi, rfl⟩ := List.mem_map.mp hb
      rw [List.mem_range, List.length_map] at hi
      exact h.go i (by omega)
/-! #### is_shape -/

def sp_is_shape : Sp3 := fun ds G Q E => match ds with | [x] => wks x = true ∧ ∀ b, (b = true ↔ Shp x) → Q (.bl b) G | _ => False
def t_is_shape : TS3 :=
    (sret (tcall sp_is_right_shape (acons (tv 0) anil)))
set_option maxHeartbeats 4000000 in
theorem vc_is_shape (ds : List D) (G : Gp) (Q : QK) (E : EK) (h : sp_is_shape ds G Q E) : t_is_shape (fnEnds Q E) (start3 N_is_shape ds) G := by
  unfold sp_is_shape at h
  split at h
  case h_2 => exact h.elim
  obtain ⟨hk, hq⟩ := h
  exact ⟨_, rfl, hk, fun b hb => dn_refl (hq b hb)⟩
/-! #### law -/

def sp_law : Sp3 := fun ds G Q E => match ds with
  | [.sl xs] => (∀ x ∈ xs, ∃ n : Int, x = .int n) ∧ xs.length ≤ 63 ∧ ∀ G', Q (.bl true) G'
  | _ => False
def t_law : TS3 :=
    (sseq (sset 1 (tcall sp__law_hand (acons (tv 0) anil)))
    (sseq (sset 2 (tcall sp__law_shape (acons (tv 1) (acons (tcall sp__law_many (acons (tv 1) (acons (tc (.int 12)) anil))) anil))))
    (sseq (sif (Tor (Tnot (tb3 (tcall sp__law_is (acons (tcall sp_is_shape (acons (tv 2) anil)) (acons (tc (.bl true)) anil))))) (Tnot (tb3 (tcall sp__law_is_shape (acons (tv 2) anil))))) (sret (tc (.bl false))) snext)
    (sseq (sfor (irng1 (acons (tc (.int 10)) anil)) (.n 3) (sseq (sset 4 (tcall sp__law_bent (acons (tv 1) (acons (tv 2) anil))))
    (sseq (sif (Tnot (tb3 (tcall sp__law_is (acons (tcall sp_is_shape (acons (tv 4) anil)) (acons (tcall sp__law_is_shape (acons (tv 4) anil)) anil))))) (sret (tc (.bl false))) snext)
    (sif (Tand (tb3 (t2 eq3 (tcall sp__law_draw (acons (tv 1) (acons (tc (.int 4)) anil))) (tc (.int 0)))) (tb3 (tcall sp__law_is_shape (acons (tv 4) anil)))) (sset 2 (tv 4)) snext))))
    (sret (t2 (is3 false) (tcall sp_is_shape (acons (tcb (bList false) (acons (tv 2) anil)) anil)) (tc (.bl false))))))))
set_option maxHeartbeats 4000000 in
theorem vc_law (ds : List D) (G : Gp) (Q : QK) (E : EK) (h : sp_law ds G Q E) : t_law (fnEnds Q E) (start3 N_law ds) G := by
  unfold sp_law at h
  split at h
  case h_2 => exact h.elim
  rename_i xs
  obtain ⟨hx, hl, hq⟩ := h
  have kp : ∀ o, kn OC (pl o) = true := fun o => by cases o <;> rfl
  have wsh : ∀ rs : List Row, wks (.tup (rs.map Row.d)) = true := fun rs => List.all_eq_true.mpr fun y hy => by
    obtain ⟨q, _, rfl⟩ := List.mem_map.mp hy
    refine List.all_eq_true.mpr fun y hy => ?_
    simp only [Row.items, List.mem_cons, List.not_mem_nil, or_false] at hy
    rcases hy with rfl | rfl | rfl | rfl | rfl | rfl
    · exact kp _
    · exact kp _
    · exact kp _
    · rfl
    · rfl
    · rfl
  refine ⟨_, rfl, hx, hl, fun p cs i c s t np ok => ?_⟩
  refine ⟨_, rfl, _, rfl, _, _, _, _, _, up_same, ok, by decide, by decide, fun m i c s t m1 m2 ok => ?_⟩
  rw [up_up]
  refine ⟨_, _, _, _, _, m, up_same, ok, rfl, m1, m2, fun rs i c s t sh ok => ?_⟩
  rw [up_up]
  refine ⟨_, rfl, wsh rs, fun b hb => ?_⟩
  have hb : b = true := hb.mpr (shp_rows.mpr sh)
  subst hb
  refine ⟨_, rfl, ite_b (fun z => by cases z) (fun _ => ?_)⟩
  refine ⟨_, rfl, wsh rs, fun b hb => ?_⟩
  have hb : b = true := hb.mpr (shp_rows.mpr sh)
  subst hb
  refine ⟨_, rfl, ite_b (fun z => by cases z) (fun _ => ?_)⟩
  refine ⟨10, rfl, by decide, by decide, forL_inv (fun _ σ G' => ∃ i c s t y3 y4, ∃ rs : List Row, G' = up G p (hnd cs i c s t) ∧ HOk cs i c ∧ ShpR rs ∧ σ = [some (.sl xs), some (.ref p), some (.tup (rs.map Row.d)), y3, y4]) ?_ ?_ ⟨i, c, s, t, _, _, rs, rfl, ok, sh, rfl⟩⟩
  · rintro k x σ G' N ex ⟨i, c, s, t, y3, y4, rs, rfl, ok, sh, rfl⟩ hN
    refine ⟨trivial, _, rfl, _, rfl, _, _, _, _, _, rs, up_same, ok, rfl, sh, fun y i c s t wy ok => ?_⟩
    rw [up_up]
    refine ⟨_, rfl, wy, fun b hb => ?_⟩
    refine ⟨_, rfl, wy, fun b' hb' => ?_⟩
    have eb : b = b' := Bool.eq_iff_iff.mpr (hb.trans hb'.symm)
    subst eb
    refine ⟨_, rfl, ite_b (fun z => absurd z (by simp)) (fun _ => ?_)⟩
    refine ⟨_, rfl, _, _, _, _, _, up_same, ok, by decide, by decide, fun r i c s t r0 r1 ok => ?_⟩
    rw [up_up]
    refine ⟨rfl, _, rfl, ite_b (fun _ => ?_) (fun _ => hN _ _ ⟨_, _, _, _, _, _, _, rfl, ok, sh, rfl⟩)⟩
    refine ⟨_, rfl, wy, fun b' hb' => ⟨_, rfl, ite_b (fun z => ?_) (fun _ => hN _ _ ⟨_, _, _, _, _, _, _, rfl, ok, sh, rfl⟩)⟩⟩
    obtain ⟨rs2, rfl, sh2⟩ := hb'.mp z
    exact ⟨_, rfl, hN _ _ ⟨_, _, _, _, _, _, _, rfl, ok, sh2, rfl⟩⟩
  · rintro σ G' ⟨i, c, s, t, y3, y4, rs, rfl, ok, sh, rfl⟩
    refine ⟨trivial, _, rfl, _, rfl, rfl, fun b hb => ?_⟩
    have hb : b = false := by
      cases b with
      | false => rfl
      | true =>
        obtain ⟨rs2, e, _⟩ := hb.mp rfl
        cases e
    subst hb
    exact dn_refl (hq _)
/-! ### the walk -/
section
variable {P : Program} {w : World} {K : PySem.W.Frag} {mg : Str → Option Value} {base : Heap}
set_option maxHeartbeats 4000000 in
theorem sc__law_draw : FnScope N__law_draw [(Str.ofString "_law_hand_here"), (Str.ofString "_law_many_here")] (defScope s__law_draw) := ⟨rfl, rfl, rfl, by decide +kernel, rfl, by decide +kernel, by decide +kernel⟩
theorem F__law_draw (T : Tx K mg) : Fn3 P w K mg base (Str.ofString "_law_draw") 1 sp__law_draw := by
  obtain ⟨fd, F⟩ := T.d__law_draw
  refine fn3 T.g__law_draw F sc__law_draw (FunD.bindsN F fun _ _ _ _ _ _ us hl => match us, hl with | [_, _], _ => rfl) (fun ds G Q E h => by unfold sp__law_draw at h; split at h <;> first | rfl | exact h.elim) ⟨t__law_draw, fun cdv A outer s H E hr => ?_, vc__law_draw⟩
  have nd := (sc__law_draw).nd
  exact (scons_ (sif_ (tw_ (wand_ (tcm_ (o_eq hr) (ix_ (v_ 0) ci_ (fun _ _ => rfl)) ci_ (nomark _)) (w1and_ (tcm_ o_lt (ix_ (v_ 0) ci_ (fun _ _ => rfl)) (bf_ b_len T.f_len (by decide +kernel) (cons_ (ix_ (v_ 0) ci_ (fun _ _ => rfl)) nil_)) (nomark _))))) (scons_ (set_ 3 (ix_ (ix_ (v_ 0) ci_ (fun _ _ => rfl)) (ix_ (v_ 0) ci_ (fun _ _ => rfl)) (fun _ _ => rfl)) nd)
    (scons_ (setIx_ se_list (v_ 0) ci_ (op_ (o_add false) (ix_ (v_ 0) ci_ (fun _ _ => rfl)) ci_))
    (scons_ (setIx_ se_list (v_ 0) ci_ (op_ o_mod (bt_ b_int T.f_int (by decide +kernel) (cons_ (op_ (o_add false) (op_ (o_add false) (op_ (o_mul false) (ix_ (v_ 0) ci_ (fun _ _ => rfl)) ci_) (op_ (o_mul false) (v_ 3) ci_)) ci_) nil_)) ci_))
    (sone_ (sif_ (tcm_ o_ge (v_ 3) (op_ o_pow ci_ ci_) (nomark _)) (sone_ (setIx_ se_list (v_ 0) ci_ (v_ 3))) snil_))))) snil_)
    (scons_ (sif_ (tcm_ o_gt (ix_ (v_ 0) ci_ (fun _ _ => rfl)) ci_ (nomark _)) (scons_ (set_ 4 (op_ o_mod (bt_ b_int T.f_int (by decide +kernel) (cons_ (ix_ (v_ 0) ci_ (fun _ _ => rfl)) nil_)) (v_ 1)) nd)
    (scons_ (setIx_ se_list (v_ 0) ci_ (op_ o_fdiv (ix_ (v_ 0) ci_ (fun _ _ => rfl)) (v_ 1)))
    (sone_ (ret_ (v_ 4))))) snil_)
    (scons_ (setIx_ se_list (v_ 0) ci_ (op_ (o_add false) (ix_ (v_ 0) ci_ (fun _ _ => rfl)) ci_))
    (scons_ (set_ 2 (op_ o_mod (bt_ b_int T.f_int (by decide +kernel) (cons_ (op_ (o_mul false) (bt_ b_int T.f_int (by decide +kernel) (cons_ (op_ (o_add false) (ix_ (v_ 0) ci_ (fun _ _ => rfl)) (op_ (o_mul false) ci_ (ix_ (v_ 0) ci_ (fun _ _ => rfl)))) nil_)) ci_) nil_)) ci_) nd)
    (scons_ (set_ 2 (op_ o_mod (bt_ b_int T.f_int (by decide +kernel) (cons_ (op_ (o_mul false) (v_ 2) (op_ (o_add false) (op_ o_fdiv (v_ 2) ci_) ci_)) nil_)) ci_) nd)
    (scons_ (set_ 2 (op_ o_mod (bt_ b_int T.f_int (by decide +kernel) (cons_ (op_ (o_mul false) (v_ 2) (op_ (o_add false) (op_ o_fdiv (v_ 2) ci_) ci_)) nil_)) ci_) nd)
    (sone_ (ret_ (op_ o_mod (bt_ b_int T.f_int (by decide +kernel) (cons_ (op_ o_fdiv (v_ 2) ci_) nil_)) (v_ 1))))))))))
set_option maxHeartbeats 4000000 in
theorem sc__law_deep : FnScope N__law_deep [(Str.ofString "_law_hand_here")] (defScope s__law_deep) := ⟨rfl, rfl, rfl, by decide +kernel, rfl, by decide +kernel, by decide +kernel⟩
theorem F__law_deep (T : Tx K mg) : Fn3 P w K mg base (Str.ofString "_law_deep") 2 sp__law_deep := by
  obtain ⟨fd, F⟩ := T.d__law_deep
  refine fn3 T.g__law_deep F sc__law_deep (FunD.bindsN F fun _ _ _ _ _ _ us hl => match us, hl with | [_], _ => rfl) (fun ds G Q E h => by unfold sp__law_deep at h; split at h <;> first | rfl | exact h.elim) ⟨t__law_deep, fun cdv A outer s H E hr => ?_, vc__law_deep⟩
  have nd := (sc__law_deep).nd
  have tk := tk_of (P := P) (w := w) (K := K) (mg := mg) (base := base) (N := N__law_deep) (qual := (Str.ofString "_law_deep")) (scope := defScope s__law_deep) (f := (He.fAd K ((Str.ofString "_law_deep"), none))) (cdv := cdv) (A := A) (outer := outer) (s := s) (H := H) (E := E)
  have pas := pas_of (P := P) (w := w) (K := K) (mg := mg) (base := base) (N := N__law_deep) (qual := (Str.ofString "_law_deep")) (scope := defScope s__law_deep) (f := (He.fAd K ((Str.ofString "_law_deep"), none))) (cdv := cdv) (A := A) (outer := outer) (s := s) (H := H) (E := E)
  exact (scons_ (set_ 1 (ix_ (lst_ false (cons_ cn_ (cons_ cs_ (cons_ (neg_ ci_) (cons_ emp_ nil_))))) (call_ (F__law_draw T) hr (by decide) tk (cons_ (v_ 0) (cons_ ci_ nil_))) (fun _ _ => rfl)) nd)
    (scons_ (for_ (.n 2) pas rfl (irng1_ T.f_range (cons_ (op_ (o_add false) ci_ (call_ (F__law_draw T) hr (by decide) tk (cons_ (v_ 0) (cons_ ci_ nil_)))) nil_)) (tg1_ 2 nd) (sone_ (set_ 1 (ix_ (lst_ false (cons_ (tup_ (cons_ (v_ 1) nil_)) (cons_ (lst_ false (cons_ (v_ 1) nil_)) (cons_ (sl_ false (tup_ (cons_ (v_ 1) (cons_ (v_ 1) nil_))) on_ (os_ ci_)) (cons_ (dic1_ (v_ 1)) nil_))))) (call_ (F__law_draw T) hr (by decide) tk (cons_ (v_ 0) (cons_ ci_ nil_))) (fun _ _ => rfl)) nd)))
    (sone_ (ret_ (v_ 1)))))
set_option maxHeartbeats 4000000 in
theorem sc__law_bent : FnScope N__law_bent [(Str.ofString "_law_hand_here"), (Str.ofString "_law_shape_here")] (defScope s__law_bent) := ⟨rfl, rfl, rfl, by decide +kernel, rfl, by decide +kernel, by decide +kernel⟩
theorem F__law_bent (T : Tx K mg) : Fn3 P w K mg base (Str.ofString "_law_bent") 3 sp__law_bent := by
  obtain ⟨fd, F⟩ := T.d__law_bent
  refine fn3 T.g__law_bent F sc__law_bent (FunD.bindsN F fun _ _ _ _ _ _ us hl => match us, hl with | [_, _], _ => rfl) (fun ds G Q E h => by unfold sp__law_bent at h; split at h <;> first | rfl | exact h.elim) ⟨t__law_bent, fun cdv A outer s H E hr => ?_, vc__law_bent⟩
  have nd := (sc__law_bent).nd
  have tk := tk_of (P := P) (w := w) (K := K) (mg := mg) (base := base) (N := N__law_bent) (qual := (Str.ofString "_law_bent")) (scope := defScope s__law_bent) (f := (He.fAd K ((Str.ofString "_law_bent"), none))) (cdv := cdv) (A := A) (outer := outer) (s := s) (H := H) (E := E)
  exact (scons_ (set_ 2 (call_ (F__law_draw T) hr (by decide) tk (cons_ (v_ 0) (cons_ (bf_ b_len T.f_len (by decide +kernel) (cons_ (v_ 1) nil_)) nil_))) nd)
    (scons_ (set_ 3 (ix_ (v_ 1) (v_ 2) (fun _ _ => rfl)) nd)
    (scons_ (set_ 4 (call_ (F__law_draw T) hr (by decide) tk (cons_ (v_ 0) (cons_ ci_ nil_))) nd)
    (scons_ (sif_ (tcm_ (o_eq hr) (v_ 4) ci_ (nomark _)) (scons_ (set_ 7 (lst_ false (cons_ cn_ (cons_ ci_ (cons_ cs_ (cons_ emp_ (cons_ (tup_ nil_) (cons_ (bt_ (b_list false) T.f_list (by decide +kernel) (cons_ (v_ 1) nil_)) (cons_ (sl_ false (v_ 1) (os_ ci_) on_) (cons_ (op_ (o_add false) (v_ 1) (sl_ false (v_ 1) on_ (os_ ci_))) (cons_ (op_ (o_mul false) (tup_ (cons_ (v_ 3) nil_)) ci_) (cons_ (call_ (F__law_deep T) hr (by decide) tk (cons_ (v_ 0) nil_)) nil_))))))))))) nd)
    (sone_ (ret_ (ix_ (v_ 7) (call_ (F__law_draw T) hr (by decide) tk (cons_ (v_ 0) (cons_ ci_ nil_))) (fun _ _ => rfl))))) snil_)
    (scons_ (sif_ (tcm_ (o_eq hr) (v_ 4) ci_ (nomark _)) (scons_ (set_ 8 (ix_ (lst_ false (cons_ (bt_ (b_list false) T.f_list (by decide +kernel) (cons_ (v_ 3) nil_)) (cons_ (sl_ false (v_ 3) on_ (os_ ci_)) (cons_ (op_ (o_add false) (v_ 3) (tup_ (cons_ ci_ nil_))) (cons_ cn_ (cons_ (tup_ nil_) (cons_ ci_ nil_))))))) (call_ (F__law_draw T) hr (by decide) tk (cons_ (v_ 0) (cons_ ci_ nil_))) (fun _ _ => rfl)) nd)
    (sone_ (ret_ (op_ (o_add false) (op_ (o_add false) (sl_ false (v_ 1) on_ (os_ (v_ 2))) (tup_ (cons_ (v_ 8) nil_))) (sl_ false (v_ 1) (os_ (op_ (o_add false) (v_ 2) ci_)) on_))))) snil_)
    (scons_ (sif_ (tcm_ (o_eq hr) (v_ 4) ci_ (nomark _)) (scons_ (set_ 5 (op_ (o_add false) ci_ (call_ (F__law_draw T) hr (by decide) tk (cons_ (v_ 0) (cons_ ci_ nil_)))) nd)
    (scons_ (set_ 7 (lst_ false (cons_ cn_ (cons_ cb_ (cons_ cb_ (cons_ ci_ (cons_ ci_ (cons_ cs_ (cons_ (tup_ (cons_ ci_ nil_)) (cons_ (neg_ ci_) (cons_ (op_ o_pow ci_ ci_) nil_)))))))))) nd)
    (sone_ (ret_ (op_ (o_add false) (op_ (o_add false) (sl_ false (v_ 1) on_ (os_ (v_ 2))) (tup_ (cons_ (op_ (o_add false) (op_ (o_add false) (sl_ false (v_ 3) on_ (os_ (v_ 5))) (tup_ (cons_ (ix_ (v_ 7) (call_ (F__law_draw T) hr (by decide) tk (cons_ (v_ 0) (cons_ ci_ nil_))) (fun _ _ => rfl)) nil_))) (sl_ false (v_ 3) (os_ (op_ (o_add false) (v_ 5) ci_)) on_)) nil_))) (sl_ false (v_ 1) (os_ (op_ (o_add false) (v_ 2) ci_)) on_)))))) snil_)
    (scons_ (set_ 5 (call_ (F__law_draw T) hr (by decide) tk (cons_ (v_ 0) (cons_ ci_ nil_))) nd)
    (scons_ (set_ 6 (bf_ b_len T.f_len (by decide +kernel) (cons_ (v_ 1) nil_)) nd)
    (scons_ (set_ 7 (lst_ false (cons_ (call_ (F__law_draw T) hr (by decide) tk (cons_ (v_ 0) (cons_ (v_ 6) nil_))) (cons_ (call_ (F__law_draw T) hr (by decide) tk (cons_ (v_ 0) (cons_ (v_ 6) nil_))) (cons_ (v_ 2) (cons_ cn_ (cons_ (v_ 6) (cons_ (neg_ ci_) (cons_ cb_ (cons_ cs_ (cons_ (tup_ (cons_ ci_ nil_)) (cons_ (op_ o_pow ci_ ci_) nil_))))))))))) nd)
    (scons_ (set_ 8 (ix_ (v_ 7) (call_ (F__law_draw T) hr (by decide) tk (cons_ (v_ 0) (cons_ (ix_ (lst_ false (cons_ ci_ (cons_ ci_ nil_))) (call_ (F__law_draw T) hr (by decide) tk (cons_ (v_ 0) (cons_ ci_ nil_))) (fun _ _ => rfl)) nil_))) (fun _ _ => rfl)) nd)
    (scons_ (sif_ (tw_ (wand_ (tcm_ (o_eq hr) (v_ 4) ci_ (nomark _)) (w1and_ (tcm_ o_isnot (ix_ (v_ 3) ci_ (fun _ _ => rfl)) cn_ (nomark _))))) (scons_ (set_ 5 ci_ nd)
    (sone_ (set_ 8 (ix_ (v_ 3) ci_ (fun _ _ => rfl)) nd))) snil_)
    (sone_ (ret_ (op_ (o_add false) (op_ (o_add false) (sl_ false (v_ 1) on_ (os_ (v_ 2))) (tup_ (cons_ (op_ (o_add false) (op_ (o_add false) (sl_ false (v_ 3) on_ (os_ (v_ 5))) (tup_ (cons_ (v_ 8) nil_))) (sl_ false (v_ 3) (os_ (op_ (o_add false) (v_ 5) ci_)) on_)) nil_))) (sl_ false (v_ 1) (os_ (op_ (o_add false) (v_ 2) ci_)) on_)))))))))))))))
set_option maxHeartbeats 4000000 in
theorem sc__law_hand : FnScope N__law_hand [(Str.ofString "_law_script")] (defScope s__law_hand) := ⟨rfl, rfl, rfl, by decide +kernel, rfl, by decide +kernel, by decide +kernel⟩
theorem F__law_hand (T : Tx K mg) : Fn3 P w K mg base (Str.ofString "_law_hand") 1 sp__law_hand := by
  obtain ⟨fd, F⟩ := T.d__law_hand
  refine fn3 T.g__law_hand F sc__law_hand (FunD.bindsN F fun _ _ _ _ _ _ us hl => match us, hl with | [_], _ => rfl) (fun ds G Q E h => by unfold sp__law_hand at h; split at h <;> first | rfl | exact h.elim) ⟨t__law_hand, fun cdv A outer s H E hr => ?_, vc__law_hand⟩
  have nd := (sc__law_hand).nd
  exact (sone_ (ret_ (lst_ true (cons_ (lc_ (own := [((Str.ofString "_law_cell"), 1)]) false (.n 1) rfl nd (iseq_ (sl_ false (v_ 0) on_ (os_ ci_))) (blkOk_by (N := N__law_hand) (sc := (defScope s__law_hand)) (by decide +kernel)) (by decide) (fun _ _ _ _ _ => (tg1_ 1 nd)) (fun _ _ _ _ _ => no_if) (fun _ _ _ _ _ => (bt_ b_int T.f_int (by decide +kernel) (cons_ (v_ 1) nil_)))) (cons_ ci_ (cons_ ci_ (cons_ (op_ (o_add false) ci_ (bf_ b_len T.f_len (by decide +kernel) (cons_ (sl_ false (v_ 0) on_ (os_ ci_)) nil_))) (cons_ ci_ nil_))))))))
set_option maxHeartbeats 4000000 in
theorem sc__law_is : FnScope N__law_is [(Str.ofString "_law_told"), (Str.ofString "_law_due")] (defScope s__law_is) := ⟨rfl, rfl, rfl, by decide +kernel, rfl, by decide +kernel, by decide +kernel⟩
theorem F__law_is (T : Tx K mg) : Fn3 P w K mg base (Str.ofString "_law_is") 1 sp__law_is := by
  obtain ⟨fd, F⟩ := T.d__law_is
  refine fn3 T.g__law_is F sc__law_is (FunD.bindsN F fun _ _ _ _ _ _ us hl => match us, hl with | [_, _], _ => rfl) (fun ds G Q E h => by unfold sp__law_is at h; split at h <;> first | rfl | exact h.elim) ⟨t__law_is, fun cdv A outer s H E hr => ?_, vc__law_is⟩
  have nd := (sc__law_is).nd
  exact (scons_ (sif_ (tv_ (isi2_ T.isf .tup .lst T.f_isinstance T.f_tuple T.f_list (v_ 1))) ssdead_ snil_)
    (sone_ (ret_ (and_ (cm_ (o_eq hr) (isi_ T.f_isinstance (isc_b .bl T.f_bool) (tb_b T.isf .bl) (v_ 0)) (isi_ T.f_isinstance (isc_b .bl T.f_bool) (tb_b T.isf .bl) (v_ 1)) (nomark _)) (one_ (cm_ (o_eq hr) (v_ 0) (v_ 1) (nomark _)))))))
set_option maxHeartbeats 4000000 in
theorem sc__law_is_integer : FnScope N__law_is_integer [(Str.ofString "_law_thing")] (defScope s__law_is_integer) := ⟨rfl, rfl, rfl, by decide +kernel, rfl, by decide +kernel, by decide +kernel⟩
theorem F__law_is_integer (T : Tx K mg) : Fn3 P w K mg base (Str.ofString "_law_is_integer") 1 sp__law_is_integer := by
  obtain ⟨fd, F⟩ := T.d__law_is_integer
  refine fn3 T.g__law_is_integer F sc__law_is_integer (FunD.bindsN F fun _ _ _ _ _ _ us hl => match us, hl with | [_], _ => rfl) (fun ds G Q E h => by unfold sp__law_is_integer at h; split at h <;> first | rfl | exact h.elim) ⟨t__law_is_integer, fun cdv A outer s H E hr => ?_, vc__law_is_integer⟩
  have nd := (sc__law_is_integer).nd
  exact (sone_ (ret_ (and_ (isi_ T.f_isinstance (isc_b .int T.f_int) (tb_b T.isf .int) (v_ 0)) (one_ (not_ (isi_ T.f_isinstance (isc_b .bl T.f_bool) (tb_b T.isf .bl) (v_ 0)))))))
set_option maxHeartbeats 4000000 in
theorem sc__law_number : FnScope N__law_number [(Str.ofString "_law_thing"), (Str.ofString "_law_least"), (Str.ofString "_law_most")] (defScope s__law_number) := ⟨rfl, rfl, rfl, by decide +kernel, rfl, by decide +kernel, by decide +kernel⟩
theorem F__law_number (T : Tx K mg) : Fn3 P w K mg base (Str.ofString "_law_number") 1 sp__law_number := by
  obtain ⟨fd, F⟩ := T.d__law_number
  refine fn3 T.g__law_number F sc__law_number (FunD.bindsN F fun _ _ _ _ _ _ us hl => match us, hl with | [_, _, _], _ => rfl) (fun ds G Q E h => by unfold sp__law_number at h; split at h <;> first | rfl | exact h.elim) ⟨t__law_number, fun cdv A outer s H E hr => ?_, vc__law_number⟩
  have nd := (sc__law_number).nd
  exact (sone_ (ret_ (and_ (isi_ T.f_isinstance (isc_b .int T.f_int) (tb_b T.isf .int) (v_ 0)) (and_ (not_ (isi_ T.f_isinstance (isc_b .bl T.f_bool) (tb_b T.isf .bl) (v_ 0))) (one_ (ch_ o_le o_le (v_ 1) (v_ 0) (v_ 2)))))))
set_option maxHeartbeats 4000000 in
theorem sc__law_is_shape : FnScope N__law_is_shape [(Str.ofString "_law_thing")] (defScope s__law_is_shape) := ⟨rfl, rfl, rfl, by decide +kernel, rfl, by decide +kernel, by decide +kernel⟩
theorem F__law_is_shape (T : Tx K mg) : Fn3 P w K mg base (Str.ofString "_law_is_shape") 2 sp__law_is_shape := by
  obtain ⟨fd, F⟩ := T.d__law_is_shape
  refine fn3 T.g__law_is_shape F sc__law_is_shape (FunD.bindsN F fun _ _ _ _ _ _ us hl => match us, hl with | [_], _ => rfl) (fun ds G Q E h => by unfold sp__law_is_shape at h; split at h <;> first | rfl | exact h.elim) ⟨t__law_is_shape, fun cdv A outer s H E hr => ?_, vc__law_is_shape⟩
  have nd := (sc__law_is_shape).nd
  have tk := tk_of (P := P) (w := w) (K := K) (mg := mg) (base := base) (N := N__law_is_shape) (qual := (Str.ofString "_law_is_shape")) (scope := defScope s__law_is_shape) (f := (He.fAd K ((Str.ofString "_law_is_shape"), none))) (cdv := cdv) (A := A) (outer := outer) (s := s) (H := H) (E := E)
  have pas := pas_of (P := P) (w := w) (K := K) (mg := mg) (base := base) (N := N__law_is_shape) (qual := (Str.ofString "_law_is_shape")) (scope := defScope s__law_is_shape) (f := (He.fAd K ((Str.ofString "_law_is_shape"), none))) (cdv := cdv) (A := A) (outer := outer) (s := s) (H := H) (E := E)
  exact (scons_ (sif_ (tw_ (wor_ (tnot_ (tv_ (isi_ T.f_isinstance (isc_b .tup T.f_tuple) (tb_b T.isf .tup) (v_ 0)))) (w1or_ (tnot_ (tch_ o_le o_le ci_ (bf_ b_len T.f_len (by decide +kernel) (cons_ (v_ 0) nil_)) ci_))))) (sone_ (ret_ cb_)) snil_)
    (scons_ (set_ 1 (bf_ b_len T.f_len (by decide +kernel) (cons_ (v_ 0) nil_)) nd)
    (scons_ (for_ (.n 2) pas rfl (iseq_ (v_ 0)) (tg1_ 2 nd) (scons_ (sif_ (tw_ (wor_ (tnot_ (tv_ (isi_ T.f_isinstance (isc_b .tup T.f_tuple) (tb_b T.isf .tup) (v_ 2)))) (wor_ (tcm_ (o_ne hr) (bf_ b_len T.f_len (by decide +kernel) (cons_ (v_ 2) nil_)) ci_ (nomark _)) (w1or_ (tnot_ (tv_ (isi_ T.f_isinstance (isc_b .bl T.f_bool) (tb_b T.isf .bl) (ix_ (v_ 2) ci_ (fun _ _ => rfl))))))))) (sone_ (ret_ cb_)) snil_)
    (scons_ (sif_ (tnot_ (tv_ (bf_ (b_all rfl) T.f_all (by decide +kernel) (cons_ (lc_ (own := [((Str.ofString "_law_part"), 9)]) false (.n 9) rfl nd (iseq_ (sl_ false (v_ 2) on_ (os_ ci_))) (blkOk_by (N := N__law_is_shape) (sc := (defScope s__law_is_shape)) (by decide +kernel)) (by decide) (fun _ _ _ _ _ => (tg1_ 9 nd)) (fun _ _ _ _ _ => no_if) (fun _ _ _ _ _ => (or_ (cm_ o_is (v_ 9) cn_ (nomark _)) (one_ (call_ (F__law_number T) hr (by decide) takes_none5 (cons_ (v_ 9) (cons_ ci_ (cons_ (op_ o_sub (v_ 1) ci_) nil_)))))))) nil_)))) (sone_ (ret_ cb_)) snil_)
    (sone_ (sif_ (tw_ (wor_ (tnot_ (tv_ (call_ (F__law_is_integer T) hr (by decide) tk (cons_ (ix_ (v_ 2) ci_ (fun _ _ => rfl)) nil_)))) (w1or_ (tnot_ (tv_ (call_ (F__law_is_integer T) hr (by decide) tk (cons_ (ix_ (v_ 2) ci_ (fun _ _ => rfl)) nil_))))))) (sone_ (ret_ cb_)) snil_)))))
    (scons_ (for_ (.n 3) pas rfl (irng1_ T.f_range (cons_ (v_ 1) nil_)) (tg1_ 3 nd) (scons_ (unp_ [7, 8] (sl_ false (ix_ (v_ 0) (v_ 3) (fun _ _ => rfl)) (os_ ci_) (os_ ci_)) (tgt_ rfl (pgs_cons (tg1_ 7 nd) (pgs_cons (tg1_ 8 nd) pgs_nil))))
    (scons_ (sif_ (tw_ (wand_ (tcm_ o_isnot (v_ 7) cn_ (nomark _)) (w1and_ (tcm_ (o_eq hr) (v_ 7) (v_ 8) (nomark _))))) (sone_ (ret_ cb_)) snil_)
    (scons_ (for_ (.n 4) pas rfl (iseq_ (lst_ false (cons_ (v_ 7) (cons_ (v_ 8) nil_)))) (tg1_ 4 nd) (sone_ (sif_ (tw_ (wand_ (tcm_ o_isnot (v_ 4) cn_ (nomark _)) (w1and_ (tcm_ (o_ne hr) (ix_ (ix_ (v_ 0) (v_ 4) (fun _ _ => rfl)) ci_ (fun _ _ => rfl)) (v_ 3) (nomark _))))) (sone_ (ret_ cb_)) snil_)))
    (scons_ (set_ 5 (v_ 3) nd)
    (scons_ (for_ (.n 6) pas rfl (irng1_ T.f_range (cons_ (v_ 1) nil_)) (tg1_ 6 nd) (sone_ (sif_ (tcm_ o_isnot (v_ 5) cn_ (nomark _)) (sone_ (set_ 5 (ix_ (ix_ (v_ 0) (v_ 5) (fun _ _ => rfl)) ci_ (fun _ _ => rfl)) nd)) snil_)))
    (sone_ (sif_ (tcm_ o_isnot (v_ 5) cn_ (nomark _)) (sone_ (ret_ cb_)) snil_))))))))
    (sone_ (ret_ cb_))))))
set_option maxHeartbeats 4000000 in
theorem sc__law_many : FnScope N__law_many [(Str.ofString "_law_hand_here"), (Str.ofString "_law_most")] (defScope s__law_many) := ⟨rfl, rfl, rfl, by decide +kernel, rfl, by decide +kernel, by decide +kernel⟩
theorem F__law_many (T : Tx K mg) : Fn3 P w K mg base (Str.ofString "_law_many") 2 sp__law_many := by
  obtain ⟨fd, F⟩ := T.d__law_many
  refine fn3 T.g__law_many F sc__law_many (FunD.bindsN F fun _ _ _ _ _ _ us hl => match us, hl with | [_, _], _ => rfl) (fun ds G Q E h => by unfold sp__law_many at h; split at h <;> first | rfl | exact h.elim) ⟨t__law_many, fun cdv A outer s H E hr => ?_, vc__law_many⟩
  have nd := (sc__law_many).nd
  have tk := tk_of (P := P) (w := w) (K := K) (mg := mg) (base := base) (N := N__law_many) (qual := (Str.ofString "_law_many")) (scope := defScope s__law_many) (f := (He.fAd K ((Str.ofString "_law_many"), none))) (cdv := cdv) (A := A) (outer := outer) (s := s) (H := H) (E := E)
  exact (scons_ (sif_ (tcm_ (o_eq hr) (call_ (F__law_draw T) hr (by decide) tk (cons_ (v_ 0) (cons_ ci_ nil_))) ci_ (nomark _)) (sone_ (ret_ (ix_ (lst_ false (cons_ ci_ (cons_ ci_ (cons_ ci_ (cons_ ci_ (cons_ ci_ nil_)))))) (call_ (F__law_draw T) hr (by decide) tk (cons_ (v_ 0) (cons_ ci_ nil_))) (fun _ _ => rfl)))) snil_)
    (sone_ (ret_ (op_ (o_add false) ci_ (call_ (F__law_draw T) hr (by decide) tk (cons_ (v_ 0) (cons_ (v_ 1) nil_)))))))
set_option maxHeartbeats 4000000 in
theorem sc__law_house : FnScope N__law_house [(Str.ofString "_law_up"), (Str.ofString "_law_value_here")] (defScope s__law_house) := ⟨rfl, rfl, rfl, by decide +kernel, rfl, by decide +kernel, by decide +kernel⟩
theorem F__law_house (T : Tx K mg) : Fn3 P w K mg base (Str.ofString "_law_house") 1 sp__law_house := by
  obtain ⟨fd, F⟩ := T.d__law_house
  refine fn3 T.g__law_house F sc__law_house (FunD.bindsN F fun _ _ _ _ _ _ us hl => match us, hl with | [_, _], _ => rfl) (fun ds G Q E h => by unfold sp__law_house at h; split at h <;> first | rfl | exact h.elim) ⟨t__law_house, fun cdv A outer s H E hr => ?_, vc__law_house⟩
  have nd := (sc__law_house).nd
  exact (sone_ (ret_ (lst_ true (cons_ (v_ 0) (cons_ cn_ (cons_ cn_ (cons_ cb_ (cons_ ci_ (cons_ (v_ 1) nil_)))))))))
set_option maxHeartbeats 4000000 in
theorem sc__law_shuffled : FnScope N__law_shuffled [(Str.ofString "_law_hand_here"), (Str.ofString "_law_many_here")] (defScope s__law_shuffled) := ⟨rfl, rfl, rfl, by decide +kernel, rfl, by decide +kernel, by decide +kernel⟩
theorem F__law_shuffled (T : Tx K mg) : Fn3 P w K mg base (Str.ofString "_law_shuffled") 2 sp__law_shuffled := by
  obtain ⟨fd, F⟩ := T.d__law_shuffled
  refine fn3 T.g__law_shuffled F sc__law_shuffled (FunD.bindsN F fun _ _ _ _ _ _ us hl => match us, hl with | [_, _], _ => rfl) (fun ds G Q E h => by unfold sp__law_shuffled at h; split at h <;> first | rfl | exact h.elim) ⟨t__law_shuffled, fun cdv A outer s H E hr => ?_, vc__law_shuffled⟩
  have nd := (sc__law_shuffled).nd
  have tk := tk_of (P := P) (w := w) (K := K) (mg := mg) (base := base) (N := N__law_shuffled) (qual := (Str.ofString "_law_shuffled")) (scope := defScope s__law_shuffled) (f := (He.fAd K ((Str.ofString "_law_shuffled"), none))) (cdv := cdv) (A := A) (outer := outer) (s := s) (H := H) (E := E)
  have pas := pas_of (P := P) (w := w) (K := K) (mg := mg) (base := base) (N := N__law_shuffled) (qual := (Str.ofString "_law_shuffled")) (scope := defScope s__law_shuffled) (f := (He.fAd K ((Str.ofString "_law_shuffled"), none))) (cdv := cdv) (A := A) (outer := outer) (s := s) (H := H) (E := E)
  exact (scons_ (set_ 2 (lrg_ true rfl T.f_list T.f_range (v_ 1)) nd)
    (scons_ (for_ (.n 3) pas rfl (irng1_ T.f_range (cons_ (v_ 1) nil_)) (tg1_ 3 nd) (scons_ (set_ 4 (op_ (o_add false) (v_ 3) (call_ (F__law_draw T) hr (by decide) tk (cons_ (v_ 0) (cons_ (op_ o_sub (v_ 1) (v_ 3)) nil_)))) nd)
    (sone_ (swp_ rfl se_list se_list (v_ 2) (v_ 3) (v_ 2) (v_ 4) (tup_ (cons_ (ix_ (v_ 2) (v_ 4) (fun _ _ => rfl)) (cons_ (ix_ (v_ 2) (v_ 3) (fun _ _ => rfl)) nil_)))))))
    (sone_ (ret_ (fz_ (v_ 2))))))
set_option maxHeartbeats 4000000 in
theorem sc__law_value : FnScope N__law_value [(Str.ofString "_law_hand_here")] (defScope s__law_value) := ⟨rfl, rfl, rfl, by decide +kernel, rfl, by decide +kernel, by decide +kernel⟩
theorem F__law_value (T : Tx K mg) : Fn3 P w K mg base (Str.ofString "_law_value") 2 sp__law_value := by
  obtain ⟨fd, F⟩ := T.d__law_value
  refine fn3 T.g__law_value F sc__law_value (FunD.bindsN F fun _ _ _ _ _ _ us hl => match us, hl with | [_], _ => rfl) (fun ds G Q E h => by unfold sp__law_value at h; split at h <;> first | rfl | exact h.elim) ⟨t__law_value, fun cdv A outer s H E hr => ?_, vc__law_value⟩
  have nd := (sc__law_value).nd
  have tk := tk_of (P := P) (w := w) (K := K) (mg := mg) (base := base) (N := N__law_value) (qual := (Str.ofString "_law_value")) (scope := defScope s__law_value) (f := (He.fAd K ((Str.ofString "_law_value"), none))) (cdv := cdv) (A := A) (outer := outer) (s := s) (H := H) (E := E)
  exact (scons_ (set_ 1 (call_ (F__law_draw T) hr (by decide) tk (cons_ (v_ 0) (cons_ ci_ nil_))) nd)
    (scons_ (sif_ (tcm_ (o_eq hr) (v_ 1) ci_ (nomark _)) (sone_ (ret_ (ix_ (lst_ false (cons_ (op_ o_pow ci_ ci_) (cons_ (op_ o_sub ci_ (op_ o_pow ci_ ci_)) (cons_ (op_ o_pow ci_ ci_) (cons_ (neg_ ci_) (cons_ ci_ (cons_ (op_ o_pow ci_ ci_) nil_))))))) (call_ (F__law_draw T) hr (by decide) tk (cons_ (v_ 0) (cons_ ci_ nil_))) (fun _ _ => rfl)))) snil_)
    (sone_ (ret_ (op_ o_sub (call_ (F__law_draw T) hr (by decide) tk (cons_ (v_ 0) (cons_ ci_ nil_))) ci_)))))
set_option maxHeartbeats 4000000 in
theorem sc__law_shape : FnScope N__law_shape [(Str.ofString "_law_hand_here"), (Str.ofString "_law_many_here")] (defScope s__law_shape) := ⟨rfl, rfl, rfl, by decide +kernel, rfl, by decide +kernel, by decide +kernel⟩
theorem F__law_shape (T : Tx K mg) : Fn3 P w K mg base (Str.ofString "_law_shape") 3 sp__law_shape := by
  obtain ⟨fd, F⟩ := T.d__law_shape
  refine fn3 T.g__law_shape F sc__law_shape (FunD.bindsN F fun _ _ _ _ _ _ us hl => match us, hl with | [_, _], _ => rfl) (fun ds G Q E h => by unfold sp__law_shape at h; split at h <;> first | rfl | exact h.elim) ⟨t__law_shape, fun cdv A outer s H E hr => ?_, vc__law_shape⟩
  have nd := (sc__law_shape).nd
  have tk := tk_of (P := P) (w := w) (K := K) (mg := mg) (base := base) (N := N__law_shape) (qual := (Str.ofString "_law_shape")) (scope := defScope s__law_shape) (f := (He.fAd K ((Str.ofString "_law_shape"), none))) (cdv := cdv) (A := A) (outer := outer) (s := s) (H := H) (E := E)
  have pas := pas_of (P := P) (w := w) (K := K) (mg := mg) (base := base) (N := N__law_shape) (qual := (Str.ofString "_law_shape")) (scope := defScope s__law_shape) (f := (He.fAd K ((Str.ofString "_law_shape"), none))) (cdv := cdv) (A := A) (outer := outer) (s := s) (H := H) (E := E)
  exact (scons_ (set_ 2 (call_ (F__law_shuffled T) hr (by decide) tk (cons_ (v_ 0) (cons_ (v_ 1) nil_))) nd)
    (scons_ (setLc_ (own := [((Str.ofString "_law_house_here"), 7)]) 3 false (.n 7) rfl nd (irng1_ T.f_range (cons_ (v_ 1) nil_)) (blkOk_by (N := N__law_shape) (sc := defScope s__law_shape) (by decide +kernel)) (by decide) (fun _ _ _ _ _ => (tg1_ 7 nd)) (fun _ _ _ _ _ => no_if) (fun _ _ _ _ _ => (call_ (F__law_house T) hr (by decide) takes_none5 (cons_ cn_ (cons_ (call_ (F__law_value T) hr (by decide) takes_none5 (cons_ (v_ 0) nil_)) nil_)))) (sw_true rfl rfl rfl (by decide +kernel)))
    (scons_ (set_ 4 (call_ (F__law_draw T) hr (by decide) tk (cons_ (v_ 0) (cons_ ci_ nil_))) nd)
    (scons_ (for_ (.n 5) pas rfl (irng1_ T.f_range (cons_ (v_ 1) nil_)) (tg1_ 5 nd) (scons_ (set_ 6 (ix_ (v_ 3) (ix_ (v_ 2) (v_ 5) (fun _ _ => rfl)) (fun _ _ => rfl)) nd)
    (scons_ (setIx_ se_list (v_ 6) ci_ (cm_ (o_eq hr) (call_ (F__law_draw T) hr (by decide) tk (cons_ (v_ 0) (cons_ ci_ nil_))) ci_ (nomark _)))
    (scons_ (setIx_ se_list (v_ 6) ci_ (ix_ (lst_ false (cons_ ci_ (cons_ ci_ (cons_ ci_ (cons_ ci_ (cons_ (neg_ ci_) (cons_ (op_ o_pow ci_ ci_) nil_))))))) (call_ (F__law_draw T) hr (by decide) tk (cons_ (v_ 0) (cons_ ci_ nil_))) (fun _ _ => rfl)))
    (sone_ (sif_ (tcm_ o_gt (v_ 5) ci_ (nomark _)) (scons_ (set_ 8 (ix_ (v_ 2) (op_ o_sub (op_ o_sub (v_ 5) ci_) (call_ (F__law_draw T) hr (by decide) tk (cons_ (v_ 0) (cons_ (ix_ (lst_ false (cons_ (v_ 5) (cons_ (bf_ (b_min2 rfl) T.f_min (by decide +kernel) (cons_ (v_ 5) (cons_ ci_ nil_))) (cons_ ci_ (cons_ (v_ 5) nil_))))) (v_ 4) (fun _ _ => rfl)) nil_)))) (fun _ _ => rfl)) nd)
    (scons_ (set_ 9 (ix_ (v_ 3) (v_ 8) (fun _ _ => rfl)) nd)
    (scons_ (set_ 10 (op_ (o_add false) ci_ (call_ (F__law_draw T) hr (by decide) tk (cons_ (v_ 0) (cons_ ci_ nil_)))) nd)
    (sone_ (sif_ (tcm_ o_gt (call_ (F__law_draw T) hr (by decide) tk (cons_ (v_ 0) (cons_ ci_ nil_))) ci_ (nomark _)) (scons_ (setIx_ se_list (v_ 6) ci_ (v_ 8))
    (sone_ (sif_ (tw_ (wand_ (tcm_ o_is (ix_ (v_ 9) (v_ 10) (fun _ _ => rfl)) cn_ (nomark _)) (w1and_ (tcm_ o_gt (call_ (F__law_draw T) hr (by decide) tk (cons_ (v_ 0) (cons_ ci_ nil_))) ci_ (nomark _))))) (sone_ (setIx_ se_list (v_ 9) (v_ 10) (ix_ (v_ 2) (v_ 5) (fun _ _ => rfl)))) snil_))) snil_))))) snil_))))))
    (sone_ (ret_ (bt_ b_tup T.f_tuple (by decide +kernel) (cons_ (lc_ (own := [((Str.ofString "_law_row"), 11)]) false (.n 11) rfl nd (iseq_ (v_ 3)) (blkOk_by (N := N__law_shape) (sc := (defScope s__law_shape)) (by decide +kernel)) (by decide) (fun _ _ _ _ _ => (tg1_ 11 nd)) (fun _ _ _ _ _ => no_if) (fun _ _ _ _ _ => (bt_ b_tup T.f_tuple (by decide +kernel) (cons_ (v_ 11) nil_)))) nil_))))))))
set_option maxHeartbeats 4000000 in
theorem sc_comes_out : FnScope N_comes_out [(Str.ofString "shape"), (Str.ofString "house")] (defScope s_comes_out) := ⟨rfl, rfl, rfl, by decide +kernel, rfl, by decide +kernel, by decide +kernel⟩
theorem F_comes_out (T : Tx K mg) : Fn3 P w K mg base (Str.ofString "comes_out") 1 sp_comes_out := by
  obtain ⟨fd, F⟩ := T.d_comes_out
  refine fn3 T.g_comes_out F sc_comes_out (FunD.bindsN F fun _ _ _ _ _ _ us hl => match us, hl with | [_, _], _ => rfl) (fun ds G Q E h => by unfold sp_comes_out at h; split at h <;> first | rfl | exact h.elim) ⟨t_comes_out, fun cdv A outer s H E hr => ?_, vc_comes_out⟩
  have nd := (sc_comes_out).nd
  have pas := pas_of (P := P) (w := w) (K := K) (mg := mg) (base := base) (N := N_comes_out) (qual := (Str.ofString "comes_out")) (scope := defScope s_comes_out) (f := (He.fAd K ((Str.ofString "comes_out"), none))) (cdv := cdv) (A := A) (outer := outer) (s := s) (H := H) (E := E)
  exact (scons_ (set_ 2 (v_ 1) nd)
    (scons_ (for_ (.n 3) pas rfl (irng1_ T.f_range (cons_ (bf_ b_len T.f_len (by decide +kernel) (cons_ (v_ 0) nil_)) nil_)) (tg1_ 3 nd) (scons_ (set_ 2 (ix_ (ix_ (v_ 0) (v_ 2) (fun _ _ => rfl)) (cgi_ T.i_UP) (fun _ _ => rfl)) nd)
    (sone_ (sif_ (tcm_ o_is (v_ 2) cn_ (nomark _)) (sone_ (ret_ cb_)) snil_))))
    (sone_ (ret_ cb_))))
set_option maxHeartbeats 4000000 in
theorem sc_is_integer : FnScope N_is_integer [(Str.ofString "thing")] (defScope s_is_integer) := ⟨rfl, rfl, rfl, by decide +kernel, rfl, by decide +kernel, by decide +kernel⟩
theorem F_is_integer (T : Tx K mg) : Fn3 P w K mg base (Str.ofString "is_integer") 1 sp_is_integer := by
  obtain ⟨fd, F⟩ := T.d_is_integer
  refine fn3 T.g_is_integer F sc_is_integer (FunD.bindsN F fun _ _ _ _ _ _ us hl => match us, hl with | [_], _ => rfl) (fun ds G Q E h => by unfold sp_is_integer at h; split at h <;> first | rfl | exact h.elim) ⟨t_is_integer, fun cdv A outer s H E hr => ?_, vc_is_integer⟩
  have nd := (sc_is_integer).nd
  exact (sone_ (ret_ (and_ (isi_ T.f_isinstance (isc_b .int T.f_int) (tb_b T.isf .int) (v_ 0)) (one_ (not_ (isi_ T.f_isinstance (isc_b .bl T.f_bool) (tb_b T.isf .bl) (v_ 0)))))))
set_option maxHeartbeats 4000000 in
theorem sc_is_within : FnScope N_is_within [(Str.ofString "thing"), (Str.ofString "least"), (Str.ofString "most")] (defScope s_is_within) := ⟨rfl, rfl, rfl, by decide +kernel, rfl, by decide +kernel, by decide +kernel⟩
theorem F_is_within (T : Tx K mg) : Fn3 P w K mg base (Str.ofString "is_within") 2 sp_is_within := by
  obtain ⟨fd, F⟩ := T.d_is_within
  refine fn3 T.g_is_within F sc_is_within (FunD.bindsN F fun _ _ _ _ _ _ us hl => match us, hl with | [_, _, _], _ => rfl) (fun ds G Q E h => by unfold sp_is_within at h; split at h <;> first | rfl | exact h.elim) ⟨t_is_within, fun cdv A outer s H E hr => ?_, vc_is_within⟩
  have nd := (sc_is_within).nd
  have tk := tk_of (P := P) (w := w) (K := K) (mg := mg) (base := base) (N := N_is_within) (qual := (Str.ofString "is_within")) (scope := defScope s_is_within) (f := (He.fAd K ((Str.ofString "is_within"), none))) (cdv := cdv) (A := A) (outer := outer) (s := s) (H := H) (E := E)
  exact (sone_ (ret_ (and_ (call_ (F_is_integer T) hr (by decide) tk (cons_ (v_ 0) nil_)) (one_ (ch_ o_le o_le (v_ 1) (v_ 0) (v_ 2))))))
set_option maxHeartbeats 4000000 in
theorem sc_is_below : FnScope N_is_below [(Str.ofString "thing"), (Str.ofString "many")] (defScope s_is_below) := ⟨rfl, rfl, rfl, by decide +kernel, rfl, by decide +kernel, by decide +kernel⟩
theorem F_is_below (T : Tx K mg) : Fn3 P w K mg base (Str.ofString "is_below") 3 sp_is_below := by
  obtain ⟨fd, F⟩ := T.d_is_below
  refine fn3 T.g_is_below F sc_is_below (FunD.bindsN F fun _ _ _ _ _ _ us hl => match us, hl with | [_, _], _ => rfl) (fun ds G Q E h => by unfold sp_is_below at h; split at h <;> first | rfl | exact h.elim) ⟨t_is_below, fun cdv A outer s H E hr => ?_, vc_is_below⟩
  have nd := (sc_is_below).nd
  have tk := tk_of (P := P) (w := w) (K := K) (mg := mg) (base := base) (N := N_is_below) (qual := (Str.ofString "is_below")) (scope := defScope s_is_below) (f := (He.fAd K ((Str.ofString "is_below"), none))) (cdv := cdv) (A := A) (outer := outer) (s := s) (H := H) (E := E)
  exact (sone_ (ret_ (call_ (F_is_within T) hr (by decide) tk (cons_ (v_ 0) (cons_ ci_ (cons_ (op_ o_sub (v_ 1) ci_) nil_))))))
set_option maxHeartbeats 4000000 in
theorem sc_is_place : FnScope N_is_place [(Str.ofString "many"), (Str.ofString "thing")] (defScope s_is_place) := ⟨rfl, rfl, rfl, by decide +kernel, rfl, by decide +kernel, by decide +kernel⟩
theorem F_is_place (T : Tx K mg) : Fn3 P w K mg base (Str.ofString "is_place") 4 sp_is_place := by
  obtain ⟨fd, F⟩ := T.d_is_place
  refine fn3 T.g_is_place F sc_is_place (FunD.bindsN F fun _ _ _ _ _ _ us hl => match us, hl with | [_, _], _ => rfl) (fun ds G Q E h => by unfold sp_is_place at h; split at h <;> first | rfl | exact h.elim) ⟨t_is_place, fun cdv A outer s H E hr => ?_, vc_is_place⟩
  have nd := (sc_is_place).nd
  have tk := tk_of (P := P) (w := w) (K := K) (mg := mg) (base := base) (N := N_is_place) (qual := (Str.ofString "is_place")) (scope := defScope s_is_place) (f := (He.fAd K ((Str.ofString "is_place"), none))) (cdv := cdv) (A := A) (outer := outer) (s := s) (H := H) (E := E)
  exact (sone_ (ret_ (or_ (cm_ o_is (v_ 1) cn_ (nomark _)) (one_ (call_ (F_is_below T) hr (by decide) tk (cons_ (v_ 1) (cons_ (v_ 0) nil_)))))))
set_option maxHeartbeats 4000000 in
theorem sc_is_sized : FnScope N_is_sized [(Str.ofString "thing"), (Str.ofString "least"), (Str.ofString "most")] (defScope s_is_sized) := ⟨rfl, rfl, rfl, by decide +kernel, rfl, by decide +kernel, by decide +kernel⟩
theorem F_is_sized (T : Tx K mg) : Fn3 P w K mg base (Str.ofString "is_sized") 1 sp_is_sized := by
  obtain ⟨fd, F⟩ := T.d_is_sized
  refine fn3 T.g_is_sized F sc_is_sized (FunD.bindsN F fun _ _ _ _ _ _ us hl => match us, hl with | [_, _, _], _ => rfl) (fun ds G Q E h => by unfold sp_is_sized at h; split at h <;> first | rfl | exact h.elim) ⟨t_is_sized, fun cdv A outer s H E hr => ?_, vc_is_sized⟩
  have nd := (sc_is_sized).nd
  exact (sone_ (ret_ (and_ (isi_ T.f_isinstance (isc_b .tup T.f_tuple) (tb_b T.isf .tup) (v_ 0)) (one_ (ch_ o_le o_le (v_ 1) (bf_ b_len T.f_len (by decide +kernel) (cons_ (v_ 0) nil_)) (v_ 2))))))
set_option maxHeartbeats 4000000 in
theorem sc_is_part : FnScope N_is_part [(Str.ofString "many"), (Str.ofString "thing")] (defScope s_is_part) := ⟨rfl, rfl, rfl, by decide +kernel, rfl, by decide +kernel, by decide +kernel⟩
theorem F_is_part (T : Tx K mg) : Fn3 P w K mg base (Str.ofString "is_part") 5 sp_is_part := by
  obtain ⟨fd, F⟩ := T.d_is_part
  refine fn3 T.g_is_part F sc_is_part (FunD.bindsN F fun _ _ _ _ _ _ us hl => match us, hl with | [_, _], _ => rfl) (fun ds G Q E h => by unfold sp_is_part at h; split at h <;> first | rfl | exact h.elim) ⟨t_is_part, fun cdv A outer s H E hr => ?_, vc_is_part⟩
  have nd := (sc_is_part).nd
  have tk := tk_of (P := P) (w := w) (K := K) (mg := mg) (base := base) (N := N_is_part) (qual := (Str.ofString "is_part")) (scope := defScope s_is_part) (f := (He.fAd K ((Str.ofString "is_part"), none))) (cdv := cdv) (A := A) (outer := outer) (s := s) (H := H) (E := E)
  exact (scons_ (sif_ (tw_ (wor_ (tnot_ (tv_ (call_ (F_is_sized T) hr (by decide) tk (cons_ (v_ 1) (cons_ (cgi_ T.i_PARTS) (cons_ (cgi_ T.i_PARTS) nil_)))))) (w1or_ (tnot_ (tv_ (bf_ (b_all rfl) T.f_all (by decide +kernel) (cons_ (lc_ (own := [((Str.ofString "item"), 2)]) false (.n 2) rfl nd (iseq_ (sl_ false (v_ 1) on_ (os_ (cgi_ T.i_TURNED)))) (blkOk_by (N := N_is_part) (sc := (defScope s_is_part)) (by decide +kernel)) (by decide) (fun _ _ _ _ _ => (tg1_ 2 nd)) (fun _ _ _ _ _ => no_if) (fun _ _ _ _ _ => (call_ (F_is_place T) hr (by decide) takes_none5 (cons_ (v_ 0) (cons_ (v_ 2) nil_))))) nil_))))))) (sone_ (ret_ cb_)) snil_)
    (scons_ (sif_ (tw_ (wand_ (tcm_ o_isnot (ix_ (v_ 1) (cgi_ T.i_LEFT) (fun _ _ => rfl)) cn_ (nomark _)) (w1and_ (tcm_ (o_eq hr) (ix_ (v_ 1) (cgi_ T.i_LEFT) (fun _ _ => rfl)) (ix_ (v_ 1) (cgi_ T.i_RIGHT) (fun _ _ => rfl)) (nomark _))))) (sone_ (ret_ cb_)) snil_)
    (sone_ (ret_ (and_ (isi_ T.f_isinstance (isc_b .bl T.f_bool) (tb_b T.isf .bl) (ix_ (v_ 1) (cgi_ T.i_TURNED) (fun _ _ => rfl))) (and_ (call_ (F_is_integer T) hr (by decide) tk (cons_ (ix_ (v_ 1) (cgi_ T.i_ADDED) (fun _ _ => rfl)) nil_)) (one_ (call_ (F_is_integer T) hr (by decide) tk (cons_ (ix_ (v_ 1) (cgi_ T.i_VALUE) (fun _ _ => rfl)) nil_)))))))))
set_option maxHeartbeats 4000000 in
theorem sc_sons_of : FnScope N_sons_of [(Str.ofString "shape"), (Str.ofString "house")] (defScope s_sons_of) := ⟨rfl, rfl, rfl, by decide +kernel, rfl, by decide +kernel, by decide +kernel⟩
theorem F_sons_of (T : Tx K mg) : Fn3 P w K mg base (Str.ofString "sons_of") 1 sp_sons_of := by
  obtain ⟨fd, F⟩ := T.d_sons_of
  refine fn3 T.g_sons_of F sc_sons_of (FunD.bindsN F fun _ _ _ _ _ _ us hl => match us, hl with | [_, _], _ => rfl) (fun ds G Q E h => by unfold sp_sons_of at h; split at h <;> first | rfl | exact h.elim) ⟨t_sons_of, fun cdv A outer s H E hr => ?_, vc_sons_of⟩
  have nd := (sc_sons_of).nd
  exact (sone_ (ret_ (lc_ (own := [((Str.ofString "son"), 2)]) false (.n 2) rfl nd (iseq_ (sl_ false (ix_ (v_ 0) (v_ 1) (fun _ _ => rfl)) (os_ (cgi_ T.i_LEFT)) (os_ (cgi_ T.i_TURNED)))) (blkOk_by (N := N_sons_of) (sc := (defScope s_sons_of)) (by decide +kernel)) (by decide) (fun _ _ _ _ _ => (tg1_ 2 nd)) (fun _ _ _ _ _ => (if1_ (tcm_ o_isnot (v_ 2) cn_ (nomark _)))) (fun _ _ _ _ _ => (v_ 2)))))
set_option maxHeartbeats 4000000 in
theorem sc_is_right_shape : FnScope N_is_right_shape [(Str.ofString "thing")] (defScope s_is_right_shape) := ⟨rfl, rfl, rfl, by decide +kernel, rfl, by decide +kernel, by decide +kernel⟩
theorem F_is_right_shape (T : Tx K mg) : Fn3 P w K mg base (Str.ofString "is_right_shape") 6 sp_is_right_shape := by
  obtain ⟨fd, F⟩ := T.d_is_right_shape
  refine fn3 T.g_is_right_shape F sc_is_right_shape (FunD.bindsN F fun _ _ _ _ _ _ us hl => match us, hl with | [_], _ => rfl) (fun ds G Q E h => by unfold sp_is_right_shape at h; split at h <;> first | rfl | exact h.elim) ⟨t_is_right_shape, fun cdv A outer s H E hr => ?_, vc_is_right_shape⟩
  have nd := (sc_is_right_shape).nd
  have tk := tk_of (P := P) (w := w) (K := K) (mg := mg) (base := base) (N := N_is_right_shape) (qual := (Str.ofString "is_right_shape")) (scope := defScope s_is_right_shape) (f := (He.fAd K ((Str.ofString "is_right_shape"), none))) (cdv := cdv) (A := A) (outer := outer) (s := s) (H := H) (E := E)
  have pas := pas_of (P := P) (w := w) (K := K) (mg := mg) (base := base) (N := N_is_right_shape) (qual := (Str.ofString "is_right_shape")) (scope := defScope s_is_right_shape) (f := (He.fAd K ((Str.ofString "is_right_shape"), none))) (cdv := cdv) (A := A) (outer := outer) (s := s) (H := H) (E := E)
  exact (scons_ (sif_ (tw_ (wor_ (tnot_ (tv_ (call_ (F_is_sized T) hr (by decide) tk (cons_ (v_ 0) (cons_ ci_ (cons_ (cgi_ T.i_MOST_HOUSES) nil_)))))) (w1or_ (tnot_ (tv_ (bf_ (b_all rfl) T.f_all (by decide +kernel) (cons_ (lc_ (own := [((Str.ofString "part"), 2)]) false (.n 2) rfl nd (iseq_ (v_ 0)) (blkOk_by (N := N_is_right_shape) (sc := (defScope s_is_right_shape)) (by decide +kernel)) (by decide) (fun _ _ _ _ _ => (tg1_ 2 nd)) (fun _ _ _ _ _ => no_if) (fun _ _ _ _ _ => (call_ (F_is_part T) hr (by decide) takes_none5 (cons_ (bf_ b_len T.f_len (by decide +kernel) (cons_ (v_ 0) nil_)) (cons_ (v_ 2) nil_))))) nil_))))))) (sone_ (ret_ cb_)) snil_)
    (scons_ (for_ (.n 1) pas rfl (irng1_ T.f_range (cons_ (bf_ b_len T.f_len (by decide +kernel) (cons_ (v_ 0) nil_)) nil_)) (tg1_ 1 nd) (sone_ (sif_ (tnot_ (tv_ (bf_ (b_all rfl) T.f_all (by decide +kernel) (cons_ (lc_ (own := [((Str.ofString "son"), 3)]) false (.n 3) rfl nd (iseq_ (call_ (F_sons_of T) hr (by decide) tk (cons_ (v_ 0) (cons_ (v_ 1) nil_)))) (blkOk_by (N := N_is_right_shape) (sc := (defScope s_is_right_shape)) (by decide +kernel)) (by decide) (fun _ _ _ _ _ => (tg1_ 3 nd)) (fun _ _ _ _ _ => no_if) (fun _ _ _ _ _ => (cm_ (o_eq hr) (ix_ (ix_ (v_ 0) (v_ 3) (fun _ _ => rfl)) (cgi_ T.i_UP) (fun _ _ => rfl)) (v_ 1) (nomark _)))) nil_)))) (sone_ (ret_ cb_)) snil_)))
    (sone_ (ret_ (bf_ (b_all rfl) T.f_all (by decide +kernel) (cons_ (lc_ (own := [((Str.ofString "house"), 1)]) false (.n 1) rfl nd (irng1_ T.f_range (cons_ (bf_ b_len T.f_len (by decide +kernel) (cons_ (v_ 0) nil_)) nil_)) (blkOk_by (N := N_is_right_shape) (sc := (defScope s_is_right_shape)) (by decide +kernel)) (by decide) (fun _ _ _ _ _ => (tg1_ 1 nd)) (fun _ _ _ _ _ => no_if) (fun _ _ _ _ _ => (call_ (F_comes_out T) hr (by decide) takes_none5 (cons_ (v_ 0) (cons_ (v_ 1) nil_))))) nil_))))))
set_option maxHeartbeats 4000000 in
theorem sc_is_shape : FnScope N_is_shape [(Str.ofString "thing")] (defScope s_is_shape) := ⟨rfl, rfl, rfl, by decide +kernel, rfl, by decide +kernel, by decide +kernel⟩
theorem F_is_shape (T : Tx K mg) : Fn3 P w K mg base (Str.ofString "is_shape") 7 sp_is_shape := by
  obtain ⟨fd, F⟩ := T.d_is_shape
  refine fn3 T.g_is_shape F sc_is_shape (FunD.bindsN F fun _ _ _ _ _ _ us hl => match us, hl with | [_], _ => rfl) (fun ds G Q E h => by unfold sp_is_shape at h; split at h <;> first | rfl | exact h.elim) ⟨t_is_shape, fun cdv A outer s H E hr => ?_, vc_is_shape⟩
  have nd := (sc_is_shape).nd
  have tk := tk_of (P := P) (w := w) (K := K) (mg := mg) (base := base) (N := N_is_shape) (qual := (Str.ofString "is_shape")) (scope := defScope s_is_shape) (f := (He.fAd K ((Str.ofString "is_shape"), none))) (cdv := cdv) (A := A) (outer := outer) (s := s) (H := H) (E := E)
  exact (sone_ (ret_ (call_ (F_is_right_shape T) hr (by decide) tk (cons_ (v_ 0) nil_))))
set_option maxHeartbeats 4000000 in
theorem sc_law : FnScope N_law [(Str.ofString "_law_script")] (defScope s_law) := ⟨rfl, rfl, rfl, by decide +kernel, rfl, by decide +kernel, by decide +kernel⟩
theorem F_law (T : Tx K mg) : ∃ fd, (∀ (s : Shared) (u : Value), BindsTo s fd ⟨[u], []⟩ [((Str.ofString "_law_script"), u)]) ∧ ∀ base : Heap, FnOk P w K mg base (L2.CX P w) 8 (ga K (Str.ofString "law")) fd [(Str.ofString "_law_script")] (liftSp ⟨K, Z0⟩ sp_law) := by
  obtain ⟨fd, F⟩ := T.d_law
  refine ⟨fd, fun s u => (FunD.bindsA (ps := [(Str.ofString "_law_script")]) F fun _ _ _ _ _ _ us hl => match us, hl with | [_], _ => rfl) s [u] rfl, fun base => fn3_of F sc_law (fun ds G Q E h => by unfold sp_law at h; split at h <;> first | rfl | exact h.elim) ⟨t_law, fun cdv A outer s H E hr => ?_, vc_law⟩⟩
  have nd := (sc_law).nd
  have tk := tk_of (P := P) (w := w) (K := K) (mg := mg) (base := base) (N := N_law) (qual := (Str.ofString "law")) (scope := defScope s_law) (f := (He.fAd K ((Str.ofString "law"), none))) (cdv := cdv) (A := A) (outer := outer) (s := s) (H := H) (E := E)
  have pas := pas_of (P := P) (w := w) (K := K) (mg := mg) (base := base) (N := N_law) (qual := (Str.ofString "law")) (scope := defScope s_law) (f := (He.fAd K ((Str.ofString "law"), none))) (cdv := cdv) (A := A) (outer := outer) (s := s) (H := H) (E := E)
  exact (scons_ (set_ 1 (call_ (F__law_hand T) hr (by decide) tk (cons_ (v_ 0) nil_)) nd)
    (scons_ (set_ 2 (call_ (F__law_shape T) hr (by decide) tk (cons_ (v_ 1) (cons_ (call_ (F__law_many T) hr (by decide) tk (cons_ (v_ 1) (cons_ ci_ nil_))) nil_))) nd)
    (scons_ (sif_ (tw_ (wor_ (tnot_ (tv_ (call_ (F__law_is T) hr (by decide) tk (cons_ (call_ (F_is_shape T) hr (by decide) tk (cons_ (v_ 2) nil_)) (cons_ cb_ nil_))))) (w1or_ (tnot_ (tv_ (call_ (F__law_is_shape T) hr (by decide) tk (cons_ (v_ 2) nil_))))))) (sone_ (ret_ cb_)) snil_)
    (scons_ (for_ (.n 3) pas rfl (irng1_ T.f_range (cons_ ci_ nil_)) (tg1_ 3 nd) (scons_ (set_ 4 (call_ (F__law_bent T) hr (by decide) tk (cons_ (v_ 1) (cons_ (v_ 2) nil_))) nd)
    (scons_ (sif_ (tnot_ (tv_ (call_ (F__law_is T) hr (by decide) tk (cons_ (call_ (F_is_shape T) hr (by decide) tk (cons_ (v_ 4) nil_)) (cons_ (call_ (F__law_is_shape T) hr (by decide) tk (cons_ (v_ 4) nil_)) nil_))))) (sone_ (ret_ cb_)) snil_)
    (sone_ (sif_ (tw_ (wand_ (tcm_ (o_eq hr) (call_ (F__law_draw T) hr (by decide) tk (cons_ (v_ 1) (cons_ ci_ nil_))) ci_ (nomark _)) (w1and_ (tv_ (call_ (F__law_is_shape T) hr (by decide) tk (cons_ (v_ 4) nil_)))))) (sone_ (set_ 2 (v_ 4) nd)) snil_)))))
    (sone_ (ret_ (cm_ o_is (call_ (F_is_shape T) hr (by decide) tk (cons_ (bt_ (b_list false) T.f_list (by decide +kernel) (cons_ (v_ 2) nil_)) nil_)) cb_ (nomark _))))))))
end
theorem law_start (ns : List Int) (Q : QK) (E : EK) (l : ns.length ≤ 63) (h : ∀ G, Q (.bl true) G) : sp_law [.sl (ns.map D.int)] (fun _ => none) Q E :=
  ⟨fun x hx => by obtain ⟨i, _, e⟩ := List.mem_map.mp hx; exact ⟨i, e.symm⟩, by simpa using l, h⟩
/-! ### the head -/
def dd__law_draw : He.DefD := ⟨((Str.ofString "_law_draw"), none), (Str.ofString "_law_draw"), (Str.ofString "_law_draw"), defArgs s__law_draw, defBody s__law_draw, defScope s__law_draw, [], []⟩
def dd__law_deep : He.DefD := ⟨((Str.ofString "_law_deep"), none), (Str.ofString "_law_deep"), (Str.ofString "_law_deep"), defArgs s__law_deep, defBody s__law_deep, defScope s__law_deep, [], []⟩
def dd__law_bent : He.DefD := ⟨((Str.ofString "_law_bent"), none), (Str.ofString "_law_bent"), (Str.ofString "_law_bent"), defArgs s__law_bent, defBody s__law_bent, defScope s__law_bent, [], []⟩
def dd__law_hand : He.DefD := ⟨((Str.ofString "_law_hand"), none), (Str.ofString "_law_hand"), (Str.ofString "_law_hand"), defArgs s__law_hand, defBody s__law_hand, defScope s__law_hand, [], []⟩
def dd__law_is : He.DefD := ⟨((Str.ofString "_law_is"), none), (Str.ofString "_law_is"), (Str.ofString "_law_is"), defArgs s__law_is, defBody s__law_is, defScope s__law_is, [], []⟩
def dd__law_is_integer : He.DefD := ⟨((Str.ofString "_law_is_integer"), none), (Str.ofString "_law_is_integer"), (Str.ofString "_law_is_integer"), defArgs s__law_is_integer, defBody s__law_is_integer, defScope s__law_is_integer, [], []⟩
def dd__law_number : He.DefD := ⟨((Str.ofString "_law_number"), none), (Str.ofString "_law_number"), (Str.ofString "_law_number"), defArgs s__law_number, defBody s__law_number, defScope s__law_number, [], []⟩
def dd__law_is_shape : He.DefD := ⟨((Str.ofString "_law_is_shape"), none), (Str.ofString "_law_is_shape"), (Str.ofString "_law_is_shape"), defArgs s__law_is_shape, defBody s__law_is_shape, defScope s__law_is_shape, [], []⟩
def dd__law_many : He.DefD := ⟨((Str.ofString "_law_many"), none), (Str.ofString "_law_many"), (Str.ofString "_law_many"), defArgs s__law_many, defBody s__law_many, defScope s__law_many, [], []⟩
def dd__law_house : He.DefD := ⟨((Str.ofString "_law_house"), none), (Str.ofString "_law_house"), (Str.ofString "_law_house"), defArgs s__law_house, defBody s__law_house, defScope s__law_house, [], []⟩
def dd__law_shuffled : He.DefD := ⟨((Str.ofString "_law_shuffled"), none), (Str.ofString "_law_shuffled"), (Str.ofString "_law_shuffled"), defArgs s__law_shuffled, defBody s__law_shuffled, defScope s__law_shuffled, [], []⟩
def dd__law_value : He.DefD := ⟨((Str.ofString "_law_value"), none), (Str.ofString "_law_value"), (Str.ofString "_law_value"), defArgs s__law_value, defBody s__law_value, defScope s__law_value, [], []⟩
def dd__law_shape : He.DefD := ⟨((Str.ofString "_law_shape"), none), (Str.ofString "_law_shape"), (Str.ofString "_law_shape"), defArgs s__law_shape, defBody s__law_shape, defScope s__law_shape, [], []⟩
def dd_comes_out : He.DefD := ⟨((Str.ofString "comes_out"), none), (Str.ofString "comes_out"), (Str.ofString "comes_out"), defArgs s_comes_out, defBody s_comes_out, defScope s_comes_out, [], []⟩
def dd_is_integer : He.DefD := ⟨((Str.ofString "is_integer"), none), (Str.ofString "is_integer"), (Str.ofString "is_integer"), defArgs s_is_integer, defBody s_is_integer, defScope s_is_integer, [], []⟩
def dd_is_within : He.DefD := ⟨((Str.ofString "is_within"), none), (Str.ofString "is_within"), (Str.ofString "is_within"), defArgs s_is_within, defBody s_is_within, defScope s_is_within, [], []⟩
def dd_is_below : He.DefD := ⟨((Str.ofString "is_below"), none), (Str.ofString "is_below"), (Str.ofString "is_below"), defArgs s_is_below, defBody s_is_below, defScope s_is_below, [], []⟩
def dd_is_place : He.DefD := ⟨((Str.ofString "is_place"), none), (Str.ofString "is_place"), (Str.ofString "is_place"), defArgs s_is_place, defBody s_is_place, defScope s_is_place, [], []⟩
def dd_is_sized : He.DefD := ⟨((Str.ofString "is_sized"), none), (Str.ofString "is_sized"), (Str.ofString "is_sized"), defArgs s_is_sized, defBody s_is_sized, defScope s_is_sized, [], []⟩
def dd_is_part : He.DefD := ⟨((Str.ofString "is_part"), none), (Str.ofString "is_part"), (Str.ofString "is_part"), defArgs s_is_part, defBody s_is_part, defScope s_is_part, [], []⟩
def dd_sons_of : He.DefD := ⟨((Str.ofString "sons_of"), none), (Str.ofString "sons_of"), (Str.ofString "sons_of"), defArgs s_sons_of, defBody s_sons_of, defScope s_sons_of, [], []⟩
def dd_is_right_shape : He.DefD := ⟨((Str.ofString "is_right_shape"), none), (Str.ofString "is_right_shape"), (Str.ofString "is_right_shape"), defArgs s_is_right_shape, defBody s_is_right_shape, defScope s_is_right_shape, [], []⟩
def dd_is_shape : He.DefD := ⟨((Str.ofString "is_shape"), none), (Str.ofString "is_shape"), (Str.ofString "is_shape"), defArgs s_is_shape, defBody s_is_shape, defScope s_is_shape, [], []⟩
def dd_law : He.DefD := ⟨((Str.ofString "law"), none), (Str.ofString "law"), (Str.ofString "law"), defArgs s_law, defBody s_law, defScope s_law, [], []⟩
def fn : List He.DefD := [dd__law_draw, dd__law_deep, dd__law_bent, dd__law_hand, dd__law_is, dd__law_is_integer, dd__law_number, dd__law_is_shape, dd__law_many, dd__law_house, dd__law_shuffled, dd__law_value, dd__law_shape, dd_comes_out, dd_is_integer, dd_is_within, dd_is_below, dd_is_place, dd_is_sized, dd_is_part, dd_sons_of, dd_is_right_shape, dd_is_shape, dd_law]
def fa : List He.Fa := [.free (Str.ofString "isinstance"), .free (Str.ofString "int"), .free (Str.ofString "bool"), .glo (Str.ofString "is_integer"), .glo (Str.ofString "is_within"), .free (Str.ofString "tuple"), .free (Str.ofString "len"), .glo (Str.ofString "is_below"), .int (Str.ofString "PARTS") 6, .glo (Str.ofString "is_sized"), .int (Str.ofString "TURNED") 3, .glo (Str.ofString "is_place"), .free (Str.ofString "all"), .int (Str.ofString "LEFT") 1, .int (Str.ofString "RIGHT") 2, .int (Str.ofString "ADDED") 4, .int (Str.ofString "VALUE") 5, .free (Str.ofString "range"), .int (Str.ofString "UP") 0, .int (Str.ofString "MOST_HOUSES") 64, .glo (Str.ofString "is_part"), .glo (Str.ofString "sons_of"), .glo (Str.ofString "comes_out"), .glo (Str.ofString "is_right_shape"), .free (Str.ofString "list"), .glo (Str.ofString "_law_draw"), .glo (Str.ofString "_law_shuffled"), .glo (Str.ofString "_law_value"), .glo (Str.ofString "_law_house"), .free (Str.ofString "min"), .glo (Str.ofString "_law_number"), .glo (Str.ofString "_law_is_integer"), .glo (Str.ofString "_law_deep"), .glo (Str.ofString "_law_hand"), .glo (Str.ofString "_law_many"), .glo (Str.ofString "_law_shape"), .glo (Str.ofString "is_shape"), .glo (Str.ofString "_law_is"), .glo (Str.ofString "_law_is_shape"), .glo (Str.ofString "_law_bent"), .glo (Str.ofString "law")]
theorem tx_of {w : World} {K : PySem.W.Frag} {h : Heap} {mg : Str → Option Value} (X : K.In h) (G : h.Ns mainGlobals mg) (c : He.SaysX fa fn [] [] (isfB OC) w h K) : Tx K mg where
  f_isinstance := He.free_ok X G (c.t.d.fact 0 (f := .free (Str.ofString "isinstance")) rfl)
  f_int := He.free_ok X G (c.t.d.fact 1 (f := .free (Str.ofString "int")) rfl)
  isf := isf_ok c.more
  f_bool := He.free_ok X G (c.t.d.fact 2 (f := .free (Str.ofString "bool")) rfl)
  g_is_integer := He.glo_ok X G (c.t.d.fact 3 (f := .glo (Str.ofString "is_integer")) rfl)
  g_is_within := He.glo_ok X G (c.t.d.fact 4 (f := .glo (Str.ofString "is_within")) rfl)
  f_tuple := He.free_ok X G (c.t.d.fact 5 (f := .free (Str.ofString "tuple")) rfl)
  f_len := He.free_ok X G (c.t.d.fact 6 (f := .free (Str.ofString "len")) rfl)
  g_is_below := He.glo_ok X G (c.t.d.fact 7 (f := .glo (Str.ofString "is_below")) rfl)
  i_PARTS := He.int_ok X G (c.t.d.fact 8 (f := .int (Str.ofString "PARTS") 6) rfl)
  g_is_sized := He.glo_ok X G (c.t.d.fact 9 (f := .glo (Str.ofString "is_sized")) rfl)
  i_TURNED := He.int_ok X G (c.t.d.fact 10 (f := .int (Str.ofString "TURNED") 3) rfl)
  g_is_place := He.glo_ok X G (c.t.d.fact 11 (f := .glo (Str.ofString "is_place")) rfl)
  f_all := He.free_ok X G (c.t.d.fact 12 (f := .free (Str.ofString "all")) rfl)
  i_LEFT := He.int_ok X G (c.t.d.fact 13 (f := .int (Str.ofString "LEFT") 1) rfl)
  i_RIGHT := He.int_ok X G (c.t.d.fact 14 (f := .int (Str.ofString "RIGHT") 2) rfl)
  i_ADDED := He.int_ok X G (c.t.d.fact 15 (f := .int (Str.ofString "ADDED") 4) rfl)
  i_VALUE := He.int_ok X G (c.t.d.fact 16 (f := .int (Str.ofString "VALUE") 5) rfl)
  f_range := He.free_ok X G (c.t.d.fact 17 (f := .free (Str.ofString "range")) rfl)
  i_UP := He.int_ok X G (c.t.d.fact 18 (f := .int (Str.ofString "UP") 0) rfl)
  i_MOST_HOUSES := He.int_ok X G (c.t.d.fact 19 (f := .int (Str.ofString "MOST_HOUSES") 64) rfl)
  g_is_part := He.glo_ok X G (c.t.d.fact 20 (f := .glo (Str.ofString "is_part")) rfl)
  g_sons_of := He.glo_ok X G (c.t.d.fact 21 (f := .glo (Str.ofString "sons_of")) rfl)
  g_comes_out := He.glo_ok X G (c.t.d.fact 22 (f := .glo (Str.ofString "comes_out")) rfl)
  g_is_right_shape := He.glo_ok X G (c.t.d.fact 23 (f := .glo (Str.ofString "is_right_shape")) rfl)
  f_list := He.free_ok X G (c.t.d.fact 24 (f := .free (Str.ofString "list")) rfl)
  g__law_draw := He.glo_ok X G (c.t.d.fact 25 (f := .glo (Str.ofString "_law_draw")) rfl)
  g__law_shuffled := He.glo_ok X G (c.t.d.fact 26 (f := .glo (Str.ofString "_law_shuffled")) rfl)
  g__law_value := He.glo_ok X G (c.t.d.fact 27 (f := .glo (Str.ofString "_law_value")) rfl)
  g__law_house := He.glo_ok X G (c.t.d.fact 28 (f := .glo (Str.ofString "_law_house")) rfl)
  f_min := He.free_ok X G (c.t.d.fact 29 (f := .free (Str.ofString "min")) rfl)
  g__law_number := He.glo_ok X G (c.t.d.fact 30 (f := .glo (Str.ofString "_law_number")) rfl)
  g__law_is_integer := He.glo_ok X G (c.t.d.fact 31 (f := .glo (Str.ofString "_law_is_integer")) rfl)
  g__law_deep := He.glo_ok X G (c.t.d.fact 32 (f := .glo (Str.ofString "_law_deep")) rfl)
  g__law_hand := He.glo_ok X G (c.t.d.fact 33 (f := .glo (Str.ofString "_law_hand")) rfl)
  g__law_many := He.glo_ok X G (c.t.d.fact 34 (f := .glo (Str.ofString "_law_many")) rfl)
  g__law_shape := He.glo_ok X G (c.t.d.fact 35 (f := .glo (Str.ofString "_law_shape")) rfl)
  g_is_shape := He.glo_ok X G (c.t.d.fact 36 (f := .glo (Str.ofString "is_shape")) rfl)
  g__law_is := He.glo_ok X G (c.t.d.fact 37 (f := .glo (Str.ofString "_law_is")) rfl)
  g__law_is_shape := He.glo_ok X G (c.t.d.fact 38 (f := .glo (Str.ofString "_law_is_shape")) rfl)
  g__law_bent := He.glo_ok X G (c.t.d.fact 39 (f := .glo (Str.ofString "_law_bent")) rfl)
  g_law := He.glo_ok X G (c.t.d.fact 40 (f := .glo (Str.ofString "law")) rfl)
  d__law_draw := by obtain ⟨fd, F⟩ := c.t.d.def_ 0 (d := dd__law_draw) rfl; exact ⟨fd, F⟩
  d__law_deep := by obtain ⟨fd, F⟩ := c.t.d.def_ 1 (d := dd__law_deep) rfl; exact ⟨fd, F⟩
  d__law_bent := by obtain ⟨fd, F⟩ := c.t.d.def_ 2 (d := dd__law_bent) rfl; exact ⟨fd, F⟩
  d__law_hand := by obtain ⟨fd, F⟩ := c.t.d.def_ 3 (d := dd__law_hand) rfl; exact ⟨fd, F⟩
  d__law_is := by obtain ⟨fd, F⟩ := c.t.d.def_ 4 (d := dd__law_is) rfl; exact ⟨fd, F⟩
  d__law_is_integer := by obtain ⟨fd, F⟩ := c.t.d.def_ 5 (d := dd__law_is_integer) rfl; exact ⟨fd, F⟩
  d__law_number := by obtain ⟨fd, F⟩ := c.t.d.def_ 6 (d := dd__law_number) rfl; exact ⟨fd, F⟩
  d__law_is_shape := by obtain ⟨fd, F⟩ := c.t.d.def_ 7 (d := dd__law_is_shape) rfl; exact ⟨fd, F⟩
  d__law_many := by obtain ⟨fd, F⟩ := c.t.d.def_ 8 (d := dd__law_many) rfl; exact ⟨fd, F⟩
  d__law_house := by obtain ⟨fd, F⟩ := c.t.d.def_ 9 (d := dd__law_house) rfl; exact ⟨fd, F⟩
  d__law_shuffled := by obtain ⟨fd, F⟩ := c.t.d.def_ 10 (d := dd__law_shuffled) rfl; exact ⟨fd, F⟩
  d__law_value := by obtain ⟨fd, F⟩ := c.t.d.def_ 11 (d := dd__law_value) rfl; exact ⟨fd, F⟩
  d__law_shape := by obtain ⟨fd, F⟩ := c.t.d.def_ 12 (d := dd__law_shape) rfl; exact ⟨fd, F⟩
  d_comes_out := by obtain ⟨fd, F⟩ := c.t.d.def_ 13 (d := dd_comes_out) rfl; exact ⟨fd, F⟩
  d_is_integer := by obtain ⟨fd, F⟩ := c.t.d.def_ 14 (d := dd_is_integer) rfl; exact ⟨fd, F⟩
  d_is_within := by obtain ⟨fd, F⟩ := c.t.d.def_ 15 (d := dd_is_within) rfl; exact ⟨fd, F⟩
  d_is_below := by obtain ⟨fd, F⟩ := c.t.d.def_ 16 (d := dd_is_below) rfl; exact ⟨fd, F⟩
  d_is_place := by obtain ⟨fd, F⟩ := c.t.d.def_ 17 (d := dd_is_place) rfl; exact ⟨fd, F⟩
  d_is_sized := by obtain ⟨fd, F⟩ := c.t.d.def_ 18 (d := dd_is_sized) rfl; exact ⟨fd, F⟩
  d_is_part := by obtain ⟨fd, F⟩ := c.t.d.def_ 19 (d := dd_is_part) rfl; exact ⟨fd, F⟩
  d_sons_of := by obtain ⟨fd, F⟩ := c.t.d.def_ 20 (d := dd_sons_of) rfl; exact ⟨fd, F⟩
  d_is_right_shape := by obtain ⟨fd, F⟩ := c.t.d.def_ 21 (d := dd_is_right_shape) rfl; exact ⟨fd, F⟩
  d_is_shape := by obtain ⟨fd, F⟩ := c.t.d.def_ 22 (d := dd_is_shape) rfl; exact ⟨fd, F⟩
  d_law := by obtain ⟨fd, F⟩ := c.t.d.def_ 23 (d := dd_law) rfl; exact ⟨fd, F⟩
def names0 : List Str := [(Str.ofString "__name__"), (Str.ofString "MOST_HOUSES"), (Str.ofString "is_integer"), (Str.ofString "is_within"), (Str.ofString "is_below"), (Str.ofString "is_sized"), (Str.ofString "UP"), (Str.ofString "LEFT"), (Str.ofString "RIGHT"), (Str.ofString "TURNED"), (Str.ofString "ADDED"), (Str.ofString "VALUE"), (Str.ofString "PARTS"), (Str.ofString "is_place"), (Str.ofString "is_part"), (Str.ofString "sons_of"), (Str.ofString "comes_out"), (Str.ofString "is_right_shape"), (Str.ofString "is_shape"), (Str.ofString "_law_hand"), (Str.ofString "_law_draw"), (Str.ofString "_law_is"), (Str.ofString "_law_deep"), (Str.ofString "_law_number"), (Str.ofString "_law_is_integer"), (Str.ofString "_law_value"), (Str.ofString "_law_many"), (Str.ofString "_law_shuffled"), (Str.ofString "_law_house"), (Str.ofString "_law_shape")]
def names1 : List Str := [(Str.ofString "_law_is_shape"), (Str.ofString "_law_bent")]
def names : List Str := names0 ++ names1
abbrev R : PySem.W.OpenRow := PySem.W.OpenLaw.row PySem.Challenge.rw_cutlinked_k07_whole_shapes_judged
abbrev hk : PySem.W.Hook := He.hookX 6 fa fn [] [] (isfB OC)
def ob (s : PySem.W.SharedT) : He.AlX := He.obsX 6 fa fn [] [] (isfB OC) (HandSHeadRun.getT s)
theorem ob_eq (s : PySem.W.SharedT) : ob s = hk.obs s.abs := He.obsX_eq (HandSHeadRun.getT_eq s)
set_option maxHeartbeats 0 in
theorem run (w : World) : HandSHeadRun.RunEq R (PySem.W.view R.prog [34]) hk ob 6000 names w := by
  intro os
  kernel_rfl
end C3
open PySem PySem.W PySem.Calls PyProof.Rows
set_option maxRecDepth 100000 in
set_option maxHeartbeats 0 in
theorem PySem.Challenge.cw_cutlinked_k07_whole_shapes_judged_holds : PySem.Challenge.rw_cutlinked_k07_whole_shapes_judged.Holds := by
  w_on; o_law
  refine HandSHeadRun.head_any (r := OpenLaw.row PySem.Challenge.rw_cutlinked_k07_whole_shapes_judged) (q := view (OpenLaw.row PySem.Challenge.rw_cutlinked_k07_whole_shapes_judged).prog [34]) (H := C3.hk) (ob := C3.ob) (M := 6000) (loose := C3.names) (d := HandSHeadRun.topDef (OpenLaw.row PySem.Challenge.rw_cutlinked_k07_whole_shapes_judged).prog 34) (kwd := []) C3.ob_eq
    (by kernel_rfl) (fun s => by kernel_rfl) C3.run (by kernel_rfl) (by kernel_rfl) (by kernel_rfl) (by rfl) (by first | assumption | decide +kernel) (by decide +kernel) ⟨rfl, rfl, rfl, rfl, rfl, by decide +kernel⟩ ?hw ?hc
  case hw => w_witness2
  case hc =>
    refine L3.walk3 (l := PySem.Challenge.rw_cutlinked_k07_whole_shapes_judged) (n := 63) (k := 8) (x := (Str.ofString "_law_script")) (sp := C3.sp_law) rfl (by decide) (by kernel_rfl) ⟨rfl, by decide, by decide⟩ ?F C3.law_start
    intro w mg fa h Y G hmg0
    obtain ⟨K, KX, c⟩ := Y
    have T := C3.tx_of KX G c
    have hmg : mg (Str.ofString "law") = some (.ref fa) := by
      have e : (HandSHeadRun.topDef (OpenLaw.row PySem.Challenge.rw_cutlinked_k07_whole_shapes_judged).prog 34).name = Str.ofString "law" := by kernel_rfl
      rw [← e]
      exact hmg0
    have e := hmg.symm.trans T.g_law
    cases e
    obtain ⟨fd, hb, hF⟩ := C3.F_law (P := (PySem.Challenge.rw_cutlinked_k07_whole_shapes_judged).prog) (w := w) T
    exact ⟨K, fd, KX, hb, fun base _ _ => hF base⟩
