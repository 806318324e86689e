import PyProof.Rows.All
import Wide.All
import OpenK.AllK
import Wide.FinOn
import HandS.ForMost
import HandS.CallSlots
import HandS.ExcInit
import HandS.TryMany
import HandS.TryOnly
import HandS.ExcField
import HandS.ExcIs
import HandS.Small
import HandS.IsInst
import HandS.Defaults
import HandS.Head2
import HandS.HeadEnd
import HandS.HeadHook3
import HandS.TupAny
import HandS.TupMul
import HandS.Rev
import HandS.Zip
import HandS.Conv
import HandS.OwnEq
import HandS.Flow
import HandS.Style
import HandS.Wide
import HandS.HeadHook4
import HandS.Ends
import KE.GoesEnum
import KE.GoesMore
import PyProof.EnumMake
import PySem.Challenge.RW_cutlinked_k03_whole_deeds_on_plain_fores
set_option Elab.async false
set_option linter.all false
set_option maxRecDepth 100000
set_option maxHeartbeats 4000000
/-! L3: deep data over the hand layer. -/
namespace L3
open PySem PySem.Spec PyProof.Rows L2
open He (ga)

/-! ### data -/
/-- the exception that an except suite holds: where, its class, its dict -/
structure Zx where
  a : Addr
  c : Value
  d : Option Addr
structure K3 where
  f : PySem.W.Frag
  z : Zx
abbrev Z0 : Zx := ⟨0, .none, none⟩
abbrev Cxk (X : Cx) (Z : Zx) : K3 := ⟨X.K, Z⟩
inductive D where
  | non | bl (b : Bool) | int (i : Int) | str (x : Str)
  | tup (xs : List D)
  | fl (xs : List D)
  | sl (xs : List D)
  | ob (c : Str) (ns : List Str) (xs : List D)
  | emp
  | ref (a : Addr)
  | ex (c : Str)
  | exf (c f : Str) (y : D)
inductive GO where
  | lst (xs : List D) | dic (kvs : List (Key × D)) | ins (c : Str) (fs : List (Str × D))
abbrev Gp := Addr → Option GO
def up (G : Gp) (a : Addr) (o : GO) : Gp := fun b => if b = a then some o else G b
def dl (G : Gp) (a : Addr) : Gp := fun b => if b = a then none else G b
theorem up_same {G : Gp} {a : Addr} {o : GO} : up G a o a = some o := if_pos rfl
theorem up_ne {G : Gp} {a b : Addr} {o : GO} (h : b ≠ a) : up G a o b = G b := if_neg h
theorem dl_same {G : Gp} {a : Addr} : dl G a a = none := if_pos rfl
theorem dl_ne {G : Gp} {a b : Addr} (h : b ≠ a) : dl G a b = G b := if_neg h
theorem up_up {G : Gp} {a : Addr} {o u : GO} : up (up G a o) a u = up G a u := by
  funext b; unfold up; split <;> rfl
theorem up_self {G : Gp} {a : Addr} {o : GO} (h : G a = some o) : up G a o = G := by
  funext b; unfold up; split
  · rename_i e; rw [e, h]
  · rfl
theorem dl_up {G : Gp} {a : Addr} {o : GO} (h : G a = none) : dl (up G a o) a = G := by
  funext b; unfold dl up; split
  · rename_i e; rw [e, h]
  · rfl
theorem up_comm {G : Gp} {a b : Addr} {o u : GO} (h : a ≠ b) : up (up G b u) a o = up (up G a o) b u := by
  funext c; unfold up
  by_cases h1 : c = a
  · subst h1; rw [if_pos rfl, if_neg h, if_pos rfl]
  · rw [if_neg h1]; by_cases h2 : c = b
    · rw [if_pos h2, if_pos h2]
    · rw [if_neg h2, if_neg h2, if_neg h1]

/-- an exception: its class, its field -/
structure X3 where
  c : Str
  f : Option (Str × D) := none

/-- the written part's lists -/
def KL (K : PySem.W.Frag) (a : Addr) (xs : List V) : Prop :=
  ∃ (o : Obj) (its : Array Value) (n : Nat), K.lookup a = some o ∧ o.cls = .type "list" ∧ o.dict = none ∧ o.data = .seq its n ∧ its.size ≤ sizeLine ∧ Vals xs its.toList
/-- a list that is only read -/
def SqF (K : K3) (G : Gp) (H : Hp) (a : Addr) (vs : List V) : Prop := (Rd H a (.lst vs) ∧ G a = none) ∨ KL K.f a vs
mutual
inductive Dv (K : K3) (G : Gp) (H : Hp) : D → V → Prop
  | non : Dv K G H .non .non
  | bl (b : Bool) : Dv K G H (.bl b) (.bl b)
  | int (i : Int) : Dv K G H (.int i) (.int i)
  | str (x : Str) : Dv K G H (.str x) (.str x)
  | tup {a : Addr} {vs : List V} {xs : List D} : SqT K.f H a vs → DvL K G H xs vs → Dv K G H (.tup xs) (.ref a)
  | fl {a : Addr} {vs : List V} {xs : List D} : H a = some (.lst vs) → G a = none → DvL K G H xs vs → Dv K G H (.fl xs) (.ref a)
  | sl {a : Addr} {vs : List V} {xs : List D} : SqF K G H a vs → DvL K G H xs vs → Dv K G H (.sl xs) (.ref a)
  | ob {a dx : Addr} {c : Str} {ns : List Str} {vs : List V} {xs : List D} : H a = some (.ins (ga K.f c) dx (ns.zip vs)) → ns.length = vs.length → G a = none → DvL K G H xs vs → Dv K G H (.ob c ns xs) (.ref a)
  | emp {a : Addr} {kvs : List (Key × V)} : H a = some (.dK kvs) → G a = none → Dv K G H .emp (.ref a)
  | ref (a : Addr) : Dv K G H (.ref a) (.ref a)
  | ex {c : Str} : K.z.c = .ref (ga K.f c) → Dv K G H (.ex c) (.ref K.z.a)
  | exf {c f : Str} {y : D} {d : Addr} {v : V} : K.z.c = .ref (ga K.f c) → K.z.d = some d → H d = some (.xd [(f, v)]) → Dv K G H y v → Dv K G H (.exf c f y) (.ref K.z.a)
inductive DvL (K : K3) (G : Gp) (H : Hp) : List D → List V → Prop
  | nil : DvL K G H [] []
  | cons {d : D} {v : V} {ds : List D} {vs : List V} : Dv K G H d v → DvL K G H ds vs → DvL K G H (d :: ds) (v :: vs)
end

def OkO (K : K3) (G : Gp) (H : Hp) (a : Addr) : GO → Prop
  | .lst xs => ∃ vs, H a = some (.lst vs) ∧ DvL K G H xs vs
  | .dic kvs => ∃ vs, H a = some (.dK ((kvs.map (·.1)).zip vs)) ∧ DvL K G H (kvs.map (·.2)) vs
  | .ins c fs => ∃ dx vs, H a = some (.ins (ga K.f c) dx ((fs.map (·.1)).zip vs)) ∧ DvL K G H (fs.map (·.2)) vs
def GH (K : K3) (G : Gp) (H : Hp) : Prop := ∀ a o, G a = some o → OkO K G H a o
/-- what is outside G is kept, and stays outside -/
def Keep (G : Gp) (H : Hp) (G' : Gp) (H' : Hp) : Prop := ∀ a o, H a = some o → G a = none → H' a = some o ∧ G' a = none

section
variable {K : K3} {G G' G1 G2 : Gp} {H H' H1 H2 : Hp}
theorem Keep.refl : Keep G H G H := fun _ _ h g => ⟨h, g⟩
theorem Keep.trans (a : Keep G H G1 H1) (b : Keep G1 H1 G2 H2) : Keep G H G2 H2 := fun c o h g => let ⟨h1, g1⟩ := a c o h g; b c o h1 g1
theorem DvL.length : ∀ {xs : List D} {vs : List V}, DvL K G H xs vs → xs.length = vs.length
  | _, _, .nil => rfl
  | _, _, .cons _ r => congrArg Nat.succ (DvL.length r)
theorem DvL.get : ∀ {xs : List D} {vs : List V} {i : Nat} {d : D}, DvL K G H xs vs → xs[i]? = some d → ∃ v, vs[i]? = some v ∧ Dv K G H d v
  | _, _, _, _, .nil, e => by simp at e
  | _, _, 0, _, .cons r _, e => by simp at e; subst e; exact ⟨_, rfl, r⟩
  | _, _, i + 1, d, .cons _ t, e => by
    obtain ⟨u, h1, h2⟩ := DvL.get (i := i) (d := d) t (by simpa using e)
    exact ⟨u, by simpa using h1, h2⟩
theorem DvL.append : ∀ {xs ys : List D} {us ws : List V}, DvL K G H xs us → DvL K G H ys ws → DvL K G H (xs ++ ys) (us ++ ws)
  | _, _, _, _, .nil, s => s
  | _, _, _, _, .cons r t, s => .cons r (DvL.append t s)
theorem DvL.take : ∀ {xs : List D} {us : List V} (n : Nat), DvL K G H xs us → DvL K G H (xs.take n) (us.take n)
  | _, _, 0, _ => .nil
  | _, _, _ + 1, .nil => .nil
  | _, _, n + 1, .cons r t => .cons r (DvL.take n t)
theorem DvL.drop : ∀ {xs : List D} {us : List V} (n : Nat), DvL K G H xs us → DvL K G H (xs.drop n) (us.drop n)
  | _, _, 0, r => r
  | _, _, _ + 1, .nil => .nil
  | _, _, n + 1, .cons _ t => DvL.drop n t
theorem DvL.set {d : D} {u : V} (r : Dv K G H d u) : ∀ {xs : List D} {us : List V} (i : Nat), DvL K G H xs us → DvL K G H (xs.set i d) (us.set i u)
  | _, _, _, .nil => .nil
  | _, _, 0, .cons _ t => .cons r t
  | _, _, i + 1, .cons q t => .cons q (DvL.set r i t)
theorem DvL.dropLast : ∀ {xs : List D} {us : List V}, DvL K G H xs us → DvL K G H xs.dropLast us.dropLast
  | _, _, .nil => .nil
  | _, _, .cons _ .nil => .nil
  | _, _, .cons r (.cons q t) => .cons r (DvL.dropLast (.cons q t))
theorem DvL.eraseIdx : ∀ {xs : List D} {us : List V} (i : Nat), DvL K G H xs us → DvL K G H (xs.eraseIdx i) (us.eraseIdx i)
  | _, _, _, .nil => .nil
  | _, _, 0, .cons _ t => t
  | _, _, i + 1, .cons r t => .cons r (DvL.eraseIdx i t)
theorem DvL.reverse {xs : List D} {us : List V} (h : DvL K G H xs us) : DvL K G H xs.reverse us.reverse := by
  induction xs generalizing us with
  | nil => cases h; exact .nil
  | cons x xs ih =>
    cases h with
    | cons r t =>
      rw [List.reverse_cons, List.reverse_cons]
      exact (ih t).append (.cons r .nil)
theorem DvL.rep {d : D} {v : V} (r : Dv K G H d v) : ∀ n, DvL K G H (List.replicate n d) (List.replicate n v)
  | 0 => .nil
  | n + 1 => .cons r (DvL.rep r n)
theorem DvL.flat {xs : List D} {us : List V} (h : DvL K G H xs us) : ∀ k : Nat, DvL K G H (List.replicate k xs).flatten (List.replicate k us).flatten
  | 0 => .nil
  | k + 1 => by
    rw [List.replicate_succ, List.replicate_succ, List.flatten_cons, List.flatten_cons]
    exact h.append (h.flat k)

theorem GH.none_of (g : GH K G H) {a : Addr} {o : HO} (h : H a = some o) (hl : ∀ xs, o ≠ .lst xs) (hd : ∀ kvs, o ≠ .dK kvs) (hi : ∀ C dx fs, o ≠ .ins C dx fs) : G a = none := by
  cases e : G a with
  | none => rfl
  | some u =>
    have q := g a u e
    cases u with
    | lst xs => obtain ⟨vs, h2, _⟩ := q; rw [h] at h2; exact absurd (Option.some.inj h2) (hl _)
    | dic kvs => obtain ⟨vs, h2, _⟩ := q; rw [h] at h2; exact absurd (Option.some.inj h2) (hd _)
    | ins c fs => obtain ⟨dx, vs, h2, _⟩ := q; rw [h] at h2; exact absurd (Option.some.inj h2) (hi _ _ _)
theorem GH.some_of (g : GH K G H) {a : Addr} {o : GO} (h : G a = some o) : ∃ u, H a = some u := by
  have q := g a o h
  cases o with
  | lst xs => obtain ⟨vs, h2, _⟩ := q; exact ⟨_, h2⟩
  | dic kvs => obtain ⟨vs, h2, _⟩ := q; exact ⟨_, h2⟩
  | ins c fs => obtain ⟨dx, vs, h2, _⟩ := q; exact ⟨_, h2⟩
theorem GH.free (g : GH K G H) {a : Addr} (h : H a = none) : G a = none := by
  cases e : G a with
  | none => rfl
  | some o => obtain ⟨u, h2⟩ := g.some_of e; rw [h] at h2; cases h2
theorem sqT_keep (g : GH K G H) (k : Keep G H G' H') {a : Addr} {vs : List V} (s : SqT K.f H a vs) : SqT K.f H' a vs := by
  rcases s with (h | ⟨o, h⟩) | h
  · exact .inl (.inl (k a _ h (g.none_of h (by intros; intro z; cases z) (by intros; intro z; cases z) (by intros; intro z; cases z))).1)
  · exact .inl (.inr ⟨o, (k a _ h (g.none_of h (by intros; intro z; cases z) (by intros; intro z; cases z) (by intros; intro z; cases z))).1⟩)
  · exact .inr h
theorem SqF.sql {a : Addr} {vs : List V} (s : SqF K G H a vs) : SqL K.f H a vs := by
  rcases s with ⟨h, _⟩ | h
  · exact .inl h
  · exact .inr h
theorem SqF.of (g : GH K G H) {a : Addr} {vs : List V} (s : SqL K.f H a vs) (n : G a = none) : SqF K G H a vs := by
  rcases s with h | h
  · exact .inl ⟨h, n⟩
  · exact .inr h
theorem SqF.keep (k : Keep G H G' H') {a : Addr} {vs : List V} (s : SqF K G H a vs) : SqF K G' H' a vs := by
  rcases s with ⟨h | ⟨o, h⟩, n⟩ | h
  · obtain ⟨h1, h2⟩ := k a _ h n; exact .inl ⟨.inl h1, h2⟩
  · obtain ⟨h1, h2⟩ := k a _ h n; exact .inl ⟨.inr ⟨o, h1⟩, h2⟩
  · exact .inr h
mutual
theorem Dv.keep (g : GH K G H) (k : Keep G H G' H') : ∀ {d : D} {v : V}, Dv K G H d v → Dv K G' H' d v
  | _, _, .non => .non
  | _, _, .bl b => .bl b
  | _, _, .int b => .int b
  | _, _, .str b => .str b
  | _, _, .tup s r => .tup (sqT_keep g k s) (DvL.keep g k r)
  | _, _, .fl h n r => .fl (k _ _ h n).1 (k _ _ h n).2 (DvL.keep g k r)
  | _, _, .sl s r => .sl (s.keep k) (DvL.keep g k r)
  | _, _, .ob h l n r => .ob (k _ _ h n).1 l (k _ _ h n).2 (DvL.keep g k r)
  | _, _, .emp h n => .emp (k _ _ h n).1 (k _ _ h n).2
  | _, _, .ref a => .ref a
  | _, _, .ex h => .ex h
  | _, _, .exf h h1 h2 r => .exf h h1 (k _ _ h2 (g.none_of h2 (by intros; intro z; cases z) (by intros; intro z; cases z) (by intros; intro z; cases z))).1 (Dv.keep g k r)
theorem DvL.keep (g : GH K G H) (k : Keep G H G' H') : ∀ {d : List D} {v : List V}, DvL K G H d v → DvL K G' H' d v
  | _, _, .nil => .nil
  | _, _, .cons r t => .cons (Dv.keep g k r) (DvL.keep g k t)
end
theorem OkO.keep (g : GH K G H) (k : Keep G H G' H') {a : Addr} {o : GO} (h : OkO K G H a o) (e : H' a = H a) : OkO K G' H' a o := by
  cases o with
  | lst xs => obtain ⟨vs, h2, r⟩ := h; exact ⟨vs, e.trans h2, r.keep g k⟩
  | dic kvs => obtain ⟨vs, h2, r⟩ := h; exact ⟨vs, e.trans h2, r.keep g k⟩
  | ins c fs => obtain ⟨dx, vs, h2, r⟩ := h; exact ⟨dx, vs, e.trans h2, r.keep g k⟩
/-! ### steps of the heap -/
/-- a new object, not in G -/
theorem Keep.new {p : Addr} {o : HO} (n : H p = none) : Keep G H G (upd H p o) := fun a u h e => ⟨by rw [upd_ne (ne_of_none h n)]; exact h, e⟩
theorem GH.new (g : GH K G H) {p : Addr} {o : HO} (n : H p = none) : GH K G (upd H p o) := fun a u h => by
  obtain ⟨w, q⟩ := g.some_of h
  exact (g a u h).keep g (Keep.new n) (upd_ne (ne_of_none q n))
/-- a new object, into G -/
theorem Keep.newG {p : Addr} {o : HO} {u : GO} (n : H p = none) : Keep G H (up G p u) (upd H p o) := fun a w h e => by
  have ne := ne_of_none h n
  exact ⟨by rw [upd_ne ne]; exact h, by rw [up_ne ne]; exact e⟩
theorem GH.newG (g : GH K G H) {p : Addr} {o : HO} {u : GO} (n : H p = none) (q : OkO K (up G p u) (upd H p o) p u) : GH K (up G p u) (upd H p o) := fun a w h => by
  by_cases e : a = p
  · subst e; rw [up_same] at h; cases h; exact q
  · rw [up_ne e] at h
    exact (g a w h).keep g (Keep.newG n) (upd_ne e)
/-- an object of G, changed -/
theorem Keep.set {p : Addr} {o : HO} {u u' : GO} (n : G p = some u) : Keep G H (up G p u') (upd H p o) := fun a w h e => by
  have ne : a ≠ p := fun z => by rw [z, n] at e; cases e
  exact ⟨by rw [upd_ne ne]; exact h, by rw [up_ne ne]; exact e⟩
theorem GH.set (g : GH K G H) {p : Addr} {o : HO} {u u' : GO} (n : G p = some u) (q : OkO K (up G p u') (upd H p o) p u') : GH K (up G p u') (upd H p o) := fun a w h => by
  by_cases e : a = p
  · subst e; rw [up_same] at h; cases h; exact q
  · rw [up_ne e] at h
    exact (g a w h).keep g (Keep.set n) (upd_ne e)
/-- less of G -/
def Sub (G' G : Gp) : Prop := ∀ a o, G' a = some o → G a = some o
theorem Sub.refl : Sub G G := fun _ _ h => h
theorem Sub.trans (a : Sub G G1) (b : Sub G1 G2) : Sub G G2 := fun c o h => b c o (a c o h)
theorem Sub.no (s : Sub G' G) {a : Addr} (h : G a = none) : G' a = none := by
  cases e : G' a with
  | none => rfl
  | some o => rw [s a o e] at h; cases h
theorem Keep.sub (s : Sub G' G) : Keep G H G' H := fun a o h e => ⟨h, s.no e⟩
theorem GH.sub (g : GH K G H) (s : Sub G' G) : GH K G' H := fun a o h => (g a o (s a o h)).keep g (Keep.sub s) rfl
theorem Sub.dl {a : Addr} : Sub (dl G a) G := fun b o h => by
  by_cases e : b = a
  · subst e; rw [dl_same] at h; cases h
  · rw [dl_ne e] at h; exact h
theorem Sub.up {a : Addr} {o : GO} (n : G a = none) : Sub G (up G a o) := fun b u h => by
  rw [up_ne (fun z => by rw [z, n] at h; cases h)]; exact h
end
end L3
namespace L3
open PySem PySem.Spec PyProof.Rows L2
open He (ga)
abbrev St := L2.St
abbrev St3 := List (Option D)
abbrev QK := D → Gp → Prop
abbrev EK := X3 → Gp → Prop
abbrev TE3 := St3 → Gp → QK → EK → Prop
abbrev TT3 := St3 → Gp → (Bool → Gp → Prop) → EK → Prop
abbrev TA3 := St3 → Gp → (List D → Gp → Prop) → EK → Prop
structure Ends3 where
  nx : St3 → Gp → Prop
  rt : QK
  bk : St3 → Gp → Prop := fun _ _ => False
  ct : St3 → Gp → Prop := fun _ _ => False
  ex : X3 → St3 → Gp → Prop := fun _ _ _ => False
abbrev TS3 := Ends3 → St3 → Gp → Prop
/-- the slots -/
def gt (σ : St3) (i : Nat) : Option D := match σ, i with
  | [], _ => none
  | d :: _, 0 => d
  | _ :: r, i + 1 => gt r i
theorem gt_eq : ∀ (σ : St3) (i : Nat) {d : D}, gt σ i = some d → σ[i]? = some (some d)
  | [], _, _, h => by cases h
  | x :: r, 0, d, h => by
    have h' : x = some d := h
    simp [h']
  | x :: r, i + 1, d, h => by simpa using gt_eq r i h
def Rs (K : K3) (G : Gp) (H : Hp) (σ3 : St3) (σ : St) : Prop := σ3.length = σ.length ∧ ∀ (i : Nat) d, σ3[i]? = some (some d) → ∃ v, σ[i]? = some (some v) ∧ Dv K G H d v
/-- an exception's data -/
def Xv (K : K3) (G : Gp) (H : Hp) (x : X3) (c : Value) (d : Option Addr) : Prop := c = .ref (ga K.f x.c) ∧ match x.f with
  | none => True
  | some (f, y) => ∃ (a : Addr) (v : V), d = some a ∧ H a = some (.xd [(f, v)]) ∧ Dv K G H y v
section
variable {K : K3} {G G' G1 G2 : Gp} {H H' H1 H2 : Hp} {σ3 : St3} {σ : St}
theorem Rs.keep (g : GH K G H) (k : Keep G H G' H') (r : Rs K G H σ3 σ) : Rs K G' H' σ3 σ := ⟨r.1, fun i d e => let ⟨v, h1, h2⟩ := r.2 i d e; ⟨v, h1, h2.keep g k⟩⟩
theorem Rs.set (r : Rs K G H σ3 σ) {d : D} {v : V} (h : Dv K G H d v) (i : Nat) : Rs K G H (σ3.set i (some d)) (σ.set i (some v)) := ⟨by simp [r.1], fun j e q => by
  by_cases hj : i = j
  · subst hj
    by_cases hl : i < σ3.length
    · rw [List.getElem?_set_self hl] at q; cases q
      exact ⟨v, List.getElem?_set_self (by rw [← r.1]; exact hl), h⟩
    · rw [List.getElem?_eq_none (by simpa using hl)] at q; cases q
  · rw [List.getElem?_set_ne hj] at q ⊢
    exact r.2 j e q⟩
theorem Rs.clear (r : Rs K G H σ3 σ) (i : Nat) : Rs K G H (σ3.set i none) (σ.set i none) := ⟨by simp [r.1], fun j e q => by
  by_cases hj : i = j
  · subst hj
    by_cases hl : i < σ3.length
    · rw [List.getElem?_set_self hl] at q; cases q
    · rw [List.getElem?_eq_none (by simpa using hl)] at q; cases q
  · rw [List.getElem?_set_ne hj] at q ⊢
    exact r.2 j e q⟩
end
/-- what is wanted of a value, lifted -/
def Qk (K : K3) (G : Gp) (H : Hp) (Q3 : QK) (Q : VK) : Prop := ∀ d G' v H', Q3 d G' → GH K G' H' → Dv K G' H' d v → Keep G H G' H' → Q v H'
def Bk (K : K3) (G : Gp) (H : Hp) (Q3 : Bool → Gp → Prop) (Q : Bool → Hp → Prop) : Prop := ∀ b G' H', Q3 b G' → GH K G' H' → Keep G H G' H' → Q b H'
def Ak (K : K3) (G : Gp) (H : Hp) (Q3 : List D → Gp → Prop) (Q : List V → Hp → Prop) : Prop := ∀ d G' v H', Q3 d G' → GH K G' H' → DvL K G' H' d v → Keep G H G' H' → Q v H'
def Sk (K : K3) (G : Gp) (H : Hp) (Q3 : St3 → Gp → Prop) (Q : St → Hp → Prop) : Prop := ∀ σ3 G' σ H', Q3 σ3 G' → GH K G' H' → Rs K G' H' σ3 σ → Keep G H G' H' → Q σ H'
def Xk (K : K3) (G : Gp) (H : Hp) (E3 : EK) (E : XK) : Prop := ∀ x G' c d H', E3 x G' → GH K G' H' → Xv K G' H' x c d → Keep G H G' H' → E c d H'
structure Dk (K : K3) (G : Gp) (H : Hp) (W : WX) (D3 : Ends3) (D : Ends) : Prop where
  nx : Sk K G H D3.nx D.nx
  rt : Qk K G H D3.rt D.rt
  bk : Sk K G H D3.bk D.bk
  ct : Sk K G H D3.ct D.ct
  ex : ∀ x σ3 G' c d σ H', D3.ex x σ3 G' → GH K G' H' → Rs K G' H' σ3 σ → Xv K G' H' x c d → Keep G H G' H' → W c d σ H'
def liftE (K : K3) (W : WX) (t : TE3) : TE := fun σ H Q => ∃ σ3 G Q3 E3, GH K G H ∧ Rs K G H σ3 σ ∧ t σ3 G Q3 E3 ∧ Qk K G H Q3 Q ∧ Xk K G H E3 (fun c d H' => W c d σ H')
def liftT (K : K3) (W : WX) (t : TT3) : TT := fun σ H Q => ∃ σ3 G Q3 E3, GH K G H ∧ Rs K G H σ3 σ ∧ t σ3 G Q3 E3 ∧ Bk K G H Q3 Q ∧ Xk K G H E3 (fun c d H' => W c d σ H')
def liftA (K : K3) (W : WX) (t : TA3) : TA := fun σ H Q => ∃ σ3 G Q3 E3, GH K G H ∧ Rs K G H σ3 σ ∧ t σ3 G Q3 E3 ∧ Ak K G H Q3 Q ∧ Xk K G H E3 (fun c d H' => W c d σ H')
def liftS (K : K3) (W : WX) (t : TS3) : TS := fun D σ H => ∃ σ3 G D3, GH K G H ∧ Rs K G H σ3 σ ∧ t D3 σ3 G ∧ Dk K G H W D3 D
section
variable {K : K3} {G G' G1 G2 : Gp} {H H' H1 H2 : Hp} {W : WX}
theorem Qk.keep {Q3 : QK} {Q : VK} (k : Keep G H G' H') (q : Qk K G H Q3 Q) : Qk K G' H' Q3 Q := fun d G1 v H1 a b c e => q d G1 v H1 a b c (k.trans e)
theorem Bk.keep {Q3 : Bool → Gp → Prop} {Q : Bool → Hp → Prop} (k : Keep G H G' H') (q : Bk K G H Q3 Q) : Bk K G' H' Q3 Q := fun d G1 H1 a b e => q d G1 H1 a b (k.trans e)
theorem Ak.keep {Q3 : List D → Gp → Prop} {Q : List V → Hp → Prop} (k : Keep G H G' H') (q : Ak K G H Q3 Q) : Ak K G' H' Q3 Q := fun d G1 v H1 a b c e => q d G1 v H1 a b c (k.trans e)
theorem Sk.keep {Q3 : St3 → Gp → Prop} {Q : St → Hp → Prop} (k : Keep G H G' H') (q : Sk K G H Q3 Q) : Sk K G' H' Q3 Q := fun d G1 v H1 a b c e => q d G1 v H1 a b c (k.trans e)
theorem Xk.keep {E3 : EK} {E : XK} (k : Keep G H G' H') (q : Xk K G H E3 E) : Xk K G' H' E3 E := fun d G1 v u H1 a b c e => q d G1 v u H1 a b c (k.trans e)
theorem Dk.keep {D3 : Ends3} {D : Ends} (k : Keep G H G' H') (q : Dk K G H W D3 D) : Dk K G' H' W D3 D :=
  ⟨q.nx.keep k, q.rt.keep k, q.bk.keep k, q.ct.keep k, fun x σ3 G1 c d σ H1 a b r e f => q.ex x σ3 G1 c d σ H1 a b r e (k.trans f)⟩
end
/-! ### the judgements -/
section
variable (X : Cx) (Z : Zx) (W : WX)
def PE3 (e : Expr) (t : TE3) : Prop := PE X e (liftE (Cxk X Z) W t)
def PT3 (e : Expr) (t : TT3) : Prop := PT X e (liftT (Cxk X Z) W t)
def PW3 (e : Expr) (t : TT3) : Prop := PW X e (liftT (Cxk X Z) W t)
def PA3 (es : List Expr) (t : TA3) : Prop := PA X es (liftA (Cxk X Z) W t)
def PS3 (s : Stmt) (t : TS3) : Prop := PS X s (liftS (Cxk X Z) W t)
def PSs3 (s : List Stmt) (t : TS3) : Prop := PSs X s (liftS (Cxk X Z) W t)
end
theorem PE.imp {X : Cx} {e : Expr} {t u : TE} (h : PE X e t) (k : ∀ σ H Q, u σ H Q → t σ H Q) : PE X e u := ⟨fun pins s σ H Q I q => h.run pins s σ H Q I (k _ _ _ q)⟩
theorem PT.imp {X : Cx} {e : Expr} {t u : TT} (h : PT X e t) (k : ∀ σ H Q, u σ H Q → t σ H Q) : PT X e u := ⟨fun pins s σ H Q I q => h.run pins s σ H Q I (k _ _ _ q)⟩
theorem PW.imp {X : Cx} {e : Expr} {t u : TT} (h : PW X e t) (k : ∀ σ H Q, u σ H Q → t σ H Q) : PW X e u := ⟨fun wh pins s σ H Q I q => h.run wh pins s σ H Q I (k _ _ _ q)⟩
theorem PA.imp {X : Cx} {e : List Expr} {t u : TA} (h : PA X e t) (k : ∀ σ H Q, u σ H Q → t σ H Q) : PA X e u := ⟨fun pos pins s σ H Q I q => h.run pos pins s σ H Q I (k _ _ _ q)⟩
theorem PS.imp {X : Cx} {e : Stmt} {t u : TS} (h : PS X e t) (k : ∀ D σ H, u D σ H → t D σ H) : PS X e u := ⟨fun pins s σ H D I q => h.run pins s σ H D I (k _ _ _ q)⟩
theorem PSs.imp {X : Cx} {e : List Stmt} {t u : TS} (h : PSs X e t) (k : ∀ D σ H, u D σ H → t D σ H) : PSs X e u := ⟨fun pins s σ H D I q => h.run pins s σ H D I (k _ _ _ q)⟩
section
variable {K : K3} {G : Gp} {H : Hp} {W : WX} {σ : St} {σ3 : St3}
theorem liftE_one {t : TE3} {R3 : QK} {E3 : EK} {R : VK} (g : GH K G H) (r : Rs K G H σ3 σ) (h : t σ3 G R3 E3) (x : Xk K G H E3 (fun c d H' => W c d σ H'))
    (k : ∀ d G' v H', R3 d G' → GH K G' H' → Dv K G' H' d v → Keep G H G' H' → R v H') : liftE K W t σ H R := ⟨σ3, G, R3, E3, g, r, h, k, x⟩
end
/-! ### names, constants -/
def tv (i : Nat) : TE3 := fun σ G Q _ => ∃ d, gt σ i = some d ∧ Q d G
def tc (d : D) : TE3 := fun _ G Q _ => Q d G
section
variable {X : Cx} {Z : Zx} {W : WX} {pos : Pos}
theorem q_of {K : K3} {G : Gp} {H : Hp} {Q3 : QK} {Q : VK} {d : D} {v : V} (q : Qk K G H Q3 Q) (g : GH K G H) (h : Q3 d G) (r : Dv K G H d v) : Q v H := q d G v H h g r Keep.refl
theorem v_ (i : Nat) {x : Str} (hN : X.N[i]? = some x := by rfl) (hv : Vis X.env.scope x := by first | exact Or.inl rfl | exact Or.inr (Or.inl rfl) | exact Or.inr (Or.inr rfl)) (hd : (x == ("__debug__" : Str)) = false := by decide)
    (hcd : (x == ("__classdict__" : Str)) = false := by decide) : PE3 X Z W (.Name x pos) (tv i) := PE.imp (pe_var (i := i) hN hv hd hcd) fun σ H Q h => by
  obtain ⟨σ3, G, Q3, E3, g, r, h, q, _⟩ := h
  obtain ⟨d, e, h⟩ := h
  obtain ⟨v, e1, e2⟩ := r.2 i d (gt_eq _ _ e)
  exact ⟨v, e1, q_of q g h e2⟩
theorem pc_ {e : Expr} {d : D} {v : V} (h : PE X e (tC v)) (r : ∀ K G H, Dv K G H d v) : PE3 X Z W e (tc d) := PE.imp h fun σ H Q ⟨σ3, G, Q3, E3, g, _, h, q, x⟩ => q_of q g h (r _ _ _)
theorem ci_ {i j} : PE3 X Z W (.Constant (.int i) j pos) (tc (.int i)) := pc_ pe_int fun _ _ _ => .int i
theorem cb_ {b j} : PE3 X Z W (.Constant (.bool b) j pos) (tc (.bl b)) := pc_ pe_bl fun _ _ _ => .bl b
theorem cn_ {j} : PE3 X Z W (.Constant .none j pos) (tc .non) := pc_ pe_non fun _ _ _ => .non
theorem cs_ {x j} : PE3 X Z W (.Constant (.str x) j pos) (tc (.str x)) := pc_ pe_str fun _ _ _ => .str x
/-- a constant of the module -/
theorem cg_ {x : Str} {v : V} {u : Value} {d : D} (hm : X.mg x = some u) (r : RelV v u) (rd : ∀ G H, Dv (Cxk X Z) G H d v) (hg : Gl X x := by rfl) (hd : (x == ("__debug__" : Str)) = false := by decide) : PE3 X Z W (.Name x pos) (tc d) :=
  PE.imp (pe_glob hg hm r hd) fun σ H Q ⟨σ3, G, Q3, E3, g, _, h, q, x⟩ => q_of q g h (rd _ _)
end
end L3
namespace L3
open PySem PySem.Spec PyProof.Rows L2
open He (ga)
/-! ### new things -/
/-- a new list: written later (m), or frozen -/
def outL (m : Bool) (xs : List D) (G : Gp) (Q : QK) : Prop := match m with
  | true => ∀ p, G p = none → Q (.ref p) (up G p (.lst xs))
  | false => Q (.fl xs) G
section
variable {K : K3} {G : Gp} {H : Hp} {Q3 : QK} {Q : VK}
theorem outL_ok (m : Bool) {xs : List D} {vs : List V} (g : GH K G H) (r : DvL K G H xs vs) (q : Qk K G H Q3 Q) (h : outL m xs G Q3) {p : Addr} (n : H p = none) : Q (.ref p) (upd H p (.lst vs)) := by
  cases m with
  | true => exact q _ _ _ _ (h p (g.free n)) (g.newG n ⟨vs, upd_same, r.keep g (Keep.newG n)⟩) (.ref p) (Keep.newG n)
  | false => exact q _ _ _ _ h (g.new n) (.fl upd_same (g.free n) (r.keep g (Keep.new n))) (Keep.new n)
theorem outT_ok {xs : List D} {vs : List V} (g : GH K G H) (r : DvL K G H xs vs) (q : Qk K G H Q3 Q) (h : Q3 (.tup xs) G) {p : Addr} (n : H p = none) : Q (.ref p) (upd H p (.tup vs)) :=
  q _ _ _ _ h (g.new n) (.tup (SqT.of upd_same) (r.keep g (Keep.new n))) (Keep.new n)
end
/-- a list or tuple as it stands -/
def sq (G : Gp) : D → Option (List D)
  | .tup xs => some xs
  | .fl xs => some xs
  | .sl xs => some xs
  | .ref p => (match G p with
    | some (.lst xs) => some xs
    | _ => none)
  | _ => none
/-- a list -/
def lq (G : Gp) : D → Option (List D)
  | .fl xs => some xs
  | .sl xs => some xs
  | .ref p => (match G p with
    | some (.lst xs) => some xs
    | _ => none)
  | _ => none
/-- a list of ours (not the script) -/
def mq (G : Gp) : D → Option (List D)
  | .fl xs => some xs
  | .ref p => (match G p with
    | some (.lst xs) => some xs
    | _ => none)
  | _ => none
section
variable {K : K3} {G : Gp} {H : Hp}
theorem lq_ok {d : D} {v : V} {xs : List D} (g : GH K G H) (r : Dv K G H d v) (h : lq G d = some xs) : ∃ a vs, v = .ref a ∧ SqL K.f H a vs ∧ DvL K G H xs vs := by
  cases r with
  | fl hs n r => cases h; exact ⟨_, _, rfl, SqL.of hs, r⟩
  | sl hs r => cases h; exact ⟨_, _, rfl, hs.sql, r⟩
  | ref a =>
    unfold lq at h
    simp only at h
    split at h
    · rename_i ys e
      cases h
      obtain ⟨vs, h2, r⟩ := g a _ e
      exact ⟨_, _, rfl, SqL.of h2, r⟩
    · cases h
  | _ => cases h
theorem mq_ok {d : D} {v : V} {xs : List D} (g : GH K G H) (r : Dv K G H d v) (h : mq G d = some xs) : ∃ a vs, v = .ref a ∧ H a = some (.lst vs) ∧ DvL K G H xs vs := by
  cases r with
  | fl hs n r => cases h; exact ⟨_, _, rfl, hs, r⟩
  | ref a =>
    unfold mq at h
    simp only at h
    split at h
    · rename_i ys e
      cases h
      obtain ⟨vs, h2, r⟩ := g a _ e
      exact ⟨_, _, rfl, h2, r⟩
    · cases h
  | _ => cases h
theorem sq_ok {d : D} {v : V} {xs : List D} (g : GH K G H) (r : Dv K G H d v) (h : sq G d = some xs) : ∃ a vs, v = .ref a ∧ (SqL K.f H a vs ∨ SqT K.f H a vs) ∧ DvL K G H xs vs := by
  cases r with
  | tup hs r => cases h; exact ⟨_, _, rfl, .inr hs, r⟩
  | fl hs n r => cases h; exact ⟨_, _, rfl, .inl (SqL.of hs), r⟩
  | sl hs r => cases h; exact ⟨_, _, rfl, .inl hs.sql, r⟩
  | ref a =>
    unfold sq at h
    simp only at h
    split at h
    · rename_i ys e
      cases h
      obtain ⟨vs, h2, r⟩ := g a _ e
      exact ⟨_, _, rfl, .inl (SqL.of h2), r⟩
    · cases h
  | _ => cases h
end
/-! ### operators -/
abbrev Q2 := D → D → Gp → QK → Prop
def OpR3 (X : Cx) (Z : Zx) (f : Value → Value → Sem Value) (t : Q2) : Prop :=
  ∃ r : R2, OpR X f r ∧ ∀ G H x y v u Q3 Q, GH (Cxk X Z) G H → Dv (Cxk X Z) G H x v → Dv (Cxk X Z) G H y u → t x y G Q3 → Qk (Cxk X Z) G H Q3 Q → r v u H Q
def t2 (t : Q2) (ta tb : TE3) : TE3 := fun σ G Q E => ta σ G (fun x G1 => tb σ G1 (fun y G2 => t x y G2 Q) E) E
section
variable {X : Cx} {Z : Zx} {W : WX} {a b : Expr} {ta tb : TE3} {pos : Pos}
theorem two_ {r : R2} {t : Q2} (k : ∀ G H x y v u Q3 Q, GH (Cxk X Z) G H → Dv (Cxk X Z) G H x v → Dv (Cxk X Z) G H y u → t x y G Q3 → Qk (Cxk X Z) G H Q3 Q → r v u H Q) (σ : St) (H : Hp) (Q : VK) (h : liftE (Cxk X Z) W (t2 t ta tb) σ H Q) : tOp r (liftE (Cxk X Z) W ta) (liftE (Cxk X Z) W tb) σ H Q := by
  obtain ⟨σ3, G, Q3, E3, g, rs, h, q, x⟩ := h
  refine ⟨σ3, G, _, E3, g, rs, h, fun d1 G1 v1 H1 h1 g1 r1 k1 => ?_, x⟩
  refine ⟨σ3, G1, _, E3, g1, rs.keep g k1, h1, fun d2 G2 v2 H2 h2 g2 r2 k2 => ?_, x.keep k1⟩
  exact k G2 H2 d1 d2 v1 v2 Q3 Q g2 (r1.keep g1 k2) r2 h2 (q.keep (k1.trans k2))
theorem op_ {op : Operator} {t : Q2} (ho : OpR3 X Z (binaryOp op) t) (ha : PE3 X Z W a ta) (hb : PE3 X Z W b tb) : PE3 X Z W (.BinOp a op b pos) (t2 t ta tb) := by
  obtain ⟨r, h, k⟩ := ho
  exact PE.imp (pe_op h ha hb) (two_ k)
theorem cm_ {op : CmpOp} {t : Q2} (ho : OpR3 X Z (compareOp op) t) (ha : PE3 X Z W a ta) (hb : PE3 X Z W b tb) (hm : behindInMarks op b = false) : PE3 X Z W (.Compare a [op] [b] pos) (t2 t ta tb) := by
  obtain ⟨r, h, k⟩ := ho
  exact PE.imp (pe_cmpR h ha hb hm) (two_ k)
/-- as a test -/
def tb3 (t : TE3) : TT3 := fun σ G Q E => t σ G (fun d G1 => ∃ b, d = .bl b ∧ Q b G1) E
theorem tcm_ {op : CmpOp} {t : Q2} (ho : OpR3 X Z (compareOp op) t) (ha : PE3 X Z W a ta) (hb : PE3 X Z W b tb) (hm : behindInMarks op b = false) : PT3 X Z W (.Compare a [op] [b] pos) (tb3 (t2 t ta tb)) := by
  obtain ⟨r, h, k⟩ := ho
  refine PT.imp (pt_cmpR h ha hb hm) fun σ H Q hq => two_ (W := W) k σ H (fun x H' => ∃ k, x = .bl k ∧ Q k H') ?_
  obtain ⟨σ3, G, Q3, E3, g, rs, h, q, x⟩ := hq
  refine ⟨σ3, G, _, E3, g, rs, h, fun d G1 v H1 ⟨b, e, h1⟩ g1 r1 k1 => ?_, x⟩
  subst e
  cases r1
  exact ⟨b, rfl, q b G1 H1 h1 g1 k1⟩
end
def two64 (i : Int) : Prop := -(2 ^ 64) < i ∧ i < 2 ^ 64
def mulOk (i j : Int) : Prop := two64 i ∨ two64 j ∨ CMulW i j
def divOk (j : Int) : Prop := (j ≠ 0 ∧ j.natAbs < 1073741824)
def add3 (m : Bool) : Q2 := fun x y G Q => match x, y with
  | .int i, .int j => Q (.int (i + j)) G
  | .str i, .str j => i.length + j.length ≤ sizeLine ∧ Q (.str (i ++ j)) G
  | .tup xs, .tup ys => xs.length + ys.length ≤ sizeLine ∧ Q (.tup (xs ++ ys)) G
  | x, y => ∃ xs ys, mq G x = some xs ∧ mq G y = some ys ∧ xs.length + ys.length ≤ sizeLine ∧ outL m (xs ++ ys) G Q
def sub3 : Q2 := fun x y G Q => match x, y with
  | .int i, .int j => Q (.int (i - j)) G
  | _, _ => False
def repOk (n : Nat) (k : Int) : Prop := -(2 ^ 63) ≤ k ∧ k < 2 ^ 63 ∧ n * k.toNat ≤ sizeLine
def mul3 (m : Bool) : Q2 := fun x y G Q => match x, y with
  | .int i, .int j => mulOk i j ∧ Q (.int (i * j)) G
  | .tup xs, .int k => xs ≠ [] ∧ 2 ≤ k ∧ k ≤ 1000 ∧ xs.length ≤ 1000 ∧ Q (.tup (List.replicate k.toNat xs).flatten) G
  | x, .int k => ∃ xs, mq G x = some xs ∧ repOk xs.length k ∧ outL m (List.replicate k.toNat xs).flatten G Q
  | _, _ => False
def fdiv3 : Q2 := fun x y G Q => match x, y with
  | .int i, .int j => 0 < j ∧ j < 1073741824 ∧ Q (.int (i / j)) G
  | _, _ => False
def mod3 : Q2 := fun x y G Q => match x, y with
  | .int i, .int j => 0 < j ∧ Q (.int (i % j)) G
  | _, _ => False
def pow3 : Q2 := fun x y G Q => match x, y with
  | .int i, .int j => CPow i j ∧ Q (.int (i ^ j.toNat)) G
  | _, _ => False
section
variable {X : Cx} {Z : Zx}
theorem SqT.nonnil {K : K3} {G : Gp} {H : Hp} {xs : List D} {vs : List V} (r : DvL K G H xs vs) (h : xs ≠ []) : vs ≠ [] := by
  intro e; subst e; cases r; exact h rfl
theorem o_add (m : Bool) : OpR3 X Z (binaryOp .Add) (add3 m) := by
  refine ⟨_, op_add.or (op_add_str.or (op_catA.or op_cat)), fun G H x y v u Q3 Q g rx ry h q => ?_⟩
  unfold add3 at h
  split at h
  · cases rx; cases ry
    exact .inl ⟨_, _, rfl, rfl, q_of q g h (.int _)⟩
  · cases rx; cases ry
    exact .inr (.inl ⟨_, _, rfl, rfl, h.1, q_of q g h.2 (.str _)⟩)
  · cases rx with
    | tup s1 r1 =>
    cases ry with
    | tup s2 r2 =>
    rename_i a vs b ws
    refine .inr (.inr (.inl ⟨_, _, _, _, rfl, rfl, s1, s2, by rw [← r1.length, ← r2.length]; exact h.1, ?_⟩))
    have rr := r1.append r2
    have hq := h.2
    refine ⟨fun e => ?_, fun _ e => ?_, fun e1 e2 p n => outT_ok g rr q hq n⟩
    · subst e
      cases r1
      exact q_of q g hq (.tup s2 r2)
    · subst e
      cases r2
      rw [List.append_nil] at hq
      exact q_of q g hq (.tup s1 r1)
  · obtain ⟨xs, ys, e1, e2, l, h⟩ := h
    obtain ⟨a, vs, ea, s1, r1⟩ := mq_ok g rx e1
    obtain ⟨b, ws, eb, s2, r2⟩ := mq_ok g ry e2
    exact .inr (.inr (.inr ⟨a, b, vs, ws, ea, eb, s1, s2, by rw [← r1.length, ← r2.length]; exact l, fun p n => outL_ok m g (r1.append r2) q h n⟩))
theorem o_sub : OpR3 X Z (binaryOp .Sub) sub3 := by
  refine ⟨_, op_sub, fun G H x y v u Q3 Q g rx ry h q => ?_⟩
  unfold sub3 at h
  split at h
  · cases rx; cases ry
    exact ⟨_, _, rfl, rfl, q_of q g h (.int _)⟩
  · exact h.elim
theorem o_fdiv : OpR3 X Z (binaryOp .FloorDiv) fdiv3 := by
  refine ⟨_, op_fdiv, fun G H x y v u Q3 Q g rx ry h q => ?_⟩
  unfold fdiv3 at h
  split at h
  · cases rx; cases ry
    exact ⟨_, _, rfl, rfl, ⟨h.1, h.2.1⟩, q_of q g h.2.2 (.int _)⟩
  · exact h.elim
theorem o_mod : OpR3 X Z (binaryOp .Mod) mod3 := by
  refine ⟨_, op_mod, fun G H x y v u Q3 Q g rx ry h q => ?_⟩
  unfold mod3 at h
  split at h
  · cases rx; cases ry
    exact ⟨_, _, rfl, rfl, h.1, q_of q g h.2 (.int _)⟩
  · exact h.elim
theorem o_pow : OpR3 X Z (binaryOp .Pow) pow3 := by
  refine ⟨_, op_pow, fun G H x y v u Q3 Q g rx ry h q => ?_⟩
  unfold pow3 at h
  split at h
  · cases rx; cases ry
    exact ⟨_, _, rfl, rfl, h.1, q_of q g h.2 (.int _)⟩
  · exact h.elim
theorem o_mul (m : Bool) : OpR3 X Z (binaryOp .Mult) (mul3 m) := by
  refine ⟨_, op_mul.or (op_mulW.or (op_repT.or op_rep)), fun G H x y v u Q3 Q g rx ry h q => ?_⟩
  unfold mul3 at h
  split at h
  · cases rx; cases ry
    obtain ⟨c, h⟩ := h
    have hq := q_of q g h (.int _)
    rcases c with c | c | c
    · exact .inl ⟨_, _, rfl, rfl, .inl c, hq⟩
    · exact .inl ⟨_, _, rfl, rfl, .inr c, hq⟩
    · exact .inr (.inl ⟨_, _, rfl, rfl, c, hq⟩)
  · cases ry
    cases rx with
    | tup s r =>
    obtain ⟨h1, h2, h3, h4, h⟩ := h
    exact .inr (.inr (.inl ⟨_, _, _, rfl, rfl, s, SqT.nonnil r h1, h2, h3, by rw [← r.length]; exact h4, fun p n => outT_ok g (r.flat _) q h n⟩))
  · cases ry
    obtain ⟨xs, e1, ⟨h1, h2, h3⟩, h⟩ := h
    obtain ⟨a, vs, ea, s, r⟩ := mq_ok g rx e1
    exact .inr (.inr (.inr ⟨_, _, _, ea, rfl, s, h1, h2, by rw [← r.length]; exact h3, fun p n => outL_ok m g (r.flat _) q h n⟩))
  · exact h.elim
/-! ### comparisons of ints -/
def lt3 : Q2 := fun x y G Q => match x, y with
  | .int i, .int j => Q (.bl (decide (i < j))) G
  | _, _ => False
def le3 : Q2 := fun x y G Q => match x, y with
  | .int i, .int j => Q (.bl (decide (i ≤ j))) G
  | _, _ => False
theorem o_lt : OpR3 X Z (compareOp .Lt) lt3 := by
  refine ⟨_, op_lt, fun G H x y v u Q3 Q g rx ry h q => ?_⟩
  unfold lt3 at h
  split at h
  · cases rx; cases ry
    exact ⟨_, _, rfl, rfl, q_of q g h (.bl _)⟩
  · exact h.elim
theorem o_le : OpR3 X Z (compareOp .LtE) le3 := by
  refine ⟨_, op_le, fun G H x y v u Q3 Q g rx ry h q => ?_⟩
  unfold le3 at h
  split at h
  · cases rx; cases ry
    exact ⟨_, _, rfl, rfl, q_of q g h (.bl _)⟩
  · exact h.elim
def gt3 : Q2 := fun x y => lt3 y x
def ge3 : Q2 := fun x y => le3 y x
theorem o_gt : OpR3 X Z (compareOp .Gt) gt3 := by
  refine ⟨_, op_gt, fun G H x y v u Q3 Q g rx ry h q => ?_⟩
  unfold gt3 lt3 at h
  split at h
  · cases rx; cases ry
    exact ⟨_, _, rfl, rfl, q_of q g h (.bl _)⟩
  · exact h.elim
theorem o_ge : OpR3 X Z (compareOp .GtE) ge3 := by
  refine ⟨_, op_ge, fun G H x y v u Q3 Q g rx ry h q => ?_⟩
  unfold ge3 le3 at h
  split at h
  · cases rx; cases ry
    exact ⟨_, _, rfl, rfl, q_of q g h (.bl _)⟩
  · exact h.elim
end
end L3
namespace L3
open PySem PySem.Spec PyProof.Rows L2
open He (ga)
/-! ### texts by their letters -/
theorem ofString_inj {a b : String} : (Str.ofString a = Str.ofString b) ↔ a = b := by
  constructor
  · intro h
    have h1 := congrArg (fun z : Str => z.cps.toList) h
    have e : ∀ s : String, (Str.ofString s).cps.toList = s.toList.map Char.toNat := fun s => by
      show (cpsOfBytes 0 0 s.toByteArray.data.toList).toArray.toList = _
      rw [List.toList_toArray, cpsOfBytes_string]
    simp only [e] at h1
    have inj : ∀ l m : List Char, l.map Char.toNat = m.map Char.toNat → l = m := by
      intro l
      induction l with
      | nil => intro m h; cases m with
        | nil => rfl
        | cons _ _ => cases h
      | cons c l ih => intro m h; cases m with
        | nil => cases h
        | cons d m =>
          injection h with h1 h2
          have : c = d := Char.toNat_inj.mp h1
          rw [this, ih m h2]
    have h2 := inj _ _ h1
    have := congrArg String.ofList h2
    simpa using this
  · intro h; rw [h]
/-! ### equality -/
mutual
def eqD : D → D → Bool
  | .non, .non => true
  | .bl a, .bl b => a == b
  | .bl a, .int j => (if a then 1 else 0) == j
  | .int i, .bl b => i == (if b then 1 else 0)
  | .int i, .int j => i == j
  | .str x, .str y => x == y
  | .tup xs, .tup ys => eqL xs ys
  | .fl xs, .fl ys => eqL xs ys
  | .fl xs, .sl ys => eqL xs ys
  | .sl xs, .fl ys => eqL xs ys
  | .sl xs, .sl ys => eqL xs ys
  | _, _ => false
def eqL : List D → List D → Bool
  | [], [] => true
  | x :: xs, y :: ys => eqD x y && eqL xs ys
  | _, _ => false
end
mutual
def sh : Nat → D → Bool
  | _, .non => true
  | _, .bl _ => true
  | _, .int _ => true
  | _, .str x => PyData.strOk x
  | n + 1, .tup xs => shL n xs
  | n + 1, .fl xs => shL n xs
  | n + 1, .sl xs => shL n xs
  | _, _ => false
def shL : Nat → List D → Bool
  | _, [] => true
  | n, x :: xs => sh n x && shL n xs
end
mutual
def py : D → PyData
  | .non => .none
  | .bl b => .bool b
  | .int i => .int i
  | .str x => .str x
  | .tup xs => .tuple (pyL xs)
  | .fl xs => .list (pyL xs)
  | .sl xs => .list (pyL xs)
  | _ => .none
def pyL : List D → List PyData
  | [] => []
  | x :: xs => py x :: pyL xs
end
mutual
theorem sh_lay : ∀ (n : Nat) (d : D), sh n d = true → (py d).canLay0 = true ∧ (py d).depth ≤ n
  | _, .non, _ => by simp [py, PyData.canLay0, PyData.depth]
  | _, .bl _, _ => by simp [py, PyData.canLay0, PyData.depth]
  | _, .int _, _ => by simp [py, PyData.canLay0, PyData.depth]
  | _, .str x, h => by
    have h : PyData.strOk x = true := by simpa [sh] using h
    simp [py, PyData.canLay0, PyData.depth, h]
  | n + 1, .tup xs, h => by
    have := shL_lay n xs (by simpa [sh] using h)
    simp only [py, PyData.canLay0, PyData.depth]
    exact ⟨this.1, by omega⟩
  | n + 1, .fl xs, h => by
    have := shL_lay n xs (by simpa [sh] using h)
    simp only [py, PyData.canLay0, PyData.depth]
    exact ⟨this.1, by omega⟩
  | n + 1, .sl xs, h => by
    have := shL_lay n xs (by simpa [sh] using h)
    simp only [py, PyData.canLay0, PyData.depth]
    exact ⟨this.1, by omega⟩
  | 0, .tup xs, h => by simp [sh] at h
  | 0, .fl xs, h => by simp [sh] at h
  | 0, .sl xs, h => by simp [sh] at h
  | _, .ob _ _ _, h => by simp [sh] at h
  | _, .emp, h => by simp [sh] at h
  | _, .ref _, h => by simp [sh] at h
  | _, .ex _, h => by simp [sh] at h
  | _, .exf _ _ _, h => by simp [sh] at h
theorem shL_lay : ∀ (n : Nat) (d : List D), shL n d = true → PyData.canLayAll0 (pyL d) = true ∧ PyData.depthAll (pyL d) ≤ n
  | _, [], _ => by simp [pyL, PyData.canLayAll0, PyData.depthAll]
  | n, x :: xs, h => by
    simp only [shL, Bool.and_eq_true] at h
    have h1 := sh_lay n x h.1
    have h2 := shL_lay n xs h.2
    simp only [pyL, PyData.canLayAll0, PyData.depthAll, h1.1, h2.1, Bool.and_true, true_and]
    omega
end
theorem sh_shaped {d : D} (h : sh 64 d = true) : SeqAt.shaped (py d) = true := by
  have := sh_lay 64 d h
  unfold SeqAt.shaped
  rw [this.1, decide_eq_true this.2]; rfl
mutual
theorem eqv_py : ∀ (n : Nat) (d e : D), sh n d = true → sh n e = true → PyData.eqv (py d) (py e) = eqD d e
  | n, d, e, hd, he => by
    cases d with
    | ob _ _ _ => cases n <;> simp [sh] at hd
    | emp => cases n <;> simp [sh] at hd
    | ref _ => cases n <;> simp [sh] at hd
    | ex _ => cases n <;> simp [sh] at hd
    | exf _ _ _ => cases n <;> simp [sh] at hd
    | tup xs =>
      cases n with
      | zero => simp [sh] at hd
      | succ n =>
        cases e with
        | tup ys => simp only [py, PyData.eqv, eqD]; exact eqv_pyL n xs ys (by simpa [sh] using hd) (by simpa [sh] using he)
        | ob _ _ _ => simp [sh] at he
        | emp => simp [sh] at he
        | ref _ => simp [sh] at he
        | ex _ => simp [sh] at he
        | exf _ _ _ => simp [sh] at he
        | _ => simp [py, PyData.eqv, eqD]
    | fl xs =>
      cases n with
      | zero => simp [sh] at hd
      | succ n =>
        cases e with
        | fl ys => simp only [py, PyData.eqv, eqD]; exact eqv_pyL n xs ys (by simpa [sh] using hd) (by simpa [sh] using he)
        | sl ys => simp only [py, PyData.eqv, eqD]; exact eqv_pyL n xs ys (by simpa [sh] using hd) (by simpa [sh] using he)
        | ob _ _ _ => simp [sh] at he
        | emp => simp [sh] at he
        | ref _ => simp [sh] at he
        | ex _ => simp [sh] at he
        | exf _ _ _ => simp [sh] at he
        | _ => simp [py, PyData.eqv, eqD]
    | sl xs =>
      cases n with
      | zero => simp [sh] at hd
      | succ n =>
        cases e with
        | fl ys => simp only [py, PyData.eqv, eqD]; exact eqv_pyL n xs ys (by simpa [sh] using hd) (by simpa [sh] using he)
        | sl ys => simp only [py, PyData.eqv, eqD]; exact eqv_pyL n xs ys (by simpa [sh] using hd) (by simpa [sh] using he)
        | ob _ _ _ => simp [sh] at he
        | emp => simp [sh] at he
        | ref _ => simp [sh] at he
        | ex _ => simp [sh] at he
        | exf _ _ _ => simp [sh] at he
        | _ => simp [py, PyData.eqv, eqD]
    | non => cases e with
      | ob _ _ _ => cases n <;> simp [sh] at he
      | emp => cases n <;> simp [sh] at he
      | ref _ => cases n <;> simp [sh] at he
      | ex _ => cases n <;> simp [sh] at he
      | exf _ _ _ => cases n <;> simp [sh] at he
      | _ => simp [py, PyData.eqv, eqD]
    | bl b => cases e with
      | ob _ _ _ => cases n <;> simp [sh] at he
      | emp => cases n <;> simp [sh] at he
      | ref _ => cases n <;> simp [sh] at he
      | ex _ => cases n <;> simp [sh] at he
      | exf _ _ _ => cases n <;> simp [sh] at he
      | _ => simp [py, PyData.eqv, eqD]
    | int b => cases e with
      | ob _ _ _ => cases n <;> simp [sh] at he
      | emp => cases n <;> simp [sh] at he
      | ref _ => cases n <;> simp [sh] at he
      | ex _ => cases n <;> simp [sh] at he
      | exf _ _ _ => cases n <;> simp [sh] at he
      | _ => simp [py, PyData.eqv, eqD]
    | str b => cases e with
      | ob _ _ _ => cases n <;> simp [sh] at he
      | emp => cases n <;> simp [sh] at he
      | ref _ => cases n <;> simp [sh] at he
      | ex _ => cases n <;> simp [sh] at he
      | exf _ _ _ => cases n <;> simp [sh] at he
      | _ => simp [py, PyData.eqv, eqD]
theorem eqv_pyL : ∀ (n : Nat) (d e : List D), shL n d = true → shL n e = true → PyData.eqvAll (pyL d) (pyL e) = eqL d e
  | _, [], [], _, _ => by simp [pyL, PyData.eqvAll, eqL]
  | _, [], _ :: _, _, _ => by simp [pyL, PyData.eqvAll, eqL]
  | _, _ :: _, [], _, _ => by simp [pyL, PyData.eqvAll, eqL]
  | n, x :: xs, y :: ys, hd, he => by
    simp only [shL, Bool.and_eq_true] at hd he
    simp only [pyL, PyData.eqvAll, eqL]
    rw [eqv_py n x y hd.1 he.1, eqv_pyL n xs ys hd.2 he.2]
end
section
variable {K : K3} {G : Gp} {H : Hp}
mutual
theorem Dv.dp : ∀ {d : D} {v : V} {n : Nat}, Dv K G H d v → sh n d = true → Dp K.f H v (py d)
  | _, _, _, .non, _ => by simp only [py]; exact .non
  | _, _, _, .bl b, _ => by simp only [py]; exact .bl b
  | _, _, _, .int b, _ => by simp only [py]; exact .int b
  | _, _, _, .str b, _ => by simp only [py]; exact .str b
  | _, _, 0, .tup s r, h => by simp [sh] at h
  | _, _, n + 1, .tup s r, h => by simp only [py]; exact .tup s (DvL.dp r (n := n) (by simpa [sh] using h))
  | _, _, 0, .fl s n r, h => by simp [sh] at h
  | _, _, n + 1, .fl s _ r, h => by simp only [py]; exact .lst (SqL.of s) (DvL.dp r (n := n) (by simpa [sh] using h))
  | _, _, 0, .sl s r, h => by simp [sh] at h
  | _, _, n + 1, .sl s r, h => by simp only [py]; exact .lst s.sql (DvL.dp r (n := n) (by simpa [sh] using h))
  | _, _, n, .ob _ _ _ _, h => by cases n <;> simp [sh] at h
  | _, _, n, .emp _ _, h => by cases n <;> simp [sh] at h
  | _, _, n, .ref _, h => by cases n <;> simp [sh] at h
  | _, _, n, .ex _, h => by cases n <;> simp [sh] at h
  | _, _, n, .exf _ _ _ _, h => by cases n <;> simp [sh] at h
theorem DvL.dp : ∀ {d : List D} {v : List V} {n : Nat}, DvL K G H d v → shL n d = true → DpAll K.f H v (pyL d)
  | _, _, _, .nil, _ => by simp only [pyL]; exact .nil
  | _, _, n, .cons r t, h => by
    simp only [shL, Bool.and_eq_true] at h
    simp only [pyL]
    exact .cons (Dv.dp r h.1) (DvL.dp t h.2)
end
end
/-- scalars that == tells apart without a condition -/
def scD : D → D → Bool
  | .non, .non => true | .non, .int _ => true | .int _, .non => true | .non, .bl _ => true | .bl _, .non => true | .non, .str _ => true | .str _, .non => true
  | .int _, .int _ => true | .bl _, .bl _ => true | .str _, .str _ => true
  | .int _, .str _ => true | .str _, .int _ => true | .bl _, .str _ => true | .str _, .bl _ => true
  | _, _ => false
def eqOk (x y : D) : Bool := scD x y || (sh 64 x && sh 64 y)
def eq3 : Q2 := fun x y G Q => eqOk x y = true ∧ Q (.bl (eqD x y)) G
def ne3 : Q2 := fun x y G Q => eqOk x y = true ∧ Q (.bl (!eqD x y)) G
section
variable {K : K3} {G : Gp} {H : Hp}
theorem scal_of {x y : D} {v u : V} (rx : Dv K G H x v) (ry : Dv K G H y u) (h : scD x y = true) : scal v u = true ∧ decide (v = u) = eqD x y := by
  cases rx <;> cases ry <;> first | (simp [scD] at h; done) | (constructor <;> simp [scal, eqD] <;> rfl) | (constructor <;> simp [scal, eqD])
variable {X : Cx} {Z : Zx}
theorem o_eq {k : Nat} (hr : Room k X.A) : OpR3 X Z (compareOp .Eq) eq3 := by
  refine ⟨_, op_eq.or (op_eqD hr.units), fun G H x y v u Q3 Q g rx ry h q => ?_⟩
  obtain ⟨c, h⟩ := h
  cases e : scD x y with
  | true =>
    obtain ⟨h1, h2⟩ := scal_of rx ry e
    exact .inl ⟨h1, by rw [h2]; exact q_of q g h (.bl _)⟩
  | false =>
    unfold eqOk at c
    rw [e, Bool.false_or, Bool.and_eq_true] at c
    refine .inr ⟨_, _, rx.dp c.1, ry.dp c.2, sh_shaped c.1, sh_shaped c.2, ?_⟩
    rw [eqv_py 64 x y c.1 c.2]
    exact q_of q g h (.bl _)
theorem o_ne {k : Nat} (hr : Room k X.A) : OpR3 X Z (compareOp .NotEq) ne3 := by
  refine ⟨_, op_ne.or (op_neD hr.units), fun G H x y v u Q3 Q g rx ry h q => ?_⟩
  obtain ⟨c, h⟩ := h
  cases e : scD x y with
  | true =>
    obtain ⟨h1, h2⟩ := scal_of rx ry e
    exact .inl ⟨h1, by rw [h2]; exact q_of q g h (.bl _)⟩
  | false =>
    unfold eqOk at c
    rw [e, Bool.false_or, Bool.and_eq_true] at c
    refine .inr ⟨_, _, rx.dp c.1, ry.dp c.2, sh_shaped c.1, sh_shaped c.2, ?_⟩
    rw [eqv_py 64 x y c.1 c.2]
    exact q_of q g h (.bl _)
end
/-! ### is None, is True, is False -/
def isN : D → Bool
  | .non => true
  | _ => false
def isB (b : Bool) : D → Bool
  | .bl c => c == b
  | _ => false
def is3 (neg : Bool) : Q2 := fun x y G Q => match y with
  | .non => Q (.bl (if neg then !isN x else isN x)) G
  | .bl b => Q (.bl (if neg then !isB b x else isB b x)) G
  | _ => False
theorem isn_ok {K : K3} {G : Gp} {H : Hp} {x : D} {v : V} (r : Dv K G H x v) : decide (v = V.non) = isN x := by
  cases r <;> simp [isN]
theorem op_isAny {X : Cx} : OpR X (compareOp .Is) (fun x y H Q => ∃ b : Bool, y = .bl b ∧ Q (.bl (decide (x = .bl b))) H) := by
  intro pins s σ H x y v u Q I rx ry h
  obtain ⟨b, rfl, q⟩ := h
  cases (show u = Value.bool b from ry)
  cases x with
  | bl c =>
    cases (show v = Value.bool c from rx)
    refine wpAny_pure (fin_bl I q ?_)
    cases b <;> cases c <;> rfl
  | int i => obtain ⟨t, rfl⟩ := rx; exact wpAny_pure (fin_bl I q rfl)
  | str i => obtain ⟨t, rfl⟩ := rx; exact wpAny_pure (fin_bl I q rfl)
  | byt i => obtain ⟨t, rfl⟩ := rx; exact wpAny_pure (fin_bl I q rfl)
  | flt i => obtain ⟨t, rfl⟩ := rx; exact wpAny_pure (fin_bl I q rfl)
  | non => cases (show v = Value.none from rx); exact wpAny_pure (fin_bl I q rfl)
  | ref a => cases (show v = Value.ref a from rx); exact wpAny_pure (fin_bl I q rfl)
  | ty a => cases (show v = Value.type a from rx); exact wpAny_pure (fin_bl I q rfl)
theorem op_notAny {X : Cx} : OpR X (compareOp .IsNot) (fun x y H Q => ∃ b : Bool, y = .bl b ∧ Q (.bl (!decide (x = .bl b))) H) := by
  intro pins s σ H x y v u Q I rx ry h
  obtain ⟨b, rfl, q⟩ := h
  cases (show u = Value.bool b from ry)
  cases x with
  | bl c =>
    cases (show v = Value.bool c from rx)
    refine wpAny_pure (fin_bl I q ?_)
    cases b <;> cases c <;> rfl
  | int i => obtain ⟨t, rfl⟩ := rx; exact wpAny_pure (fin_bl I q rfl)
  | str i => obtain ⟨t, rfl⟩ := rx; exact wpAny_pure (fin_bl I q rfl)
  | byt i => obtain ⟨t, rfl⟩ := rx; exact wpAny_pure (fin_bl I q rfl)
  | flt i => obtain ⟨t, rfl⟩ := rx; exact wpAny_pure (fin_bl I q rfl)
  | non => cases (show v = Value.none from rx); exact wpAny_pure (fin_bl I q rfl)
  | ref a => cases (show v = Value.ref a from rx); exact wpAny_pure (fin_bl I q rfl)
  | ty a => cases (show v = Value.type a from rx); exact wpAny_pure (fin_bl I q rfl)
theorem isb_ok {K : K3} {G : Gp} {H : Hp} {x : D} {v : V} {b : Bool} (r : Dv K G H x v) : decide (v = V.bl b) = isB b x := by
  cases r <;> simp [isB] <;> rfl
section
variable {X : Cx} {Z : Zx}
theorem o_is : OpR3 X Z (compareOp .Is) (is3 false) := by
  refine ⟨_, op_isN.or op_isAny, fun G H x y v u Q3 Q g rx ry h q => ?_⟩
  unfold is3 at h
  split at h
  · cases ry
    exact .inl ⟨rfl, by rw [isn_ok rx]; exact q_of q g h (.bl _)⟩
  · cases ry
    exact .inr ⟨_, rfl, by rw [isb_ok rx]; exact q_of q g h (.bl _)⟩
  · exact h.elim
theorem o_isnot : OpR3 X Z (compareOp .IsNot) (is3 true) := by
  refine ⟨_, op_notN.or op_notAny, fun G H x y v u Q3 Q g rx ry h q => ?_⟩
  unfold is3 at h
  split at h
  · cases ry
    exact .inl ⟨rfl, by rw [isn_ok rx]; exact q_of q g h (.bl _)⟩
  · cases ry
    exact .inr ⟨_, rfl, by rw [isb_ok rx]; exact q_of q g h (.bl _)⟩
  · exact h.elim
end
end L3
namespace L3
open PySem PySem.Spec PyProof.Rows L2
open He (ga)
/-! ### x in a sequence of flat things -/
def flD : D → Bool
  | .non => true
  | .bl _ => true
  | .int _ => true
  | .str _ => true
  | _ => false
def inD (x : D) (xs : List D) : Bool := xs.any fun y => eqD y x
def in3 (neg : Bool) : Q2 := fun x y G Q => ∃ xs, sq G y = some xs ∧ flD x = true ∧ xs.all flD = true ∧ Q (.bl (if neg then !inD x xs else inD x xs)) G
section
variable {K : K3} {G : Gp} {H : Hp}
theorem fl_ok {x : D} {v : V} (r : Dv K G H x v) (h : flD x = true) : flatV v = true := by
  cases r <;> first | rfl | (simp [flD] at h)
theorem eqV_ok {x y : D} {v u : V} (rx : Dv K G H x v) (ry : Dv K G H y u) (h : flD x = true) (h' : flD y = true) : eqV v u = eqD x y := by
  cases rx <;> cases ry <;> first | (simp [flD] at h; done) | (simp [flD] at h'; done) | simp [eqV, eqD]
theorem fls_ok : ∀ {xs : List D} {vs : List V}, DvL K G H xs vs → xs.all flD = true → vs.all flatV = true
  | _, _, .nil, _ => rfl
  | _, _, .cons r t, h => by
    rw [List.all_cons, Bool.and_eq_true] at h ⊢
    exact ⟨fl_ok r h.1, fls_ok t h.2⟩
theorem inV_ok {x : D} {v : V} (rx : Dv K G H x v) (h : flD x = true) : ∀ {xs : List D} {vs : List V}, DvL K G H xs vs → xs.all flD = true → inV v vs = inD x xs
  | _, _, .nil, _ => rfl
  | _, _, .cons r t, f => by
    rw [List.all_cons, Bool.and_eq_true] at f
    have ih := inV_ok rx h t f.2
    unfold inV inD at ih ⊢
    rw [List.any_cons, List.any_cons, eqV_ok r rx f.1 h, ih]
variable {X : Cx} {Z : Zx}
theorem o_in : OpR3 X Z (compareOp .In) (in3 false) := by
  refine ⟨_, op_in_seq, fun G H x y v u Q3 Q g rx ry h q => ?_⟩
  obtain ⟨xs, e, fx, fs, h⟩ := h
  obtain ⟨a, vs, ea, s, r⟩ := sq_ok g ry e
  refine ⟨a, vs, ea, s, fl_ok rx fx, fls_ok r fs, ?_⟩
  rw [inV_ok rx fx r fs]
  exact q_of q g h (.bl _)
theorem o_notin : OpR3 X Z (compareOp .NotIn) (in3 true) := by
  refine ⟨_, op_notIn_seq, fun G H x y v u Q3 Q g rx ry h q => ?_⟩
  obtain ⟨xs, e, fx, fs, h⟩ := h
  obtain ⟨a, vs, ea, s, r⟩ := sq_ok g ry e
  refine ⟨a, vs, ea, s, fl_ok rx fx, fls_ok r fs, ?_⟩
  rw [inV_ok rx fx r fs]
  exact q_of q g h (.bl _)
end
/-! ### a < b < c -/
def tch (t t' : Q2) (ta tb tc : TE3) : TE3 := fun σ G Q E => ta σ G (fun x G1 => tb σ G1 (fun y G2 => t x y G2 fun z G3 => ∃ k, z = .bl k ∧ if k = true then tc σ G3 (fun w G4 => t' y w G4 Q) E else Q (.bl false) G3) E) E
section
variable {X : Cx} {Z : Zx} {W : WX} {a b c : Expr} {ta tb tc : TE3} {pos : Pos}
theorem chain_k {r r' : R2} {t t' : Q2} (k : ∀ G H x y v u Q3 Q, GH (Cxk X Z) G H → Dv (Cxk X Z) G H x v → Dv (Cxk X Z) G H y u → t x y G Q3 → Qk (Cxk X Z) G H Q3 Q → r v u H Q)
    (k' : ∀ G H x y v u Q3 Q, GH (Cxk X Z) G H → Dv (Cxk X Z) G H x v → Dv (Cxk X Z) G H y u → t' x y G Q3 → Qk (Cxk X Z) G H Q3 Q → r' v u H Q) (σ : St) (H : Hp) (Q : VK) (h : liftE (Cxk X Z) W (tch t t' ta tb tc) σ H Q) :
    tChain r r' (liftE (Cxk X Z) W ta) (liftE (Cxk X Z) W tb) (liftE (Cxk X Z) W tc) σ H Q := by
  obtain ⟨σ3, G, Q3, E3, g, rs, h, q, x⟩ := h
  refine ⟨σ3, G, _, E3, g, rs, h, fun d1 G1 v1 H1 h1 g1 r1 k1 => ?_, x⟩
  refine ⟨σ3, G1, _, E3, g1, rs.keep g k1, h1, fun d2 G2 v2 H2 h2 g2 r2 k2 => ?_, x.keep k1⟩
  refine k G2 H2 d1 d2 v1 v2 _ _ g2 (r1.keep g1 k2) r2 h2 fun d3 G3 v3 H3 h3 g3 r3 k3 => ?_
  obtain ⟨b, e, h3⟩ := h3
  subst e
  cases r3
  refine ⟨b, rfl, ?_⟩
  cases b with
  | true =>
    rw [if_pos rfl] at h3 ⊢
    refine ⟨σ3, G3, _, E3, g3, ((rs.keep g k1).keep g1 k2).keep g2 k3, h3, fun d4 G4 v4 H4 h4 g4 r4 k4 => ?_, x.keep ((k1.trans k2).trans k3)⟩
    exact k' G4 H4 d2 d4 v2 v4 Q3 Q g4 ((r2.keep g2 k3).keep g3 k4) r4 h4 (q.keep (((k1.trans k2).trans k3).trans k4))
  | false =>
    rw [if_neg Bool.false_ne_true] at h3 ⊢
    exact q _ _ _ _ h3 g3 (.bl false) ((k1.trans k2).trans k3)
theorem ch_ {op op' : CmpOp} {t t' : Q2} (ho : OpR3 X Z (compareOp op) t) (ho' : OpR3 X Z (compareOp op') t') (ha : PE3 X Z W a ta) (hb : PE3 X Z W b tb) (hc : PE3 X Z W c tc)
    (hm : lastMarks [op, op'] [b, c] = false := by with_unfolding_all rfl) : PE3 X Z W (.Compare a [op, op'] [b, c] pos) (tch t t' ta tb tc) := by
  obtain ⟨r, h, k⟩ := ho
  obtain ⟨r', h', k'⟩ := ho'
  exact PE.imp (pe_chain h h' ha hb hc hm) (chain_k k k')
theorem tch_ {op op' : CmpOp} {t t' : Q2} (ho : OpR3 X Z (compareOp op) t) (ho' : OpR3 X Z (compareOp op') t') (ha : PE3 X Z W a ta) (hb : PE3 X Z W b tb) (hc : PE3 X Z W c tc)
    (hm : lastMarks [op, op'] [b, c] = false := by with_unfolding_all rfl) : PT3 X Z W (.Compare a [op, op'] [b, c] pos) (tb3 (tch t t' ta tb tc)) := by
  obtain ⟨r, h, k⟩ := ho
  obtain ⟨r', h', k'⟩ := ho'
  refine PT.imp (pt_chain h h' ha hb hc hm) fun σ H Q hq => chain_k (W := W) k k' σ H (fun x H' => ∃ k, x = .bl k ∧ Q k H') ?_
  obtain ⟨σ3, G, Q3, E3, g, rs, h, q, x⟩ := hq
  refine ⟨σ3, G, _, E3, g, rs, h, fun d G1 v H1 ⟨b, e, h1⟩ g1 r1 k1 => ?_, x⟩
  subst e
  cases r1
  exact ⟨b, rfl, q b G1 H1 h1 g1 k1⟩
end
/-! ### and, or, not; if -/
def tand (ta tb : TE3) : TE3 := fun σ G Q E => ta σ G (fun x G1 => ∃ c, x = .bl c ∧ if c = true then tb σ G1 Q E else Q (.bl false) G1) E
def tor (ta tb : TE3) : TE3 := fun σ G Q E => ta σ G (fun x G1 => ∃ c, x = .bl c ∧ if c = true then Q (.bl true) G1 else tb σ G1 Q E) E
def tnot (ta : TE3) : TE3 := fun σ G Q E => ta σ G (fun x G1 => ∃ c, x = .bl c ∧ Q (.bl (!c)) G1) E
def tif (tc : TT3) (ta tb : TE3) : TE3 := fun σ G Q E => tc σ G (fun c G1 => if c = true then ta σ G1 Q E else tb σ G1 Q E) E
def Tand (ta tb : TT3) : TT3 := fun σ G Q E => ta σ G (fun c G1 => if c = true then tb σ G1 Q E else Q false G1) E
def Tor (ta tb : TT3) : TT3 := fun σ G Q E => ta σ G (fun c G1 => if c = true then Q true G1 else tb σ G1 Q E) E
def Tnot (ta : TT3) : TT3 := fun σ G Q E => ta σ G (fun c G1 => Q (!c) G1) E
section
variable {X : Cx} {Z : Zx} {W : WX} {a b c : Expr} {rest : List Expr} {ta tb : TE3} {tc td : TT3} {pos : Pos}
theorem one_ {op} {t : TE3} (h : PE3 X Z W a t) : PE3 X Z W (.BoolOp op [a] pos) t := pe_one h
theorem and_ (ha : PE3 X Z W a ta) (hb : PE3 X Z W (.BoolOp .And (b :: rest) pos) tb) : PE3 X Z W (.BoolOp .And (a :: b :: rest) pos) (tand ta tb) := PE.imp (pe_and ha hb) fun σ H Q h => by
  obtain ⟨σ3, G, Q3, E3, g, rs, h, q, x⟩ := h
  refine ⟨σ3, G, _, E3, g, rs, h, fun d1 G1 v1 H1 ⟨c, e, h1⟩ g1 r1 k1 => ?_, x⟩
  subst e
  cases r1
  refine ⟨c, rfl, ?_⟩
  cases c with
  | true => exact ⟨σ3, G1, Q3, E3, g1, rs.keep g k1, h1, q.keep k1, x.keep k1⟩
  | false => exact q _ _ _ _ h1 g1 (.bl false) k1
theorem or_ (ha : PE3 X Z W a ta) (hb : PE3 X Z W (.BoolOp .Or (b :: rest) pos) tb) : PE3 X Z W (.BoolOp .Or (a :: b :: rest) pos) (tor ta tb) := PE.imp (pe_or ha hb) fun σ H Q h => by
  obtain ⟨σ3, G, Q3, E3, g, rs, h, q, x⟩ := h
  refine ⟨σ3, G, _, E3, g, rs, h, fun d1 G1 v1 H1 ⟨c, e, h1⟩ g1 r1 k1 => ?_, x⟩
  subst e
  cases r1
  refine ⟨c, rfl, ?_⟩
  cases c with
  | false => exact ⟨σ3, G1, Q3, E3, g1, rs.keep g k1, h1, q.keep k1, x.keep k1⟩
  | true => exact q _ _ _ _ h1 g1 (.bl true) k1
theorem not_ (ha : PE3 X Z W a ta) : PE3 X Z W (.UnaryOp .Not a pos) (tnot ta) := PE.imp (pe_not ha) fun σ H Q h => by
  obtain ⟨σ3, G, Q3, E3, g, rs, h, q, x⟩ := h
  refine ⟨σ3, G, _, E3, g, rs, h, fun d1 G1 v1 H1 ⟨c, e, h1⟩ g1 r1 k1 => ?_, x⟩
  subst e
  cases r1
  exact ⟨c, rfl, q _ _ _ _ h1 g1 (.bl _) k1⟩
/-- an expression whose value is a bool, as a test -/
theorem tv_ {e : Expr} {t : TE3} (h : PE3 X Z W e t) (he : ∀ whole, isTrue e X.env whole = (do let v ← whole; standAt e.pos; holding [v] (truthy v)) := by intro _; rfl) : PT3 X Z W e (tb3 t) := PT.imp (pt_val h he) fun σ H Q h => by
  obtain ⟨σ3, G, Q3, E3, g, rs, h, q, x⟩ := h
  refine ⟨σ3, G, _, E3, g, rs, h, fun d1 G1 v1 H1 ⟨c, e, h1⟩ g1 r1 k1 => ?_, x⟩
  subst e
  cases r1
  exact ⟨c, rfl, q _ _ _ h1 g1 k1⟩
theorem w1and_ (ha : PT3 X Z W a tc) : PW3 X Z W (.BoolOp .And [a] pos) tc := pw_and1 ha
theorem w1or_ (ha : PT3 X Z W a tc) : PW3 X Z W (.BoolOp .Or [a] pos) tc := pw_or1 ha
theorem wand_ (ha : PT3 X Z W a tc) (hb : PW3 X Z W (.BoolOp .And (b :: rest) pos) td) : PW3 X Z W (.BoolOp .And (a :: b :: rest) pos) (Tand tc td) := PW.imp (pw_and ha hb) fun σ H Q h => by
  obtain ⟨σ3, G, Q3, E3, g, rs, h, q, x⟩ := h
  refine ⟨σ3, G, _, E3, g, rs, h, fun c G1 H1 h1 g1 k1 => ?_, x⟩
  cases c with
  | true => exact ⟨σ3, G1, Q3, E3, g1, rs.keep g k1, h1, q.keep k1, x.keep k1⟩
  | false => exact q _ _ _ h1 g1 k1
theorem wor_ (ha : PT3 X Z W a tc) (hb : PW3 X Z W (.BoolOp .Or (b :: rest) pos) td) : PW3 X Z W (.BoolOp .Or (a :: b :: rest) pos) (Tor tc td) := PW.imp (pw_or ha hb) fun σ H Q h => by
  obtain ⟨σ3, G, Q3, E3, g, rs, h, q, x⟩ := h
  refine ⟨σ3, G, _, E3, g, rs, h, fun c G1 H1 h1 g1 k1 => ?_, x⟩
  cases c with
  | false => exact ⟨σ3, G1, Q3, E3, g1, rs.keep g k1, h1, q.keep k1, x.keep k1⟩
  | true => exact q _ _ _ h1 g1 k1
theorem tw_ (h : PW3 X Z W a tc) : PT3 X Z W a tc := PW.pt h
theorem tnot_ (ha : PT3 X Z W a tc) : PT3 X Z W (.UnaryOp .Not a pos) (Tnot tc) := PT.imp (pt_not ha) fun σ H Q h => by
  obtain ⟨σ3, G, Q3, E3, g, rs, h, q, x⟩ := h
  exact ⟨σ3, G, _, E3, g, rs, h, fun c G1 H1 h1 g1 k1 => q _ _ _ h1 g1 k1, x⟩
theorem if_ (hc : PT3 X Z W c tc) (ha : PE3 X Z W a ta) (hb : PE3 X Z W b tb) : PE3 X Z W (.IfExp c a b pos) (tif tc ta tb) := PE.imp (pe_ifExp hc ha hb) fun σ H Q h => by
  obtain ⟨σ3, G, Q3, E3, g, rs, h, q, x⟩ := h
  refine ⟨σ3, G, _, E3, g, rs, h, fun c G1 H1 h1 g1 k1 => ?_, x⟩
  cases c with
  | true => exact ⟨σ3, G1, Q3, E3, g1, rs.keep g k1, h1, q.keep k1, x.keep k1⟩
  | false => exact ⟨σ3, G1, Q3, E3, g1, rs.keep g k1, h1, q.keep k1, x.keep k1⟩
end
/-! ### lists of expressions; displays -/
def anil : TA3 := fun _ G Q _ => Q [] G
def acons (ta : TE3) (tr : TA3) : TA3 := fun σ G Q E => ta σ G (fun x G1 => tr σ G1 (fun xs G2 => Q (x :: xs) G2) E) E
def ttup (t : TA3) : TE3 := fun σ G Q E => t σ G (fun xs G1 => xs.length ≤ sizeLine ∧ Q (.tup xs) G1) E
def tlst (m : Bool) (t : TA3) : TE3 := fun σ G Q E => t σ G (fun xs G1 => xs.length ≤ sizeLine ∧ outL m xs G1 Q) E
section
variable {X : Cx} {Z : Zx} {W : WX} {e : Expr} {es : List Expr} {te : TE3} {t : TA3} {pos : Pos}
theorem nil_ : PA3 X Z W [] anil := PA.imp pa_nil fun σ H Q h => by
  obtain ⟨σ3, G, Q3, E3, g, rs, h, q, x⟩ := h
  exact q _ _ _ _ h g .nil Keep.refl
theorem cons_ (ha : PE3 X Z W e te) (hr : PA3 X Z W es t) (hs : starEach (e :: es) X.env = (false, eval e X.env) :: starEach es X.env := by rfl) : PA3 X Z W (e :: es) (acons te t) := PA.imp (pa_cons ha hr hs) fun σ H Q h => by
  obtain ⟨σ3, G, Q3, E3, g, rs, h, q, x⟩ := h
  refine ⟨σ3, G, _, E3, g, rs, h, fun d1 G1 v1 H1 h1 g1 r1 k1 => ?_, x⟩
  refine ⟨σ3, G1, _, E3, g1, rs.keep g k1, h1, fun ds G2 vs H2 h2 g2 r2 k2 => ?_, x.keep k1⟩
  exact q _ _ _ _ h2 g2 (.cons (r1.keep g1 k2) r2) (k1.trans k2)
theorem tup_ {x1} (h : PA3 X Z W es t) : PE3 X Z W (.Tuple es x1 pos) (ttup t) := PE.imp (pe_tup h) fun σ H Q h => by
  obtain ⟨σ3, G, Q3, E3, g, rs, h, q, x⟩ := h
  refine ⟨σ3, G, _, E3, g, rs, h, fun ds G1 vs H1 ⟨l, h1⟩ g1 r1 k1 => ⟨by rw [← r1.length]; exact l, fun p n => outT_ok g1 r1 (q.keep k1) h1 n⟩, x⟩
theorem lst_ (m : Bool) (h : PA3 X Z W es t) : PE3 X Z W (.List es pos) (tlst m t) := PE.imp (pe_lst h) fun σ H Q h => by
  obtain ⟨σ3, G, Q3, E3, g, rs, h, q, x⟩ := h
  refine ⟨σ3, G, _, E3, g, rs, h, fun ds G1 vs H1 ⟨l, h1⟩ g1 r1 k1 => ⟨by rw [← r1.length]; exact l, fun p n => outL_ok m g1 r1 (q.keep k1) h1 n⟩, x⟩
end
/-! ### items, slices -/
/-- o[i] of a list, a tuple, a text -/
def ix3 : Q2 := fun x y G Q => match x, y with
  | .str z, .int i => z.length ≤ sizeLine ∧ ∃ c, atI z.cps.toList i = some c ∧ Q (.str ⟨#[c]⟩) G
  | x, .int i => ∃ xs d, sq G x = some xs ∧ atI xs i = some d ∧ Q d G
  | _, _ => False
theorem atI_ok {K : K3} {G : Gp} {H : Hp} {xs : List D} {vs : List V} {i : Int} {d : D} (r : DvL K G H xs vs) (h : atI xs i = some d) : ∃ v, atI vs i = some v ∧ Dv K G H d v := by
  unfold atI at h ⊢
  rw [← r.length]
  cases e : ixN xs.length i with
  | none => rw [e] at h; cases h
  | some j =>
    rw [e] at h
    obtain ⟨v, h1, h2⟩ := r.get (show xs[j]? = some d from h)
    exact ⟨v, h1, h2⟩
theorem DvL.cutV {K : K3} {G : Gp} {H : Hp} {xs : List D} {vs : List V} (r : DvL K G H xs vs) (lo hi : Option Int) : DvL K G H ((xs.drop (HT.sIx xs.length 0 lo)).take (HT.sIx xs.length xs.length hi - HT.sIx xs.length 0 lo)) (L2.cutV vs lo hi) := by
  unfold L2.cutV
  rw [← r.length]
  exact (r.drop _).take _
def cutD {α : Type} (xs : List α) (lo hi : Option Int) : List α := (xs.drop (HT.sIx xs.length 0 lo)).take (HT.sIx xs.length xs.length hi - HT.sIx xs.length 0 lo)
section
variable {X : Cx} {Z : Zx} {W : WX} {a b : Expr} {ta tb : TE3} {pos : Pos}
theorem ix_ (ha : PE3 X Z W a ta) (hb : PE3 X Z W b tb) (hs : PlainIx b) : PE3 X Z W (.Subscript a b pos) (t2 ix3 ta tb) := by
  refine PE.imp (pe_ix ix_seq ha hb hs) (two_ fun G H x y v u Q3 Q g rx ry h q => ?_)
  unfold ix3 at h
  split at h
  · cases rx; cases ry
    obtain ⟨l, c, e, h⟩ := h
    exact .inr (.inr ⟨_, _, c, rfl, rfl, l, e, q_of q g h (.str _)⟩)
  · cases ry
    obtain ⟨xs, d, e, e2, h⟩ := h
    obtain ⟨p, vs, ep, s, r⟩ := sq_ok g rx e
    obtain ⟨w, h1, h2⟩ := atI_ok r e2
    rcases s with s | s
    · exact .inl ⟨p, vs, _, w, ep, rfl, s, h1, q_of q g h h2⟩
    · exact .inr (.inl ⟨p, vs, _, w, ep, rfl, s, h1, q_of q g h h2⟩)
  · exact h.elim
/-- parts of a slice -/
abbrev TO3 := St3 → Gp → (Option Int → Gp → Prop) → EK → Prop
def liftO (K : K3) (W : WX) (t : TO3) : TO := fun σ H Q => ∃ σ3 G Q3 E3, GH K G H ∧ Rs K G H σ3 σ ∧ t σ3 G Q3 E3 ∧ (∀ o G' H', Q3 o G' → GH K G' H' → Keep G H G' H' → Q o H') ∧ Xk K G H E3 (fun c d H' => W c d σ H')
def PO3 (X : Cx) (Z : Zx) (W : WX) (e : Option Expr) (t : TO3) : Prop := PO X e (liftO (Cxk X Z) W t)
theorem PO.imp {e : Option Expr} {t u : TO} (h : PO X e t) (k : ∀ σ H Q, u σ H Q → t σ H Q) : PO X e u := by
  cases h with
  | mk run => exact ⟨fun pins s σ H Q I q => run pins s σ H Q I (k _ _ _ q)⟩
def onone : TO3 := fun _ G Q _ => Q none G
def osome (t : TE3) : TO3 := fun σ G Q E => t σ G (fun x G1 => ∃ i, x = .int i ∧ Q (some i) G1) E
theorem on_ : PO3 X Z W none onone := PO.imp po_none fun σ H Q h => by
  obtain ⟨σ3, G, Q3, E3, g, rs, h, q, x⟩ := h
  exact q _ _ _ h g Keep.refl
theorem os_ (h : PE3 X Z W a ta) : PO3 X Z W (some a) (osome ta) := PO.imp (po_some h) fun σ H Q h => by
  obtain ⟨σ3, G, Q3, E3, g, rs, h, q, x⟩ := h
  refine ⟨σ3, G, _, E3, g, rs, h, fun d1 G1 v1 H1 ⟨i, e, h1⟩ g1 r1 k1 => ?_, x⟩
  subst e
  cases r1
  exact ⟨i, rfl, q _ _ _ h1 g1 k1⟩
/-- x[lo:hi] of a tuple, a list -/
def sl3 (m : Bool) (x : D) (lo hi : Option Int) (G : Gp) (Q : QK) : Prop := match x with
  | .tup xs => Q (.tup (cutD xs lo hi)) G
  | .str z => z.length ≤ sizeLine ∧ Q (.str (cutS z lo hi)) G
  | x => ∃ xs, lq G x = some xs ∧ outL m (cutD xs lo hi) G Q
def tsl (m : Bool) (te : TE3) (tl th : TO3) : TE3 := fun σ G Q E => te σ G (fun x G1 => tl σ G1 (fun lo G2 => th σ G2 (fun hi G3 => sl3 m x lo hi G3 Q) E) E) E
theorem cut_whole {α : Type} {xs : List α} {lo hi : Option Int} (h : HT.sIx xs.length 0 lo = 0 ∧ HT.sIx xs.length xs.length hi = xs.length) : cutD xs lo hi = xs := by
  unfold cutD
  rw [h.1, h.2, List.drop_zero, Nat.sub_zero, List.take_length]
theorem sl_ (m : Bool) {lo hi : Option Expr} {tl th : TO3} {p2 : Pos} (ha : PE3 X Z W a ta) (hl : PO3 X Z W lo tl) (hh : PO3 X Z W hi th) : PE3 X Z W (.Subscript a (.Slice lo hi none p2) pos) (tsl m ta tl th) := by
  refine PE.imp (pe_slice (sl_tupA.or (sl_list.or sl_str)) ha hl hh) fun σ H Q h => ?_
  obtain ⟨σ3, G, Q3, E3, g, rs, h, q, x⟩ := h
  refine ⟨σ3, G, _, E3, g, rs, h, fun d1 G1 v1 H1 h1 g1 r1 k1 => ?_, x⟩
  refine ⟨σ3, G1, _, E3, g1, rs.keep g k1, h1, fun lo' G2 H2 h2 g2 k2 => ?_, x.keep k1⟩
  refine ⟨σ3, G2, _, E3, g2, (rs.keep g k1).keep g1 k2, h2, fun hi' G3 H3 h3 g3 k3 => ?_, x.keep (k1.trans k2)⟩
  have r3 := (r1.keep g1 k2).keep g2 k3
  have q3 := q.keep ((k1.trans k2).trans k3)
  clear h1 h2 r1
  unfold sl3 at h3
  split at h3
  · cases r3 with
    | tup s r =>
    rename_i xs a vs
    refine .inl ⟨a, vs, rfl, s, fun hw => ?_, fun hw p n => outT_ok g3 (r.cutV _ _) q3 h3 n⟩
    rw [← r.length] at hw
    rw [cut_whole hw] at h3
    exact q_of q3 g3 h3 (.tup s r)
  · cases r3
    exact .inr (.inr ⟨_, rfl, h3.1, q_of q3 g3 h3.2 (.str _)⟩)
  · obtain ⟨xs, e, h3⟩ := h3
    obtain ⟨p, vs, ep, s, r⟩ := lq_ok g3 r3 e
    exact .inr (.inl ⟨p, vs, ep, s, fun p n => outL_ok m g3 (r.cutV _ _) q3 h3 n⟩)
end
end L3
namespace L3
open PySem PySem.Spec PyProof.Rows L2
open He (ga)
/-! ### promises of defs -/
abbrev Sp3 := List D → Gp → QK → EK → Prop
def liftSp (K : K3) (sp : Sp3) : Sp := fun vs H Q E => ∃ ds G Q3 E3, GH K G H ∧ DvL K G H ds vs ∧ sp ds G Q3 E3 ∧ Qk K G H Q3 Q ∧ Xk K G H E3 E
/-- the module's name x is a def that keeps sp, by at most j levels -/
structure Fn3 (P : Program) (w : World) (K : PySem.W.Frag) (mg : Str → Option Value) (base : Heap) (x : Str) (j : Nat) (sp : Sp3) : Prop where
  ex : ∃ (f : Addr) (fd : FuncData) (ps : List Str), mg x = some (.ref f) ∧ PySem.W.keepIn K (.ref f) = true ∧ Binds K fd ps [] ∧ FnOk P w K mg base (L2.CX P w) j f fd ps (liftSp ⟨K, Z0⟩ sp)
def tcall (sp : Sp3) (ta : TA3) : TE3 := fun σ G Q E => ta σ G (fun ds G1 => sp ds G1 Q E) E
section
variable {X : Cx} {Z : Zx} {W : WX} {e : Expr} {es : List Expr} {ta : TA3} {pos p : Pos} {x : Str}
theorem call_k {sp : Sp3} (σ : St) (H : Hp) (Q : VK) (h : liftE (Cxk X Z0) W (tcall sp ta) σ H Q) : tCallS (liftSp (Cxk X Z0) sp) (WE W) (liftA (Cxk X Z0) W ta) σ H Q := by
  obtain ⟨σ3, G, Q3, E3, g, rs, h, q, x⟩ := h
  exact ⟨σ3, G, _, E3, g, rs, h, fun ds G1 vs H1 h1 g1 r1 k1 => ⟨ds, G1, Q3, E3, g1, r1, h1, q.keep k1, x.keep k1⟩, x⟩
theorem call_ {j k : Nat} {sp : Sp3} (F : Fn3 X.prog X.w X.K X.mg X.base x j sp) (hr : Room k X.A) (hj : j ≤ k) (tk : Takes X W) (ha : PA3 X Z0 W (e :: es) ta) (hg : Gl X x := by rfl) (hdb : (x == ("__debug__" : Str)) = false := by decide)
    (he : starEach (e :: es) X.env = (false, eval e X.env) :: starEach es X.env := by rfl) (hpl : (backTo pos (starEach es X.env)).any (·.1) = false := by rfl) : PE3 X Z0 W (.Call (.Name x p) (e :: es) [] pos) (tcall sp ta) := by
  obtain ⟨f, fd, ps, hm, hk, hb, F⟩ := F.ex
  exact PE.imp (pe_callS F (hr.mono hj) hg hm hk hb (fun σ => passAt tk σ) ha hdb he hpl) call_k
end
/-! ### built-in functions, by values -/
abbrev QL := List D → Gp → QK → Prop
def CallR3 (X : Cx) (Z : Zx) (f : Value) (t : QL) : Prop := ∃ r : List V → Hp → VK → Prop, CallR X f r ∧ ∀ G H xs vs Q3 Q, GH (Cxk X Z) G H → DvL (Cxk X Z) G H xs vs → t xs G Q3 → Qk (Cxk X Z) G H Q3 Q → r vs H Q
def tcb (t : QL) (ta : TA3) : TE3 := fun σ G Q E => ta σ G (fun ds G1 => t ds G1 Q) E
section
variable {X : Cx} {Z : Zx} {W : WX} {e : Expr} {es : List Expr} {ta : TA3} {pos p : Pos} {x : Str} {id T : String} {t : QL}
theorem cb_k {r : List V → Hp → VK → Prop} (k : ∀ G H xs vs Q3 Q, GH (Cxk X Z) G H → DvL (Cxk X Z) G H xs vs → t xs G Q3 → Qk (Cxk X Z) G H Q3 Q → r vs H Q) (σ : St) (H : Hp) (Q : VK) (h : liftE (Cxk X Z) W (tcb t ta) σ H Q) : tCB r (liftA (Cxk X Z) W ta) σ H Q := by
  obtain ⟨σ3, G, Q3, E3, g, rs, h, q, x⟩ := h
  exact ⟨σ3, G, _, E3, g, rs, h, fun ds G1 vs H1 h1 g1 r1 k1 => k G1 H1 ds vs Q3 Q g1 r1 h1 (q.keep k1), x⟩
theorem bf_ (hc : CallR3 X Z (.builtin id) t) (hm : X.mg x = none) (hv : bootBuiltins x = some (.builtin id)) (ha : PA3 X Z W (e :: es) ta) (hg : Gl X x := by rfl) (hn : x ≠ "__name__" := by decide) (hdb : (x == ("__debug__" : Str)) = false := by decide)
    (he : starEach (e :: es) X.env = (false, eval e X.env) :: starEach es X.env := by rfl) (hpl : (backTo pos (starEach es X.env)).any (·.1) = false := by rfl) : PE3 X Z W (.Call (.Name x p) (e :: es) [] pos) (tcb t ta) := by
  obtain ⟨r, h, k⟩ := hc
  exact PE.imp (pe_callB h hg hm hv ha hn hdb he hpl) (cb_k k)
theorem bt_ (hc : CallR3 X Z (.type T) t) (hm : X.mg x = none) (hv : bootBuiltins x = some (.type T)) (ha : PA3 X Z W (e :: es) ta) (hg : Gl X x := by rfl) (hn : x ≠ "__name__" := by decide) (hdb : (x == ("__debug__" : Str)) = false := by decide)
    (he : starEach (e :: es) X.env = (false, eval e X.env) :: starEach es X.env := by rfl) (hpl : (backTo pos (starEach es X.env)).any (·.1) = false := by rfl) : PE3 X Z W (.Call (.Name x p) (e :: es) [] pos) (tcb t ta) := by
  obtain ⟨r, h, k⟩ := hc
  exact PE.imp (pe_callTy h hg hm hv ha hn hdb he hpl) (cb_k k)
end
/-! #### len, abs, int, max, min, sum, list, tuple, str -/
def bLen : QL := fun ds G Q => match ds with
  | [.str z] => z.length ≤ sizeLine ∧ Q (.int z.length) G
  | [x] => ∃ xs, sq G x = some xs ∧ Q (.int xs.length) G
  | _ => False
def bAbs : QL := fun ds G Q => match ds with
  | [.int i] => Q (.int (if i < 0 then -i else i)) G
  | _ => False
def bInt : QL := fun ds G Q => match ds with
  | [.int i] => Q (.int i) G
  | [.bl b] => Q (.int (if b then 1 else 0)) G
  | _ => False
def bMax2 : QL := fun ds G Q => match ds with
  | [.int i, .int j] => Q (.int (if j > i then j else i)) G
  | _ => False
def bMin2 : QL := fun ds G Q => match ds with
  | [.int i, .int j] => Q (.int (if j < i then j else i)) G
  | _ => False
/-- the ints of a list -/
def intsD : List D → Option (List Int)
  | [] => some []
  | .int i :: r => (intsD r).map (i :: ·)
  | _ => none
def bSum : QL := fun ds G Q => match ds with
  | [x] => ∃ xs ns, lq G x = some xs ∧ intsD xs = some ns ∧ Q (.int ns.sum) G
  | _ => False
def bMax1 : QL := fun ds G Q => match ds with
  | [x] => ∃ xs ns, lq G x = some xs ∧ intsD xs = some ns ∧ 0 < ns.length ∧ ∀ m', m' ∈ ns → (∀ y, y ∈ ns → y ≤ m') → Q (.int m') G
  | _ => False
def bMin1 : QL := fun ds G Q => match ds with
  | [x] => ∃ xs ns, lq G x = some xs ∧ intsD xs = some ns ∧ 0 < ns.length ∧ ∀ m', m' ∈ ns → (∀ y, y ∈ ns → m' ≤ y) → Q (.int m') G
  | _ => False
def bList (m : Bool) : QL := fun ds G Q => match ds with
  | [x] => ∃ xs, sq G x = some xs ∧ outL m xs G Q
  | _ => False
def bTup : QL := fun ds G Q => match ds with
  | [x] => ∃ xs, sq G x = some xs ∧ Q (.tup xs) G
  | _ => False
def bStr : QL := fun ds G Q => match ds with
  | [.int i] => i.natAbs.log2 < 1920 ∧ Q (.str (toString i)) G
  | _ => False
section
variable {K : K3} {G : Gp} {H : Hp} {X : Cx} {Z : Zx}
theorem ints_ok : ∀ {xs : List D} {vs : List V} {ns : List Int}, DvL K G H xs vs → intsD xs = some ns → vs = ns.map V.int
  | [], _, _, .nil, h => by cases h; rfl
  | .int i :: r, _, ns, .cons (.int _) t, h => by
    simp only [intsD, Option.map_eq_some_iff] at h
    obtain ⟨m, h1, h2⟩ := h
    subst h2
    rw [ints_ok t h1]; rfl
  | .non :: _, _, _, _, h => by simp [intsD] at h
  | .bl _ :: _, _, _, _, h => by simp [intsD] at h
  | .str _ :: _, _, _, _, h => by simp [intsD] at h
  | .tup _ :: _, _, _, _, h => by simp [intsD] at h
  | .fl _ :: _, _, _, _, h => by simp [intsD] at h
  | .sl _ :: _, _, _, _, h => by simp [intsD] at h
  | .ob _ _ _ :: _, _, _, _, h => by simp [intsD] at h
  | .emp :: _, _, _, _, h => by simp [intsD] at h
  | .ref _ :: _, _, _, _, h => by simp [intsD] at h
  | .ex _ :: _, _, _, _, h => by simp [intsD] at h
  | .exf _ _ _ :: _, _, _, _, h => by simp [intsD] at h
theorem b_len : CallR3 X Z (.builtin "len") bLen := by
  refine ⟨_, call_len_str.or call_len_seq, fun G H xs vs Q3 Q g r h q => ?_⟩
  unfold bLen at h
  split at h
  · cases r with
    | cons r1 r2 =>
    cases r1; cases r2
    exact .inl ⟨_, rfl, h.1, q_of q g h.2 (.int _)⟩
  · cases r with
    | cons r1 r2 =>
    cases r2
    obtain ⟨xs, e, h⟩ := h
    obtain ⟨p, vs, ep, s, r⟩ := sq_ok g r1 e
    exact .inr ⟨p, vs, by rw [ep], s, by rw [← r.length]; exact q_of q g h (.int _)⟩
  · exact h.elim
theorem b_abs : CallR3 X Z (.builtin "abs") bAbs := by
  refine ⟨_, call_abs, fun G H xs vs Q3 Q g r h q => ?_⟩
  unfold bAbs at h
  split at h
  · cases r with
    | cons r1 r2 =>
    cases r1; cases r2
    exact ⟨_, rfl, q_of q g h (.int _)⟩
  · exact h.elim
theorem b_int : CallR3 X Z (.type "int") bInt := by
  refine ⟨_, call_int1, fun G H xs vs Q3 Q g r h q => ?_⟩
  unfold bInt at h
  split at h
  · cases r with
    | cons r1 r2 =>
    cases r1; cases r2
    exact .inl ⟨_, rfl, q_of q g h (.int _)⟩
  · cases r with
    | cons r1 r2 =>
    cases r1; cases r2
    exact .inr ⟨_, rfl, q_of q g h (.int _)⟩
  · exact h.elim
theorem b_max2 (hc : X.calm = true) : CallR3 X Z (.builtin "max") bMax2 := by
  refine ⟨_, call_max2 hc, fun G H xs vs Q3 Q g r h q => ?_⟩
  unfold bMax2 at h
  split at h
  · cases r with
    | cons r1 r2 =>
    cases r1
    cases r2 with
    | cons r2 r3 =>
    cases r2; cases r3
    exact ⟨_, _, rfl, q_of q g h (.int _)⟩
  · exact h.elim
theorem b_min2 (hc : X.calm = true) : CallR3 X Z (.builtin "min") bMin2 := by
  refine ⟨_, call_min2 hc, fun G H xs vs Q3 Q g r h q => ?_⟩
  unfold bMin2 at h
  split at h
  · cases r with
    | cons r1 r2 =>
    cases r1
    cases r2 with
    | cons r2 r3 =>
    cases r2; cases r3
    exact ⟨_, _, rfl, q_of q g h (.int _)⟩
  · exact h.elim
theorem b_sum (hc : X.calm = true) : CallR3 X Z (.builtin "sum") bSum := by
  refine ⟨_, cr_sum hc, fun G H xs vs Q3 Q g r h q => ?_⟩
  unfold bSum at h
  split at h
  · cases r with
    | cons r1 r2 =>
    cases r2
    obtain ⟨xs, ns, e, e2, h⟩ := h
    obtain ⟨p, vs, ep, s, r⟩ := lq_ok g r1 e
    exact ⟨p, ns, by rw [ep], by rw [← ints_ok r e2]; exact s, q_of q g h (.int _)⟩
  · exact h.elim
theorem b_max1 (hc : X.calm = true) : CallR3 X Z (.builtin "max") bMax1 := by
  refine ⟨_, cr_max hc, fun G H xs vs Q3 Q g r h q => ?_⟩
  unfold bMax1 at h
  split at h
  · cases r with
    | cons r1 r2 =>
    cases r2
    obtain ⟨xs, ns, e, e2, l, h⟩ := h
    obtain ⟨p, vs, ep, s, r⟩ := lq_ok g r1 e
    exact ⟨p, ns, by rw [ep], by rw [← ints_ok r e2]; exact s, l, fun m' h1 h2 => q_of q g (h m' h1 h2) (.int _)⟩
  · exact h.elim
theorem b_min1 (hc : X.calm = true) : CallR3 X Z (.builtin "min") bMin1 := by
  refine ⟨_, cr_min hc, fun G H xs vs Q3 Q g r h q => ?_⟩
  unfold bMin1 at h
  split at h
  · cases r with
    | cons r1 r2 =>
    cases r2
    obtain ⟨xs, ns, e, e2, l, h⟩ := h
    obtain ⟨p, vs, ep, s, r⟩ := lq_ok g r1 e
    exact ⟨p, ns, by rw [ep], by rw [← ints_ok r e2]; exact s, l, fun m' h1 h2 => q_of q g (h m' h1 h2) (.int _)⟩
  · exact h.elim
theorem b_list (m : Bool) : CallR3 X Z (.type "list") (bList m) := by
  refine ⟨_, call_list_of, fun G H xs vs Q3 Q g r h q => ?_⟩
  unfold bList at h
  split at h
  · cases r with
    | cons r1 r2 =>
    cases r2
    obtain ⟨xs, e, h⟩ := h
    obtain ⟨p, vs, ep, s, r⟩ := sq_ok g r1 e
    exact ⟨p, vs, by rw [ep], s, fun l n => outL_ok m g r q h n⟩
  · exact h.elim
theorem b_tup : CallR3 X Z (.type "tuple") bTup := by
  refine ⟨_, call_tuple_of, fun G H xs vs Q3 Q g r h q => ?_⟩
  unfold bTup at h
  split at h
  · cases r with
    | cons r1 r2 =>
    cases r2
    obtain ⟨xs, e, h⟩ := h
    obtain ⟨p, vs, ep, s, r⟩ := sq_ok g r1 e
    refine ⟨p, vs, by rw [ep], ?_⟩
    rcases s with s | s
    · exact .inl ⟨s, fun l n => outT_ok g r q h n⟩
    · exact .inr ⟨s, q_of q g h (.tup s r)⟩
  · exact h.elim
theorem b_str : CallR3 X Z (.type "str") bStr := by
  refine ⟨_, call_str_int, fun G H xs vs Q3 Q g r h q => ?_⟩
  unfold bStr at h
  split at h
  · cases r with
    | cons r1 r2 =>
    cases r1; cases r2
    exact ⟨_, rfl, h.1, q_of q g h.2 (.str _)⟩
  · exact h.elim
/-- all, any of a list of flags -/
def blsD : List D → Option (List Bool)
  | [] => some []
  | .bl i :: r => (blsD r).map (i :: ·)
  | _ => none
theorem bls_ok : ∀ {xs : List D} {vs : List V} {ns : List Bool}, DvL K G H xs vs → blsD xs = some ns → vs = ns.map V.bl
  | [], _, _, .nil, h => by cases h; rfl
  | .bl i :: r, _, ns, .cons (.bl _) t, h => by
    simp only [blsD, Option.map_eq_some_iff] at h
    obtain ⟨m, h1, h2⟩ := h
    subst h2
    rw [bls_ok t h1]; rfl
  | .non :: _, _, _, _, h => by simp [blsD] at h
  | .int _ :: _, _, _, _, h => by simp [blsD] at h
  | .str _ :: _, _, _, _, h => by simp [blsD] at h
  | .tup _ :: _, _, _, _, h => by simp [blsD] at h
  | .fl _ :: _, _, _, _, h => by simp [blsD] at h
  | .sl _ :: _, _, _, _, h => by simp [blsD] at h
  | .ob _ _ _ :: _, _, _, _, h => by simp [blsD] at h
  | .emp :: _, _, _, _, h => by simp [blsD] at h
  | .ref _ :: _, _, _, _, h => by simp [blsD] at h
  | .ex _ :: _, _, _, _, h => by simp [blsD] at h
  | .exf _ _ _ :: _, _, _, _, h => by simp [blsD] at h
def bAll : QL := fun ds G Q => match ds with
  | [x] => ∃ xs bs, lq G x = some xs ∧ blsD xs = some bs ∧ Q (.bl (bs.all id)) G
  | _ => False
def bAny : QL := fun ds G Q => match ds with
  | [x] => ∃ xs bs, lq G x = some xs ∧ blsD xs = some bs ∧ Q (.bl (bs.any id)) G
  | _ => False
theorem b_all (hc : X.calm = true) : CallR3 X Z (.builtin "all") bAll := by
  refine ⟨_, cr_all hc, fun G H xs vs Q3 Q g r h q => ?_⟩
  unfold bAll at h
  split at h
  · cases r with
    | cons r1 r2 =>
    cases r2
    obtain ⟨xs, ns, e, e2, h⟩ := h
    obtain ⟨p, vs, ep, s, r⟩ := lq_ok g r1 e
    exact ⟨p, ns, by rw [ep], by rw [← bls_ok r e2]; exact s, q_of q g h (.bl _)⟩
  · exact h.elim
theorem b_any (hc : X.calm = true) : CallR3 X Z (.builtin "any") bAny := by
  refine ⟨_, cr_any hc, fun G H xs vs Q3 Q g r h q => ?_⟩
  unfold bAny at h
  split at h
  · cases r with
    | cons r1 r2 =>
    cases r2
    obtain ⟨xs, ns, e, e2, h⟩ := h
    obtain ⟨p, vs, ep, s, r⟩ := lq_ok g r1 e
    exact ⟨p, ns, by rw [ep], by rw [← bls_ok r e2]; exact s, q_of q g h (.bl _)⟩
  · exact h.elim
end
/-! ### statements -/
def snext : TS3 := fun D σ G => D.nx σ G
def sseq (t u : TS3) : TS3 := fun D σ G => t { D with nx := u D } σ G
def sbrk : TS3 := fun D σ G => D.bk σ G
def sct : TS3 := fun D σ G => D.ct σ G
def sdrop (te : TE3) : TS3 := fun D σ G => te σ G (fun _ G1 => D.nx σ G1) (fun x G1 => D.ex x σ G1)
def sset (i : Nat) (te : TE3) : TS3 := fun D σ G => te σ G (fun d G1 => D.nx (σ.set i (some d)) G1) (fun x G1 => D.ex x σ G1)
def sret (te : TE3) : TS3 := fun D σ G => te σ G D.rt (fun x G1 => D.ex x σ G1)
def sretN : TS3 := fun D _ G => D.rt .non G
def sif (tc : TT3) (t u : TS3) : TS3 := fun D σ G => tc σ G (fun b G1 => if b = true then t D σ G1 else u D σ G1) (fun x G1 => D.ex x σ G1)
def iadd3 : Q2 := fun x y G Q => match x, y with
  | .int i, .int j => Q (.int (i + j)) G
  | .str i, .str j => i.length + j.length ≤ sizeLine ∧ Q (.str (i ++ j)) G
  | _, _ => False
def saug (i : Nat) (te : TE3) (t : Q2) : TS3 := fun D σ G => ∃ x, gt σ i = some x ∧ te σ G (fun y G1 => t x y G1 fun z G2 => D.nx (σ.set i (some z)) G2) (fun x G1 => D.ex x σ G1)
section
variable {X : Cx} {Z : Zx} {W : WX} {st : Stmt} {rest : List Stmt} {t u : TS3} {e c : Expr} {te : TE3} {tc : TT3} {pos : Pos}
theorem Dk.exk {K : K3} {G : Gp} {H : Hp} {D3 : Ends3} {D : Ends} {σ3 : St3} {σ : St} (d : Dk K G H W D3 D) (g : GH K G H) (rs : Rs K G H σ3 σ) : Xk K G H (fun x G1 => D3.ex x σ3 G1) (fun c dd H' => W c dd σ H') := fun x G' c dd H' h1 g1 xv k => d.ex x σ3 G' c dd σ H' h1 g1 (rs.keep g k) xv k
theorem snil_ : PSs3 X Z W [] snext := PSs.imp pss_nil fun D σ H h => by
  obtain ⟨σ3, G, D3, g, rs, h, d⟩ := h
  exact d.nx _ _ _ _ h g rs Keep.refl
theorem scons_ (h1 : PS3 X Z W st t) (h2 : PSs3 X Z W rest u) : PSs3 X Z W (st :: rest) (sseq t u) := PSs.imp (pss_cons h1 h2) fun D σ H h => by
  obtain ⟨σ3, G, D3, g, rs, h, d⟩ := h
  exact ⟨σ3, G, _, g, rs, h, ⟨fun σ4 G1 τ H1 h1 g1 r1 k1 => ⟨σ4, G1, D3, g1, r1, h1, d.keep k1⟩, d.rt, d.bk, d.ct, d.ex⟩⟩
theorem sone_ (h1 : PS3 X Z W st t) : PSs3 X Z W [st] t := pss_one h1
theorem pass_ : PS3 X Z W (.Pass pos) snext := PS.imp ps_pass fun D σ H h => by
  obtain ⟨σ3, G, D3, g, rs, h, d⟩ := h
  exact d.nx _ _ _ _ h g rs Keep.refl
theorem brk_ : PS3 X Z W (.Break pos) sbrk := PS.imp ps_break fun D σ H h => by
  obtain ⟨σ3, G, D3, g, rs, h, d⟩ := h
  exact d.bk _ _ _ _ h g rs Keep.refl
theorem cont_ : PS3 X Z W (.Continue pos) sct := PS.imp ps_continue fun D σ H h => by
  obtain ⟨σ3, G, D3, g, rs, h, d⟩ := h
  exact d.ct _ _ _ _ h g rs Keep.refl
theorem expr_ (he : PE3 X Z W e te) (hs : swapsWith e none pos.line X.env = pure false := by rfl) : PS3 X Z W (.Expr e pos) (sdrop te) := PS.imp (ps_expr he hs) fun D σ H h => by
  obtain ⟨σ3, G, D3, g, rs, h, d⟩ := h
  exact ⟨σ3, G, _, _, g, rs, h, fun x G1 v H1 h1 g1 r1 k1 => d.nx _ _ _ _ h1 g1 (rs.keep g k1) k1, d.exk g rs⟩
theorem set_ (i : Nat) {x : Str} {pos' : Pos} (he : PE3 X Z W e te) (hN : X.N.Nodup) (hi : X.N[i]? = some x := by rfl) (hx : Loc X.env.scope x := by first | exact Or.inl rfl | exact Or.inr rfl) (hs : swapsWith e (some (.Name x pos')) pos.line X.env = pure false := by rfl)
    (hf : X.fn x = true ∨ X.env.scope.names.lookup x = some .local := by first | exact .inl rfl | exact .inr rfl | assumption) : PS3 X Z W (.Assign [.Name x pos'] e pos) (sset i te) := PS.imp (ps_set (i := i) hN hi hx he hs hf) fun D σ H h => by
  obtain ⟨σ3, G, D3, g, rs, h, d⟩ := h
  exact ⟨σ3, G, _, _, g, rs, h, fun x G1 v H1 h1 g1 r1 k1 => d.nx _ _ _ _ h1 g1 ((rs.keep g k1).set r1 i) k1, d.exk g rs⟩
theorem ret_ (he : PE3 X Z W e te) : PS3 X Z W (.Return (some e) pos) (sret te) := PS.imp (ps_ret he) fun D σ H h => by
  obtain ⟨σ3, G, D3, g, rs, h, d⟩ := h
  exact ⟨σ3, G, _, _, g, rs, h, d.rt, d.exk g rs⟩
theorem retN_ : PS3 X Z W (.Return none pos) sretN := PS.imp ps_retN fun D σ H h => by
  obtain ⟨σ3, G, D3, g, rs, h, d⟩ := h
  exact d.rt _ _ _ _ h g .non Keep.refl
theorem sif_ {a b : List Stmt} (hc : PT3 X Z W c tc) (ha : PSs3 X Z W a t) (hb : PSs3 X Z W b u) : PS3 X Z W (.If c a b pos) (sif tc t u) := PS.imp (ps_if hc ha hb) fun D σ H h => by
  obtain ⟨σ3, G, D3, g, rs, h, d⟩ := h
  refine ⟨σ3, G, _, _, g, rs, h, fun b G1 H1 h1 g1 k1 => ?_, d.exk g rs⟩
  cases b with
  | true => exact ⟨σ3, G1, D3, g1, rs.keep g k1, h1, d.keep k1⟩
  | false => exact ⟨σ3, G1, D3, g1, rs.keep g k1, h1, d.keep k1⟩
/-- name op= e -/
def IpR3 (X : Cx) (Z : Zx) (op : Operator) (t : Q2) : Prop := ∃ r : TIp, PIp X op r ∧ ∀ G H x y v u Q3 Q, GH (Cxk X Z) G H → Dv (Cxk X Z) G H x v → Dv (Cxk X Z) G H y u → t x y G Q3 → Qk (Cxk X Z) G H Q3 Q → r v u H Q
theorem i_of {op : Operator} {t : Q2} (h : OpR3 X Z (inplaceOp op) t) : IpR3 X Z op t := by
  obtain ⟨r, h, k⟩ := h
  exact ⟨r, fun pins s σ H x y v u Q I rx ry q => h pins s σ H x y v u Q I rx ry q, k⟩
theorem aug_ (i : Nat) {x : Str} {op : Operator} {q : Q2} {pos' : Pos} (ho : IpR3 X Z op q) (he : PE3 X Z W e te) (hN : X.N.Nodup) (hi : X.N[i]? = some x := by rfl) (hx : Loc X.env.scope x := by first | exact Or.inl rfl | exact Or.inr rfl)
    (hf : X.fn x = true ∨ X.env.scope.names.lookup x = some .local := by first | exact .inl rfl | exact .inr rfl | assumption) : PS3 X Z W (.AugAssign (.Name x pos') op e pos) (saug i te q) := by
  obtain ⟨r, ho, k⟩ := ho
  refine PS.imp (ps_aug (i := i) hN hi hx he ho hf) fun D σ H h => ?_
  obtain ⟨σ3, G, D3, g, rs, h, d⟩ := h
  obtain ⟨x, e, h⟩ := h
  obtain ⟨v, e1, rv⟩ := rs.2 i x (gt_eq _ _ e)
  refine ⟨v, e1, σ3, G, _, _, g, rs, h, fun y G1 u H1 h1 g1 r1 k1 => ?_, d.exk g rs⟩
  exact k G1 H1 x y v u _ _ g1 (rv.keep g k1) r1 h1 fun z G2 w H2 h2 g2 r2 k2 => d.nx _ _ _ _ h2 g2 (((rs.keep g k1).keep g1 k2).set r2 i) (k1.trans k2)
theorem iadd_ : OpR3 X Z (inplaceOp .Add) iadd3 := by
  refine ⟨_, iop_add.or iop_add_str, fun G H x y v u Q3 Q g rx ry h q => ?_⟩
  unfold iadd3 at h
  split at h
  · cases rx; cases ry
    exact .inl ⟨_, _, rfl, rfl, q_of q g h (.int _)⟩
  · cases rx; cases ry
    exact .inr ⟨_, _, rfl, rfl, h.1, q_of q g h.2 (.str _)⟩
  · exact h.elim
theorem isub_ : OpR3 X Z (inplaceOp .Sub) sub3 := by
  refine ⟨_, iop_sub, fun G H x y v u Q3 Q g rx ry h q => ?_⟩
  unfold sub3 at h
  split at h
  · cases rx; cases ry
    exact ⟨_, _, rfl, rfl, q_of q g h (.int _)⟩
  · exact h.elim
theorem ifdiv_ : OpR3 X Z (inplaceOp .FloorDiv) fdiv3 := by
  refine ⟨_, iop_fdiv, fun G H x y v u Q3 Q g rx ry h q => ?_⟩
  unfold fdiv3 at h
  split at h
  · cases rx; cases ry
    exact ⟨_, _, rfl, rfl, ⟨h.1, h.2.1⟩, q_of q g h.2.2 (.int _)⟩
  · exact h.elim
end
/-! ### while -/
def whN (tc : TT3) (tb : TS3) (D : Ends3) : Nat → St3 → Gp → Prop
  | 0, _, _ => False
  | n + 1, σ, G => tc σ G (fun b G1 => if b = true then tb { D with nx := whN tc tb D n, ct := whN tc tb D n, bk := D.nx } σ G1 else D.nx σ G1) (fun x G1 => D.ex x σ G1)
def swhile (tc : TT3) (tb : TS3) : TS3 := fun D σ G => ∃ n, whN tc tb D n σ G
section
variable {X : Cx} {Z : Zx} {W : WX} {c : Expr} {body : List Stmt} {tb : TS3} {tc : TT3} {pos : Pos}
theorem while_ (hp : PassesOwn (model X.prog X.w) X.A X.env X.xe) (hc : PT3 X Z W c tc) (hb : PSs3 X Z W body tb) : PS3 X Z W (.While c body [] pos) (swhile tc tb) := PS.imp (ps_while hp hc hb) fun D σ H h => by
  obtain ⟨σ3, G, D3, g, rs, ⟨n, h⟩, d⟩ := h
  refine ⟨fun m σ' H' => ∃ σ4 G', GH (Cxk X Z) G' H' ∧ Rs (Cxk X Z) G' H' σ4 σ' ∧ Keep G H G' H' ∧ whN tc tb D3 m σ4 G', ⟨n, σ3, G, g, rs, Keep.refl, h⟩, ?_⟩
  rintro m σ' H' ⟨σ4, G', g', rs', k', h'⟩
  cases m with
  | zero => exact h'.elim
  | succ m =>
    refine ⟨σ4, G', _, _, g', rs', h', fun b G1 H1 h1 g1 k1 => ?_, (d.keep k').exk g' rs'⟩
    cases b with
    | true =>
      rw [if_pos rfl] at h1 ⊢
      refine ⟨fun σ5 H2 => ∃ σ6 G2, GH (Cxk X Z) G2 H2 ∧ Rs (Cxk X Z) G2 H2 σ6 σ5 ∧ Keep G H G2 H2 ∧ whN tc tb D3 m σ6 G2, fun σ5 H2 ⟨σ6, G2, a1, a2, a3, a4⟩ => ⟨m, Nat.lt_succ_self m, σ6, G2, a1, a2, a3, a4⟩, ?_⟩
      have d1 := d.keep (k'.trans k1)
      exact ⟨σ4, G1, _, g1, rs'.keep g' k1, h1, ⟨fun σ6 G2 σ5 H2 h2 g2 r2 k2 => ⟨σ6, G2, g2, r2, (k'.trans k1).trans k2, h2⟩, d1.rt, d1.nx, fun σ6 G2 σ5 H2 h2 g2 r2 k2 => ⟨σ6, G2, g2, r2, (k'.trans k1).trans k2, h2⟩, d1.ex⟩⟩
    | false =>
      rw [if_neg Bool.false_ne_true] at h1 ⊢
      exact d.nx _ _ _ _ h1 g1 (rs'.keep g' k1) (k'.trans k1)
end
end L3
namespace L3
open PySem PySem.Spec PyProof.Rows L2
open He (ga)
/-! ### targets: a name, a tuple of names -/
inductive Tg where
  | n (i : Nat) | t (is : List Nat)
def gNames : List Nat → TGs
  | [] => gNil
  | i :: is => gCons (gName i) (gNames is)
def Tg.g (K : PySem.W.Frag) : Tg → TG
  | .n i => gName i
  | .t is => gTup K is.length (gNames is)
def setD : List Nat → List D → St3 → St3
  | i :: is, d :: ds, σ => setD is ds (σ.set i (some d))
  | _, _, σ => σ
def setV : List Nat → List V → St → St
  | i :: is, d :: ds, σ => setV is ds (σ.set i (some d))
  | _, _, σ => σ
/-- the slots behind the binding -/
def Tg.b : Tg → D → St3 → (St3 → Prop) → Prop
  | .n i, d, σ, Q => Q (σ.set i (some d))
  | .t is, d, σ, Q => ∃ ds, d = .tup ds ∧ ds.length = is.length ∧ Q (setD is ds σ)
def Tg.is : Tg → List Nat
  | .n i => [i]
  | .t is => is
section
variable {K : K3} {G : Gp} {H : Hp}
theorem gNames_ok : ∀ {is : List Nat} {vs : List V} {σ : St} {H : Hp} {Q : St → Hp → Prop}, vs.length = is.length → Q (setV is vs σ) H → gNames is vs σ H Q
  | [], [], _, _, _, _, h => ⟨rfl, h⟩
  | [], _ :: _, _, _, _, l, _ => by cases l
  | _ :: _, [], _, _, _, l, _ => by cases l
  | i :: is, v :: vs, σ, H, Q, l, h => ⟨v, vs, rfl, gNames_ok (by simpa using l) h⟩
theorem setD_rs : ∀ {is : List Nat} {ds : List D} {vs : List V} {σ3 : St3} {σ : St}, DvL K G H ds vs → Rs K G H σ3 σ → Rs K G H (setD is ds σ3) (setV is vs σ)
  | [], _, _, _, _, _, r => by simpa [setD, setV] using r
  | i :: is, [], [], _, _, .nil, r => by simpa [setD, setV] using r
  | i :: is, d :: ds, v :: vs, σ3, σ, .cons q t, r => setD_rs (is := is) t (r.set q i)
/-- slots apart from some are as they were -/
def SameBut (is : List Nat) (σ σ' : St) : Prop := σ'.length = σ.length ∧ ∀ (j : Nat), j ∉ is → σ'[j]? = σ[j]?
theorem setV_same : ∀ (is : List Nat) (vs : List V) (σ : St), SameBut is σ (setV is vs σ)
  | [], _, σ => by simp [setV, SameBut]
  | i :: is, [], σ => by simp [setV, SameBut]
  | i :: is, v :: vs, σ => by
    obtain ⟨h1, h2⟩ := setV_same is vs (σ.set i (some v))
    refine ⟨by rw [setV, h1]; simp, fun j hj => ?_⟩
    simp only [List.mem_cons, not_or] at hj
    rw [setV, h2 j hj.2, List.getElem?_set_ne (Ne.symm hj.1)]
theorem Tg.run {t : Tg} {d : D} {v : V} {σ3 : St3} {σ : St} {Q3 : St3 → Prop} {Q : St → Hp → Prop} (rs : Rs K G H σ3 σ) (r : Dv K G H d v) (h : t.b d σ3 Q3) (k : ∀ σ4 σ', Q3 σ4 → Rs K G H σ4 σ' → SameBut t.is σ σ' → Q σ' H) : t.g K.f v σ H Q := by
  cases t with
  | n i =>
    refine k _ _ h (rs.set r i) ⟨by simp, fun j hj => ?_⟩
    have : j ≠ i := by simpa [Tg.is] using hj
    rw [List.getElem?_set_ne (Ne.symm this)]
  | t is =>
    obtain ⟨ds, e, l, h⟩ := h
    subst e
    cases r with
    | tup s r =>
    rename_i a vs
    have lv : vs.length = is.length := by rw [← r.length]; exact l
    exact ⟨a, vs, rfl, s, lv, gNames_ok lv (k _ _ h (setD_rs r rs) (setV_same is vs σ))⟩
end
/-! ### what is walked -/
abbrev TI3 := St3 → Gp → (List D → (Gp → Prop) → Gp → Prop) → EK → Prop
structure ItR (K : K3) (G0 : Gp) (H0 : Hp) (J : It) (xs : List D) (gd : Gp → Prop) : Prop where
  stop : ∀ G H, Keep G0 H0 G H → GH K G H → gd G → J.stop xs.length H
  go : ∀ (i : Nat) G H, i < xs.length → Keep G0 H0 G H → GH K G H → gd G → J.go i H
  yld : ∀ (i : Nat) d v G H H', xs[i]? = some d → Keep G0 H0 G H → GH K G H → gd G → J.yld i H v H' → GH K G H' ∧ Keep G H G H' ∧ Dv K G H' d v
def liftI (K : K3) (W : WX) (t : TI3) : TI := fun σ H R => ∃ σ3 G R3 E3, GH K G H ∧ Rs K G H σ3 σ ∧ t σ3 G R3 E3 ∧ (∀ xs gd G' J H', R3 xs gd G' → GH K G' H' → Keep G H G' H' → ItR K G' H' J xs gd → R J H') ∧ Xk K G H E3 (fun c d H' => W c d σ H')
def PI3 (X : Cx) (Z : Zx) (W : WX) (tg iter : Expr) (t : TI3) : Prop := PI X tg iter (liftI (Cxk X Z) W t)
theorem PI.imp {X : Cx} {tg e : Expr} {t u : TI} (h : PI X tg e t) (k : ∀ σ H Q, u σ H Q → t σ H Q) : PI X tg e u := ⟨fun pins s σ H Q I q => h.run pins s σ H Q I (k _ _ _ q)⟩
section
variable {X : Cx} {Z : Zx} {tg : Expr}
/-- a list or tuple -/
def iSeqV (K : PySem.W.Frag) (tl : TE) : TI := fun σ H R => tl σ H fun x H1 => ∃ a, x = .ref a ∧ (((∃ xs, SqL K H1 a xs) ∧ R (Itl K a) H1) ∨ ((∃ xs, SqT K H1 a xs) ∧ R (Itt K a) H1))
theorem pi_seqV {l : Expr} {tl : TE} (hl : PE X l tl) : PI X tg l (iSeqV X.K tl) := by
  refine ⟨fun pins s σ H R I h => ?_⟩
  refine thn (hl.run pins s σ H _ I h) fun v s1 ⟨x, H1, I1, r1, q1⟩ => ?_
  obtain ⟨a, e, q⟩ := q1
  subst e
  cases r1
  have nf : ∀ b ∈ [s1.heap.objs.size], FpOk X pins H1 b := fun b hb => by
    have e : b = s1.heap.objs.size := by simpa using hb
    subst e
    exact I1.fpOk (Nat.le_refl _) (I1.hok.fresh (Nat.le_refl _))
  rcases q with ⟨⟨xs, hq⟩, q⟩ | ⟨⟨xs, hq⟩, q⟩
  · obtain ⟨its, rv, p, hz⟩ := I1.list hq
    refine wpAny_pyIter_list p.isList ?_
    exact ⟨s1.heap.objs.size, [s1.heap.objs.size], _, _, H1, rfl, I1.kept (t' := s1.toks) fun b o e => Heap.get?_push_of_some _ e, turn_list a _, ⟨_, Heap.get?_push_size _ rfl, rfl, rfl⟩, nf, q⟩
  · obtain ⟨its, rv, p, hz⟩ := I1.tuple hq
    refine wpAny_pyIter_tuple (show s1.heap.IsTuple a its.toArray from p) ?_
    exact ⟨s1.heap.objs.size, [s1.heap.objs.size], _, _, H1, rfl, I1.kept (t' := s1.toks) fun b o e => Heap.get?_push_of_some _ e, turn_tuple a _, ⟨_, Heap.get?_push_size _ rfl, rfl, rfl⟩, nf, q⟩
end
/-- what must hold at each turn so that the items stay -/
def gdOf (d : D) (xs : List D) : Gp → Prop := match d with
  | .ref p => fun G => G p = some (.lst xs)
  | _ => fun _ => True
def iseq (te : TE3) : TI3 := fun σ G R E => te σ G (fun d G1 => ∃ xs, sq G1 d = some xs ∧ R xs (gdOf d xs) G1) E
def irng1 (ta : TA3) : TI3 := fun σ G R E => ta σ G (fun ds G1 => ∃ j : Int, ds = [.int j] ∧ -(2 ^ 62) ≤ j ∧ j < 2 ^ 62 ∧ R ((List.range j.toNat).map fun (i : Nat) => D.int i) (fun _ => True) G1) E
def irng2 (ta : TA3) : TI3 := fun σ G R E => ta σ G (fun ds G1 => ∃ i j : Int, ds = [.int i, .int j] ∧ (-(2 ^ 62) ≤ i ∧ i < 2 ^ 62 ∧ -(2 ^ 62) ≤ j ∧ j < 2 ^ 62) ∧ R ((List.range (j - i).toNat).map fun (k : Nat) => D.int (i + k)) (fun _ => True) G1) E
section
variable {K : K3} {G : Gp} {H : Hp}
theorem itr_list {d : D} {a : Addr} {xs : List D} (g : GH K G H) (r : Dv K G H d (.ref a)) (e : lq G d = some xs) : ItR K G H (Itl K.f a) xs (gdOf d xs) := by
  have key : ∀ G1 H1, Keep G H G1 H1 → GH K G1 H1 → gdOf d xs G1 → ∃ ws, SqL K.f H1 a ws ∧ DvL K G1 H1 xs ws := fun G1 H1 k g1 gd => by
    have r1 := r.keep g k
    have e1 : lq G1 d = some xs := by
      cases d with
      | ref p => unfold lq; simp only; rw [show G1 p = some (.lst xs) from gd]
      | _ => exact e
    obtain ⟨b, ws, eb, s, rl⟩ := lq_ok g1 r1 e1
    cases eb
    exact ⟨ws, s, rl⟩
  refine ⟨fun G1 H1 k g1 gd => ?_, fun i G1 H1 hi k g1 gd => ?_, fun i x v G1 H1 H2 hi k g1 gd y => ?_⟩
  · obtain ⟨ws, s, rl⟩ := key G1 H1 k g1 gd
    exact ⟨ws, s, by rw [rl.length]; exact Nat.le_refl _⟩
  · obtain ⟨ws, s, rl⟩ := key G1 H1 k g1 gd
    have : i < ws.length := by rw [← rl.length]; exact hi
    exact ⟨ws, ws[i], s, by simp [this]⟩
  · obtain ⟨ws, s, rl⟩ := key G1 H1 k g1 gd
    obtain ⟨eH, y⟩ := y
    subst eH
    obtain ⟨w, h1, h2⟩ := rl.get hi
    rw [y ws s] at h1
    cases h1
    exact ⟨g1, Keep.refl, h2⟩
theorem itr_tup {a : Addr} {xs : List D} (g : GH K G H) (r : Dv K G H (.tup xs) (.ref a)) : ItR K G H (Itt K.f a) xs (fun _ => True) := by
  have key : ∀ G1 H1, Keep G H G1 H1 → ∃ ws, SqT K.f H1 a ws ∧ DvL K G1 H1 xs ws := fun G1 H1 k => by
    have r1 := r.keep g k
    cases r1 with
    | tup s rl => exact ⟨_, s, rl⟩
  refine ⟨fun G1 H1 k g1 gd => ?_, fun i G1 H1 hi k g1 gd => ?_, fun i x v G1 H1 H2 hi k g1 gd y => ?_⟩
  · obtain ⟨ws, s, rl⟩ := key G1 H1 k
    exact ⟨ws, s, by rw [rl.length]; exact Nat.le_refl _⟩
  · obtain ⟨ws, s, rl⟩ := key G1 H1 k
    have : i < ws.length := by rw [← rl.length]; exact hi
    exact ⟨ws, ws[i], s, by simp [this]⟩
  · obtain ⟨ws, s, rl⟩ := key G1 H1 k
    obtain ⟨eH, y⟩ := y
    subst eH
    obtain ⟨w, h1, h2⟩ := rl.get hi
    rw [y ws s] at h1
    cases h1
    exact ⟨g1, Keep.refl, h2⟩
theorem itr_range {lo : Int} {n : Nat} : ItR K G H (Itr lo n) ((List.range n).map fun (k : Nat) => D.int (lo + k)) (fun _ => True) := by
  refine ⟨fun G1 H1 k g1 gd => ?_, fun i G1 H1 hi k g1 gd => ?_, fun i x v G1 H1 H2 hi k g1 gd y => ?_⟩
  · show n ≤ _
    simp
  · show i < n
    simpa using hi
  · obtain ⟨eH, y⟩ := y
    subst eH
    subst y
    rw [List.getElem?_map] at hi
    cases e : (List.range n)[i]? with
    | none => rw [e] at hi; cases hi
    | some j =>
      rw [e] at hi
      have : j = i := by
        obtain ⟨h1, h2⟩ := List.getElem?_eq_some_iff.mp e
        simpa using h2.symm
      subst this
      cases hi
      exact ⟨g1, Keep.refl, .int _⟩
end
section
variable {X : Cx} {Z : Zx} {W : WX} {e a b : Expr} {es : List Expr} {te : TE3} {ta : TA3} {tg : Expr} {p pos : Pos}
theorem lq_of {G : Gp} {d : D} {xs : List D} (h : sq G d = some xs) (n : ∀ ys, d ≠ .tup ys) : lq G d = some xs := by
  cases d with
  | tup ys => exact absurd rfl (n ys)
  | _ => exact h
theorem iseq_ (h : PE3 X Z W e te) : PI3 X Z W tg e (iseq te) := PI.imp (pi_seqV h) fun σ H R h => by
  obtain ⟨σ3, G, R3, E3, g, rs, h, q, x⟩ := h
  refine ⟨σ3, G, _, E3, g, rs, h, fun d G1 v H1 ⟨xs, e, h1⟩ g1 r1 k1 => ?_, x⟩
  by_cases ht : ∃ ys, d = .tup ys
  · obtain ⟨ys, rfl⟩ := ht
    cases e
    have r0 := r1
    cases r1 with
    | tup s rl => exact ⟨_, rfl, .inr ⟨⟨_, s⟩, q _ _ _ _ _ h1 g1 k1 (itr_tup g1 r0)⟩⟩
  · have e' := lq_of e fun ys z => ht ⟨ys, z⟩
    obtain ⟨a, vs, ea, s, rl⟩ := lq_ok g1 r1 e'
    subst ea
    exact ⟨_, rfl, .inl ⟨⟨_, s⟩, q _ _ _ _ _ h1 g1 k1 (itr_list g1 r1 e')⟩⟩
theorem irng1_ (hm : X.mg "range" = none) (ha : PA3 X Z W [a] ta) (hg : Gl X "range" := by rfl) (hs : starEach [a] X.env = [(false, eval a X.env)] := by rfl) : PI3 X Z W tg (.Call (.Name "range" p) [a] [] pos) (irng1 ta) :=
  PI.imp (pi_range1 hg hm ha hs) fun σ H R h => by
  obtain ⟨σ3, G, R3, E3, g, rs, h, q, x⟩ := h
  refine ⟨σ3, G, _, E3, g, rs, h, fun d G1 v H1 ⟨j, e, l1, l2, h1⟩ g1 r1 k1 => ?_, x⟩
  subst e
  cases r1 with
  | cons r1 r2 =>
  cases r1; cases r2
  have z := itr_range (K := Cxk X Z) (G := G1) (H := H1) (lo := 0) (n := j.toNat)
  simp only [Int.zero_add] at z
  exact ⟨j, rfl, l1, l2, q _ _ _ _ _ h1 g1 k1 z⟩
theorem irng2_ (hm : X.mg "range" = none) (ha : PA3 X Z W [a, b] ta) (hg : Gl X "range" := by rfl) (hs : starEach [a, b] X.env = [(false, eval a X.env), (false, eval b X.env)] := by rfl) (hs2 : starEach [b] X.env = [(false, eval b X.env)] := by rfl) :
    PI3 X Z W tg (.Call (.Name "range" p) [a, b] [] pos) (irng2 ta) :=
  PI.imp (pi_range2 hg hm ha hs hs2) fun σ H R h => by
  obtain ⟨σ3, G, R3, E3, g, rs, h, q, x⟩ := h
  refine ⟨σ3, G, _, E3, g, rs, h, fun d G1 v H1 ⟨i, j, e, l, h1⟩ g1 r1 k1 => ?_, x⟩
  subst e
  cases r1 with
  | cons r1 r2 =>
  cases r1
  cases r2 with
  | cons r2 r3 =>
  cases r2; cases r3
  exact ⟨i, j, rfl, l, q _ _ _ _ _ h1 g1 k1 itr_range⟩
end
/-! ### for -/
def forL (t : Tg) (tb : TS3) (E : Ends3) (gd : Gp → Prop) : List D → St3 → Gp → Prop
  | [], σ, G => gd G ∧ E.nx σ G
  | x :: xs, σ, G => gd G ∧ t.b x σ fun σ' => tb { E with nx := forL t tb E gd xs, ct := forL t tb E gd xs, bk := E.nx } σ' G
def sfor (ti : TI3) (t : Tg) (tb : TS3) : TS3 := fun E σ G => ti σ G (fun xs gd G1 => forL t tb E gd xs σ G1) (fun x G1 => E.ex x σ G1)
section
variable {X : Cx} {Z : Zx} {W : WX} {tg iter : Expr} {body : List Stmt} {ti : TI3} {t : Tg} {tb : TS3} {pos : Pos}
theorem for_ (t : Tg) (hp : PassesOwn (model X.prog X.w) X.A X.env X.xe) (hc : X.calm = true) (hi : PI3 X Z W tg iter ti) (hg : PG X tg (t.g X.K)) (hb : PSs3 X Z W body tb)
    (hs : ∀ x, foldedSetIterable iter X.env x = pure x := by intro _; rfl) : PS3 X Z W (.For tg iter body [] pos) (sfor ti t tb) := PS.imp (ps_for hp hc hi hg hb hs) fun D σ H h => by
  obtain ⟨σ3, G, D3, g, rs, h, d⟩ := h
  refine ⟨σ3, G, _, _, g, rs, h, fun xs gd G0 J H0 h0 g0 k0 it => ?_, d.exk g rs⟩
  refine ⟨fun i m σ' H' => m = xs.length - i ∧ i ≤ xs.length ∧ ∃ σ4 G', GH (Cxk X Z) G' H' ∧ Rs (Cxk X Z) G' H' σ4 σ' ∧ Keep G0 H0 G' H' ∧ forL t tb D3 gd (xs.drop i) σ4 G', ⟨xs.length, by simp, Nat.zero_le _, σ3, G0, g0, rs.keep g k0, Keep.refl, by simpa using h0⟩, ?_⟩
  rintro i m σ' H' ⟨rfl, hi', σ4, G', g', rs', k', h'⟩
  by_cases hlt : i < xs.length
  · obtain ⟨x, e⟩ : ∃ x, xs[i]? = some x := ⟨xs[i], by simp [hlt]⟩
    have ed : xs.drop i = x :: xs.drop (i + 1) := by
      rw [List.drop_eq_getElem_cons hlt]
      have : xs[i] = x := by rw [List.getElem?_eq_getElem hlt] at e; exact Option.some.inj e
      rw [this]
    rw [ed] at h'
    obtain ⟨hgd, h'⟩ := h'
    refine .inr ⟨it.go i G' H' hlt k' g' hgd, fun σ5 H2 => ∃ σ6 G2, GH (Cxk X Z) G2 H2 ∧ Rs (Cxk X Z) G2 H2 σ6 σ5 ∧ Keep G0 H0 G2 H2 ∧ forL t tb D3 gd (xs.drop (i + 1)) σ6 G2, fun σ5 H2 ⟨σ6, G2, a1, a2, a3, a4⟩ => ⟨_, by omega, rfl, hlt, σ6, G2, a1, a2, a3, a4⟩, fun v H2 hy => ?_⟩
    obtain ⟨g2, k2, r2⟩ := it.yld i x v G' H' H2 e k' g' hgd hy
    refine Tg.run (rs'.keep g' k2) r2 h' fun σ5 σ6 h5 r5 _ => ?_
    have kk : Keep G H G' H2 := (k0.trans k').trans k2
    have d1 := d.keep kk
    exact ⟨σ5, G', _, g2, r5, h5, ⟨fun σ7 G3 σ8 H3 h3 g3 r3 k3 => ⟨σ7, G3, g3, r3, (k'.trans k2).trans k3, h3⟩, d1.rt, d1.nx, fun σ7 G3 σ8 H3 h3 g3 r3 k3 => ⟨σ7, G3, g3, r3, (k'.trans k2).trans k3, h3⟩, d1.ex⟩⟩
  · have e : i = xs.length := by omega
    subst e
    rw [List.drop_length] at h'
    exact .inl ⟨it.stop G' H' k' g' h'.1, d.nx _ _ _ _ h'.2 g' rs' (k0.trans k')⟩
theorem tg1_ (i : Nat) {x : Str} {pos : Pos} (hN : X.N.Nodup) (hi : X.N[i]? = some x := by rfl) (hx : Loc X.env.scope x := by first | exact Or.inl rfl | exact Or.inr rfl) (hf : X.fn x = true ∨ X.env.scope.names.lookup x = some .local := by first | exact .inl rfl | exact .inr rfl | assumption) :
    PG X (.Name x pos) (Tg.g X.K (.n i)) := pg_name hN hi hx hf
theorem tgt_ {es : List Expr} {is : List Nat} {k : Nat} {pos : Pos} (hc : X.calm = true) (h : PGs X es (gNames is)) (hn : (assignEach es X.env).length = is.length := by rfl) (hst : (assignEach es X.env).findIdx? (·.1) = none := by rfl) :
    PG X (.Tuple es k pos) (Tg.g X.K (.t is)) := pg_tup hc h hn hst
end
/-! ### comprehensions -/
def wipeD (σ : St3) : List Nat → St3
  | [] => σ
  | v :: vs => (wipeD σ vs).set v none
/-- the turns of a comprehension; p: the list that grows -/
def lcL (t : Tg) (tt : TT3) (te : TE3) (gd : Gp → Prop) (σ : St3) (p : Addr) (Q : Gp → Prop) : List D → Gp → Prop
  | [], G => gd G ∧ Q G
  | x :: xs, G => gd G ∧ t.b x σ fun σ' => tt σ' G (fun b G1 => if b = true then te σ' G1 (fun d G2 => ∃ acc, G2 p = some (.lst acc) ∧ acc.length < sizeLine ∧ lcL t tt te gd σ p Q xs (up G2 p (.lst (acc ++ [d])))) (fun _ _ => False) else lcL t tt te gd σ p Q xs G1) (fun _ _ => False)
def lcEnd (m : Bool) (p : Addr) (Q : QK) (G : Gp) : Prop := match m with
  | true => (∃ acc, G p = some (.lst acc)) ∧ Q (.ref p) G
  | false => ∃ acc, G p = some (.lst acc) ∧ Q (.fl acc) (dl G p)
/-- [e for t in it if c] -/
def tlc (m : Bool) (ti : TI3) (t : Tg) (tt : TT3) (te : TE3) (vs : List Nat) : TE3 := fun σ G Q E => ti σ G (fun xs gd G1 => ∀ p, G1 p = none → lcL t tt te gd (wipeD σ vs) p (lcEnd m p Q) xs (up G1 p (.lst []))) E
def Tyes : TT3 := fun _ G Q _ => Q true G
section
variable {K : K3} {G : Gp} {H : Hp}
theorem wipeD_rs {σ3 : St3} {σ : St} (r : Rs K G H σ3 σ) : ∀ vs, Rs K G H (wipeD σ3 vs) (wipe σ vs)
  | [] => r
  | v :: vs => (wipeD_rs r vs).clear v
theorem wipe_get {σ : St} : ∀ {vs : List Nat} {j : Nat}, j ∉ vs → (wipe σ vs)[j]? = σ[j]?
  | [], _, _ => rfl
  | v :: vs, j, h => by
    simp only [List.mem_cons, not_or] at h
    unfold wipe
    rw [List.getElem?_set_ne (Ne.symm h.1), wipe_get h.2]
theorem wipe_at {σ : St} : ∀ {vs : List Nat} {j : Nat}, j ∈ vs → j < σ.length → (wipe σ vs)[j]? = some none
  | v :: vs, j, h, hl => by
    unfold wipe
    by_cases e : v = j
    · subst e
      exact List.getElem?_set_self (by rw [wipe_length]; exact hl)
    · rw [List.getElem?_set_ne e]
      rcases List.mem_cons.mp h with h | h
      · exact absurd h.symm e
      · exact wipe_at h hl
theorem wipe_same {σ σ' : St} {is vs : List Nat} (h : SameBut is (wipe σ vs) σ') (sub : ∀ i ∈ is, i ∈ vs) : wipe σ' vs = wipe σ vs := by
  obtain ⟨h1, h2⟩ := h
  rw [wipe_length] at h1
  apply List.ext_getElem?
  intro j
  by_cases hv : j ∈ vs
  · by_cases hl : j < σ.length
    · rw [wipe_at hv hl, wipe_at hv (by rw [h1]; exact hl)]
    · rw [List.getElem?_eq_none (by rw [wipe_length, h1]; omega), List.getElem?_eq_none (by rw [wipe_length]; omega)]
  · rw [wipe_get hv, h2 j (fun z => hv (sub j z))]
variable {X : Cx} {Z : Zx} {W : WX} {elt tg iter : Expr} {ifs : List Expr} {scope : Scope} {own : List (Str × Nat)} {ti : TI3} {t : Tg} {tt : TT3} {te : TE3} {pos : Pos}
/-- no exception leaves a comprehension -/
abbrev W0 : WX := fun _ _ _ _ => False
theorem lc_k (m : Bool) (sub : ∀ i ∈ t.is, i ∈ own.map (·.2)) (σ : St) (H : Hp) (Q : VK) (h : liftE (Cxk X Z) W (tlc m ti t tt te (own.map (·.2))) σ H Q) :
    tLc (liftI (Cxk X Z) W ti) (t.g X.K) (liftT (Cxk X Z) W0 tt) (liftE (Cxk X Z) W0 te) (own.map (·.2)) σ H Q := by
  obtain ⟨σ3, G, Q3, E3, g, rs, h, q, x⟩ := h
  refine ⟨σ3, G, _, E3, g, rs, h, fun xs gd G0 J H0 h0 g0 k0 it => ?_, x⟩
  intro p n
  have kD : Keep G0 H0 (up G0 p (.lst [])) (upd H0 p (.lst [])) := Keep.newG n
  have gD : GH (Cxk X Z) (up G0 p (.lst [])) (upd H0 p (.lst [])) := g0.newG n ⟨[], upd_same, .nil⟩
  have hp : ∀ {a : Addr} {o : HO}, H0 a = some o → a ≠ p := fun h => ne_of_none h n
  refine ⟨fun i mm H' => mm = xs.length - i ∧ i ≤ xs.length ∧ ∃ G', GH (Cxk X Z) G' H' ∧ Keep G0 H0 G' H' ∧ lcL t tt te gd (wipeD σ3 (own.map (·.2))) p (lcEnd m p Q3) (xs.drop i) G', ⟨xs.length, by simp, Nat.zero_le _, _, gD, kD, by simpa using h0 p (g0.free n)⟩, ?_⟩
  rintro i mm H' ⟨rfl, hi', G', g', k', h'⟩
  by_cases hlt : i < xs.length
  · obtain ⟨x, e⟩ : ∃ x, xs[i]? = some x := ⟨xs[i], by simp [hlt]⟩
    have ed : xs.drop i = x :: xs.drop (i + 1) := by
      rw [List.drop_eq_getElem_cons hlt]
      have : xs[i] = x := by rw [List.getElem?_eq_getElem hlt] at e; exact Option.some.inj e
      rw [this]
    rw [ed] at h'
    obtain ⟨hgd, h'⟩ := h'
    refine .inr ⟨it.go i G' H' hlt k' g' hgd, fun H2 => ∃ G2, GH (Cxk X Z) G2 H2 ∧ Keep G0 H0 G2 H2 ∧ lcL t tt te gd (wipeD σ3 (own.map (·.2))) p (lcEnd m p Q3) (xs.drop (i + 1)) G2, fun H2 ⟨G2, a1, a2, a3⟩ => ⟨_, by omega, rfl, hlt, G2, a1, a2, a3⟩, fun v H2 hy => ?_⟩
    obtain ⟨g2, k2, r2⟩ := it.yld i x v G' H' H2 e k' g' hgd hy
    have rs2 : Rs (Cxk X Z) G' H2 (wipeD σ3 (own.map (·.2))) (wipe σ (own.map (·.2))) := wipeD_rs (((rs.keep g k0).keep g0 k').keep g' k2) _
    refine Tg.run rs2 r2 h' fun σ5 σ6 h5 r5 sb => ⟨wipe_same sb sub, ?_⟩
    refine ⟨σ5, G', _, _, g2, r5, h5, fun b G3 H3 h3 g3 k3 => ?_, fun _ _ _ _ _ z => z.elim⟩
    cases b with
    | true =>
      rw [if_pos rfl] at h3 ⊢
      refine ⟨σ5, G3, _, _, g3, r5.keep g2 k3, h3, fun d G4 w H4 h4 g4 r4 k4 => ?_, fun _ _ _ _ _ z => z.elim⟩
      obtain ⟨acc, ep, l, h4⟩ := h4
      obtain ⟨avs, e1, rl⟩ := g4 p _ ep
      refine ⟨avs, e1, by rw [← rl.length]; exact l, up G4 p (.lst (acc ++ [d])), ?_, ?_, h4⟩
      · exact g4.set ep ⟨avs ++ [w], upd_same, (rl.append (.cons r4 .nil)).keep g4 (Keep.set ep)⟩
      · exact (((k'.trans k2).trans k3).trans k4).trans (Keep.set ep)
    | false =>
      rw [if_neg Bool.false_ne_true] at h3 ⊢
      exact ⟨G3, g3, (k'.trans k2).trans k3, h3⟩
  · have e : i = xs.length := by omega
    subst e
    rw [List.drop_length] at h'
    refine .inl ⟨it.stop G' H' k' g' h'.1, ?_⟩
    have h2 := h'.2
    have kk := k0.trans k'
    cases m with
    | true => exact q _ _ _ _ h2.2 g' (.ref p) kk
    | false =>
      obtain ⟨acc, ep, h2⟩ := h2
      obtain ⟨avs, e1, rl⟩ := g' p _ ep
      exact q _ _ _ _ h2 (g'.sub Sub.dl) (.fl e1 dl_same (rl.keep g' (Keep.sub Sub.dl))) (kk.trans (Keep.sub Sub.dl))
theorem lc_ (m : Bool) (t : Tg) (hc : X.calm = true) (hN : X.N.Nodup) (hi : PI3 X Z W tg iter ti) (ok : BlkOk X.N X.env.scope scope own) (sub : ∀ i ∈ t.is, i ∈ own.map (·.2))
    (hg : ∀ (s : Shared) (H : Hp) (C : Addr) (cl : List (Str × Addr)) (fp : List Addr), PG (X.blk s H scope (compEnvC scope cl C X.env) fp) tg (t.g X.K)) (ht : ∀ (s : Shared) (H : Hp) (C : Addr) (cl : List (Str × Addr)) (fp : List Addr), PTs (X.blk s H scope (compEnvC scope cl C X.env) fp) ifs (liftT (Cxk X Z) W0 tt))
    (he : ∀ (s : Shared) (H : Hp) (C : Addr) (cl : List (Str × Addr)) (fp : List Addr), PE3 (X.blk s H scope (compEnvC scope cl C X.env) fp) Z W0 elt te) (hs : ∀ x, foldedSetIterable iter X.env x = pure x := by intro _; rfl) :
    PE3 X Z W (.ListComp elt [⟨tg, iter, ifs, 0⟩] scope pos) (tlc m ti t tt te (own.map (·.2))) := PE.imp (pe_lc (te := liftE (Cxk X Z) W0 te) hc hN hi ok hg ht he hs) (lc_k m sub)
/-- name = [..] -/
theorem setLc_ (i : Nat) (m : Bool) (t : Tg) {y : Str} {py spos : Pos} (hc : X.calm = true) (hN : X.N.Nodup) (hi : PI3 X Z W tg iter ti) (ok : BlkOk X.N X.env.scope scope own) (sub : ∀ i ∈ t.is, i ∈ own.map (·.2))
    (hg : ∀ (s : Shared) (H : Hp) (C : Addr) (cl : List (Str × Addr)) (fp : List Addr), PG (X.blk s H scope (compEnvC scope cl C X.env) fp) tg (t.g X.K)) (ht : ∀ (s : Shared) (H : Hp) (C : Addr) (cl : List (Str × Addr)) (fp : List Addr), PTs (X.blk s H scope (compEnvC scope cl C X.env) fp) ifs (liftT (Cxk X Z) W0 tt))
    (he : ∀ (s : Shared) (H : Hp) (C : Addr) (cl : List (Str × Addr)) (fp : List Addr), PE3 (X.blk s H scope (compEnvC scope cl C X.env) fp) Z W0 elt te)
    (hsw : swapsWith (.ListComp elt [⟨tg, iter, ifs, 0⟩] scope pos) (some (.Name y py)) spos.line X.env = pure true) (hyl : X.env.scope.names.lookup y = some .local := by rfl) (hy : X.N[i]? = some y := by rfl) (hs : ∀ x, foldedSetIterable iter X.env x = pure x := by intro _; rfl) :
    PS3 X Z W (.Assign [.Name y py] (.ListComp elt [⟨tg, iter, ifs, 0⟩] scope pos) spos) (sset i (tlc m ti t tt te (own.map (·.2)))) := PS.imp (ps_setLc (te := liftE (Cxk X Z) W0 te) (i := i) hc hN hy hyl hsw hi ok hg ht he hs) fun D σ H h => by
  obtain ⟨σ3, G, D3, g, rs, h, d⟩ := h
  exact lc_k (W := W) m sub σ H (fun x H1 => D.nx (σ.set i (some x)) H1) ⟨σ3, G, _, _, g, rs, h, fun x G1 v H1 h1 g1 r1 k1 => d.nx _ _ _ _ h1 g1 ((rs.keep g k1).set r1 i) k1, d.exk g rs⟩
theorem no_if : ∀ {X : Cx} {Z : Zx}, PTs X [] (liftT (Cxk X Z) W0 Tyes) := ⟨fun pins s σ H Q I h => pts_nil.run pins s σ H Q I (by
  obtain ⟨σ3, G, Q3, E3, g, rs, h, q, x⟩ := h
  exact q _ _ _ h g Keep.refl)⟩
theorem if1_ {X : Cx} {Z : Zx} {c : Expr} {tc : TT3} (h : PT3 X Z W0 c tc) : PTs X [c] (liftT (Cxk X Z) W0 tc) := pts_one h
end
/-! #### pure comprehensions -/
/-- where each turn leaves G as it is -/
theorem lcL_pure {t : Tg} {tt : TT3} {te : TE3} {gd : Gp → Prop} {σ : St3} {p : Addr} {Q : Gp → Prop} {G : Gp} (f : D → Option D) (np : G p = none) : ∀ (xs acc : List D),
    (∀ x ∈ xs, ∀ G', Sub G G' → ∀ R : Option D → Gp → Prop, R (f x) G' → t.b x σ fun σ' => tt σ' G' (fun b G1 => if b = true then te σ' G1 (fun d G2 => R (some d) G2) (fun _ _ => False) else R none G1) (fun _ _ => False)) →
    (∀ G', Sub G G' → gd G') → acc.length + xs.length ≤ sizeLine → Q (up G p (.lst (acc ++ xs.filterMap f))) → lcL t tt te gd σ p Q xs (up G p (.lst acc))
  | [], acc, _, hg, _, h => ⟨hg _ (Sub.up np), by simpa using h⟩
  | x :: xs, acc, hs, hg, l, h => by
    have hlen : acc.length < sizeLine := by simp at l; omega
    refine ⟨hg _ (Sub.up np), ?_⟩
    refine hs x (by simp) (up G p (.lst acc)) (Sub.up np) (fun o G2 => match o with
      | some d => ∃ acc, G2 p = some (.lst acc) ∧ acc.length < sizeLine ∧ lcL t tt te gd σ p Q xs (up G2 p (.lst (acc ++ [d])))
      | none => lcL t tt te gd σ p Q xs G2) ?_
    have ih := lcL_pure (t := t) (tt := tt) (te := te) (gd := gd) (σ := σ) (p := p) (Q := Q) f np xs
    cases e : f x with
    | none =>
      rw [List.filterMap_cons, e] at h
      exact ih acc (fun y hy => hs y (by simp [hy])) hg (by simp at l; omega) h
    | some d =>
      rw [List.filterMap_cons, e] at h
      refine ⟨acc, up_same, hlen, ?_⟩
      rw [up_up]
      exact ih (acc ++ [d]) (fun y hy => hs y (by simp [hy])) hg (by simp at l ⊢; omega) (by simpa using h)
theorem lc_pure {m : Bool} {t : Tg} {tt : TT3} {te : TE3} {gd : Gp → Prop} {σ : St3} {Q : QK} {G : Gp} {xs : List D} (f : D → Option D)
    (hs : ∀ x ∈ xs, ∀ G', Sub G G' → ∀ R : Option D → Gp → Prop, R (f x) G' → t.b x σ fun σ' => tt σ' G' (fun b G1 => if b = true then te σ' G1 (fun d G2 => R (some d) G2) (fun _ _ => False) else R none G1) (fun _ _ => False))
    (hg : ∀ G', Sub G G' → gd G') (l : xs.length ≤ sizeLine) (h : outL m (xs.filterMap f) G Q) : ∀ p, G p = none → lcL t tt te gd σ p (lcEnd m p Q) xs (up G p (.lst [])) := fun p np => by
  refine lcL_pure f np xs [] hs hg (by simpa using l) ?_
  cases m with
  | true => exact ⟨⟨_, up_same⟩, by simpa using h p np⟩
  | false => exact ⟨_, up_same, by rw [dl_up np]; simpa [outL] using h⟩
end L3
namespace L3
open PySem PySem.Spec PyProof.Rows L2
open He (ga)
/-! ### methods of lists -/
abbrev QM := D → List D → Gp → QK → Prop
def isL (x : D) (G : Gp) : Prop := ∃ xs, lq G x = some xs
def isS (x : D) (G : Gp) : Prop := ∃ z, x = .str z
def MtR3 (X : Cx) (Z : Zx) (id : String) (t : QM) : Prop := ∃ r : V → List V → Hp → VK → Prop, MtR X id r ∧ ∀ G H x v xs vs Q3 Q, GH (Cxk X Z) G H → Dv (Cxk X Z) G H x v → DvL (Cxk X Z) G H xs vs → t x xs G Q3 → Qk (Cxk X Z) G H Q3 Q → r v vs H Q
def tmeth (ty : D → Gp → Prop) (t : QM) (to : TE3) (ta : TA3) : TE3 := fun σ G Q E => to σ G (fun x G1 => ty x G1 ∧ ta σ G1 (fun ds G2 => t x ds G2 Q) E) E
def tmeth0 (ty : D → Gp → Prop) (t : QM) (to : TE3) : TE3 := fun σ G Q E => to σ G (fun x G1 => ty x G1 ∧ t x [] G1 Q) E
def TyOk (K : K3) (T : String) (ty : D → Gp → Prop) : Prop := ∀ G H x v, GH K G H → Dv K G H x v → ty x G → tyV K.f T v H
theorem ty_list {K : K3} : TyOk K "list" isL := fun G H x v g r ⟨xs, e⟩ => by
  obtain ⟨a, vs, ea, s, rl⟩ := lq_ok g r e
  subst ea
  exact .inl ⟨rfl, vs, s⟩
theorem ty_str {K : K3} : TyOk K "str" isS := fun G H x v g r ⟨z, e⟩ => by
  subst e
  cases r
  rfl
section
variable {X : Cx} {Z : Zx} {W : WX} {o e : Expr} {es : List Expr} {to : TE3} {ta : TA3} {name : Str} {apos cpos : Pos} {T id : String} {t : QM} {ty : D → Gp → Prop}
theorem m_ (pa : PlainAttrs T) (slot : Slot T name id) (hty : typeOf (.builtin id) = pure (.type "method_descriptor")) (tk : TyOk (Cxk X Z) T ty) (hm : MtR3 X Z id t) (ho : PE3 X Z W o to) (ha : PA3 X Z W (e :: es) ta)
    (hbase : attributeBase o name X.env (eval o X.env) = eval o X.env := by rfl)
    (hfew : ((backTo cpos (starEach (e :: es) X.env)).all (fun x => !x.1) && (backToKw cpos (keywordEach [] X.env)).all (fun x => x.1.isSome)
      && decide ((e :: es).length + ([] : List Keyword).length + (if ([] : List Keyword).isEmpty then 0 else 1) < 30)) = true := by rfl)
    (hline : (apos.endLine == cpos.line) = true := by rfl) (hs : starEach (e :: es) X.env = (false, eval e X.env) :: starEach es X.env := by rfl) (hplain : (backTo cpos (starEach es X.env)).any (·.1) = false := by rfl) :
    PE3 X Z W (.Call (.Attribute o name apos) (e :: es) [] cpos) (tmeth ty t to ta) := by
  obtain ⟨r, h, k⟩ := hm
  refine PE.imp (pe_bm pa slot hty h ho ha hbase hfew hline hs hplain) fun σ H Q h => ?_
  obtain ⟨σ3, G, Q3, E3, g, rs, h, q, x⟩ := h
  refine ⟨σ3, G, _, E3, g, rs, h, fun d1 G1 v1 H1 ⟨t1, h1⟩ g1 r1 k1 => ⟨tk _ _ _ _ g1 r1 t1, ?_⟩, x⟩
  refine ⟨σ3, G1, _, E3, g1, rs.keep g k1, h1, fun ds G2 vs H2 h2 g2 r2 k2 => ?_, x.keep k1⟩
  exact k G2 H2 d1 v1 ds vs Q3 Q g2 (r1.keep g1 k2) r2 h2 (q.keep (k1.trans k2))
theorem m0_ (pa : PlainAttrs T) (slot : Slot T name id) (hty : typeOf (.builtin id) = pure (.type "method_descriptor")) (tk : TyOk (Cxk X Z) T ty) (hm : MtR3 X Z id t) (ho : PE3 X Z W o to)
    (hbase : attributeBase o name X.env (eval o X.env) = eval o X.env := by rfl) (hline : (apos.endLine == cpos.line) = true := by rfl) : PE3 X Z W (.Call (.Attribute o name apos) [] [] cpos) (tmeth0 ty t to) := by
  obtain ⟨r, h, k⟩ := hm
  refine PE.imp (pe_bm0 pa slot hty h ho hbase hline) fun σ H Q h => ?_
  obtain ⟨σ3, G, Q3, E3, g, rs, h, q, x⟩ := h
  exact ⟨σ3, G, _, E3, g, rs, h, fun d1 G1 v1 H1 ⟨t1, h1⟩ g1 r1 k1 => ⟨tk _ _ _ _ g1 r1 t1, k G1 H1 d1 v1 [] [] Q3 Q g1 r1 .nil h1 (q.keep k1)⟩, x⟩
end
def mAppend : QM := fun x ds G Q => match x, ds with
  | .ref p, [y] => ∃ xs, G p = some (.lst xs) ∧ xs.length < sizeLine ∧ Q .non (up G p (.lst (xs ++ [y])))
  | _, _ => False
def mExtend : QM := fun x ds G Q => match x, ds with
  | .ref p, [y] => ∃ xs ys, G p = some (.lst xs) ∧ mq G y = some ys ∧ xs.length + ys.length ≤ sizeLine ∧ Q .non (up G p (.lst (xs ++ ys)))
  | _, _ => False
def mPop : QM := fun x ds G Q => match x, ds with
  | .ref p, [] => ∃ xs y, G p = some (.lst xs) ∧ xs[xs.length - 1]? = some y ∧ Q y (up G p (.lst xs.dropLast))
  | _, _ => False
def mPopAt : QM := fun x ds G Q => match x, ds with
  | .ref p, [.int i] => ∃ xs k y, G p = some (.lst xs) ∧ -(2 ^ 63) ≤ i ∧ i < 2 ^ 63 ∧ seqIndex? i xs.length = some k ∧ xs[k]? = some y ∧ Q y (up G p (.lst (xs.eraseIdx k)))
  | _, _ => False
def mIndex : QM := fun x ds G Q => match ds with
  | [y] => ∃ xs j z, lq G x = some xs ∧ flD y = true ∧ xs.all flD = true ∧ xs[j]? = some z ∧ eqD z y = true ∧ (∀ (m : Nat) z', m < j → xs[m]? = some z' → eqD z' y = false) ∧ Q (.int (j : Nat)) G
  | _ => False
section
variable {X : Cx} {Z : Zx}
theorem mut_ok {K : K3} {G : Gp} {H : Hp} {p : Addr} {xs ys : List D} {vs ws : List V} {Q3 : QK} {Q : VK} {d : D} {v : V} (g : GH K G H) (e : G p = some (.lst xs)) (r : DvL K G H ys ws) (rv : Dv K G H d v) (q : Qk K G H Q3 Q) (h : Q3 d (up G p (.lst ys))) : Q v (upd H p (.lst ws)) :=
  q _ _ _ _ h (g.set e ⟨ws, upd_same, r.keep g (Keep.set e)⟩) (rv.keep g (Keep.set e)) (Keep.set e)
theorem me_append : MtR3 X Z "list.append" mAppend := by
  refine ⟨_, mt_append, fun G H x v xs vs Q3 Q g rx r h q => ?_⟩
  unfold mAppend at h
  split at h
  · cases rx
    cases r with
    | cons r1 r2 =>
    cases r2
    obtain ⟨xs, e, l, h⟩ := h
    obtain ⟨ws, e1, rl⟩ := g _ _ e
    exact ⟨_, ws, _, rfl, rfl, e1, by rw [← rl.length]; exact l, mut_ok (vs := ws) g e (rl.append (.cons r1 .nil)) .non q h⟩
  · exact h.elim
theorem me_extend : MtR3 X Z "list.extend" mExtend := by
  refine ⟨_, mt_extend, fun G H x v xs vs Q3 Q g rx r h q => ?_⟩
  unfold mExtend at h
  split at h
  · cases rx
    cases r with
    | cons r1 r2 =>
    cases r2
    obtain ⟨xs, ys, e, e2, l, h⟩ := h
    obtain ⟨ws, e1, rl⟩ := g _ _ e
    obtain ⟨b, us, eb, e3, rl2⟩ := mq_ok g r1 e2
    subst eb
    exact ⟨_, b, ws, us, rfl, rfl, e1, e3, by rw [← rl.length, ← rl2.length]; exact l, mut_ok (vs := ws) g e (rl.append rl2) .non q h⟩
  · exact h.elim
theorem me_pop : MtR3 X Z "list.pop" mPop := by
  refine ⟨_, mt_pop, fun G H x v xs vs Q3 Q g rx r h q => ?_⟩
  unfold mPop at h
  split at h
  · cases rx
    cases r
    obtain ⟨xs, y, e, e2, h⟩ := h
    obtain ⟨ws, e1, rl⟩ := g _ _ e
    obtain ⟨w, e3, r3⟩ := rl.get e2
    exact ⟨_, ws, w, rfl, rfl, e1, by rw [← rl.length]; exact e3, mut_ok (vs := ws) g e rl.dropLast r3 q h⟩
  · exact h.elim
theorem me_popAt : MtR3 X Z "list.pop" mPopAt := by
  refine ⟨_, mt_popAt, fun G H x v xs vs Q3 Q g rx r h q => ?_⟩
  unfold mPopAt at h
  split at h
  · cases rx
    cases r with
    | cons r1 r2 =>
    cases r1; cases r2
    obtain ⟨xs, k, y, e, l1, l2, e4, e2, h⟩ := h
    obtain ⟨ws, e1, rl⟩ := g _ _ e
    obtain ⟨w, e3, r3⟩ := rl.get e2
    exact ⟨_, ws, _, k, w, rfl, rfl, e1, l1, l2, by rw [← rl.length]; exact e4, e3, mut_ok (vs := ws) g e (rl.eraseIdx k) r3 q h⟩
  · exact h.elim
theorem me_index : MtR3 X Z "list.index" mIndex := by
  refine ⟨_, mt_index, fun G H x v xs vs Q3 Q g rx r h q => ?_⟩
  unfold mIndex at h
  split at h
  · cases r with
    | cons r1 r2 =>
    cases r2
    obtain ⟨ys, j, z, e, fy, fs, ez, eq, no, h⟩ := h
    obtain ⟨a, ws, ea, s, rl⟩ := lq_ok g rx e
    obtain ⟨w, e3, r3⟩ := rl.get ez
    have fz : flD z = true := List.all_eq_true.mp fs z (List.mem_of_getElem? ez)
    refine ⟨a, ws, _, j, w, ea, rfl, s, fl_ok r1 fy, fls_ok rl fs, e3, by rw [eqV_ok r3 r1 fz fy]; exact eq, fun m u hm hu => ?_, q_of q g h (.int _)⟩
    obtain ⟨z', ez'⟩ : ∃ z', ys[m]? = some z' := by
      have : m < ys.length := by rw [rl.length]; exact (List.getElem?_eq_some_iff.mp hu).1
      exact ⟨ys[m], by simp [this]⟩
    obtain ⟨u', eu', ru'⟩ := rl.get ez'
    rw [hu] at eu'; cases eu'
    rw [eqV_ok ru' r1 (List.all_eq_true.mp fs z' (List.mem_of_getElem? ez')) fy]
    exact no m z' hm ez'
  · exact h.elim
end
/-! ### o[i] = v -/
abbrev QS := D → D → D → Gp → (Gp → Prop) → Prop
def PSet3 (X : Cx) (Z : Zx) (t : QS) : Prop := ∃ r : TSet, PSet X r ∧ ∀ G H o i x ov iv v Q3 (Q : Hp → Prop), GH (Cxk X Z) G H → Dv (Cxk X Z) G H o ov → Dv (Cxk X Z) G H i iv → Dv (Cxk X Z) G H x v → t o i x G Q3 → (∀ G' H', Q3 G' → GH (Cxk X Z) G' H' → Keep G H G' H' → Q H') → r ov iv v H Q
def setL3 : QS := fun o i x G Q => match o, i with
  | .ref p, .int k => ∃ xs j, G p = some (.lst xs) ∧ ixN xs.length k = some j ∧ Q (up G p (.lst (xs.set j x)))
  | _, _ => False
theorem se_list {X : Cx} {Z : Zx} : PSet3 X Z setL3 := by
  refine ⟨_, set_list, fun G H o i x ov iv v Q3 Q g ro ri rx h q => ?_⟩
  unfold setL3 at h
  split at h
  · cases ro; cases ri
    obtain ⟨xs, j, e, l, h⟩ := h
    obtain ⟨ws, e1, rl⟩ := g _ _ e
    exact ⟨_, ws, _, j, rfl, rfl, e1, by rw [← rl.length]; exact l, q _ _ h (g.set e ⟨_, upd_same, (DvL.set rx j rl).keep g (Keep.set e)⟩) (Keep.set e)⟩
  · exact h.elim
def ssub (to ti te : TE3) (t : QS) : TS3 := fun E σ G => te σ G (fun x G1 => to σ G1 (fun o G2 => ti σ G2 (fun i G3 => t o i x G3 fun G4 => E.nx σ G4) (fun x G1 => E.ex x σ G1)) (fun x G1 => E.ex x σ G1)) (fun x G1 => E.ex x σ G1)
section
variable {X : Cx} {Z : Zx} {W : WX} {o i e : Expr} {to ti te : TE3} {t : QS} {tpos pos : Pos}
theorem setIx_ (hs : PSet3 X Z t) (ho : PE3 X Z W o to) (hi : PE3 X Z W i ti) (he : PE3 X Z W e te)
    (ha : ∀ v, assign (.Subscript o i tpos) X.env v = (do
      let ov ← holding [v] (eval o X.env)
      let iv ← holding [v, ov] (eval i X.env)
      standAt tpos
      holding [v, ov, iv] (setItem ov iv v)
      release [v, ov, iv] []) := by intro _; rfl)
    (hsw : swapsWithSole [.Subscript o i tpos] e pos.line X.env = pure false := by rfl) (hw : swappedStores [.Subscript o i tpos] e X.env = pure none := by rfl)
    (h1 : (assignEach [.Subscript o i tpos] X.env).map (·.2) = [assign (.Subscript o i tpos) X.env] := by rfl) : PS3 X Z W (.Assign [.Subscript o i tpos] e pos) (ssub to ti te t) := by
  obtain ⟨r, hs, k⟩ := hs
  refine PS.imp (ps_asg he (pg_sub ho hi hs ha) hsw hw h1) fun D σ H h => ?_
  obtain ⟨σ3, G, D3, g, rs, h, d⟩ := h
  refine ⟨σ3, G, _, _, g, rs, h, fun x G1 v H1 h1 g1 r1 k1 => ?_, d.exk g rs⟩
  refine ⟨σ3, G1, _, _, g1, rs.keep g k1, h1, fun x2 G2 v2 H2 h2 g2 r2 k2 => ?_, (d.keep k1).exk g1 (rs.keep g k1)⟩
  refine ⟨σ3, G2, _, _, g2, (rs.keep g k1).keep g1 k2, h2, fun x3 G3 v3 H3 h3 g3 r3 k3 => ?_, ((d.keep k1).keep k2).exk g2 ((rs.keep g k1).keep g1 k2)⟩
  refine k G3 H3 x2 x3 x v2 v3 v _ _ g3 (r2.keep g2 k3) r3 ((r1.keep g1 k2).keep g2 k3) h3 fun G4 H4 h4 g4 k4 => ?_
  exact d.nx _ _ _ _ h4 g4 ((((rs.keep g k1).keep g1 k2).keep g2 k3).keep g3 k4) (((k1.trans k2).trans k3).trans k4)
end
/-! ### freezing -/
/-- a list that is written no more -/
def fz (d : D) (G : Gp) (Q : QK) : Prop := match d with
  | .ref p => (match G p with
    | some (.lst xs) => Q (.fl xs) (dl G p)
    | some (.ins c fs) => Q (.ob c (fs.map (·.1)) (fs.map (·.2))) (dl G p)
    | _ => Q d G)
  | _ => Q d G
def tfz (te : TE3) : TE3 := fun σ G Q E => te σ G (fun d G1 => fz d G1 Q) E
theorem fz_ok {K : K3} {G : Gp} {H : Hp} {Q3 : QK} {Q : VK} {d : D} {v : V} (g : GH K G H) (r : Dv K G H d v) (h : fz d G Q3) (q : Qk K G H Q3 Q) : Q v H := by
  unfold fz at h
  split at h
  · rename_i p
    split at h
    · rename_i xs e
      obtain ⟨vs, e1, rl⟩ := g p _ e
      cases r
      exact q _ _ _ _ h (g.sub Sub.dl) (.fl e1 dl_same (rl.keep g (Keep.sub Sub.dl))) (Keep.sub Sub.dl)
    · rename_i c fs e
      obtain ⟨dx, vs, e1, rl⟩ := g p _ e
      cases r
      refine q _ _ _ _ h (g.sub Sub.dl) (.ob e1 ?_ dl_same (rl.keep g (Keep.sub Sub.dl))) (Keep.sub Sub.dl)
      have := rl.length
      simpa using this
    · exact q_of q g h r
  · exact q_of q g h r
theorem fz_ {X : Cx} {Z : Zx} {W : WX} {e : Expr} {te : TE3} (h : PE3 X Z W e te) : PE3 X Z W e (tfz te) := PE.imp h fun σ H Q h => by
  obtain ⟨σ3, G, Q3, E3, g, rs, h, q, x⟩ := h
  exact ⟨σ3, G, _, E3, g, rs, h, fun d G1 v H1 h1 g1 r1 k1 => fz_ok g1 r1 h1 (q.keep k1), x⟩
/-! ### a def keeps its promise -/
/-- at a def's end: less of G may be kept -/
def dn (Q : QK) : QK := fun d G => ∃ G', Sub G' G ∧ Q d G'
def fnEnds (Q : QK) (E : EK) : Ends3 := { nx := fun _ G => dn Q .non G, rt := dn Q, ex := fun x _ G => ∃ G', Sub G' G ∧ E x G' }
def start3 (N : List Str) (ds : List D) : St3 := ds.map some ++ List.replicate (N.length - ds.length) none
section
variable {P : Program} {w : World} {K : K3} {mg : Str → Option Value} {base : Heap}
theorem start_rs {G : Gp} {H : Hp} {ds : List D} {vs : List V} (N : List Str) (r : DvL K G H ds vs) : Rs K G H (start3 N ds) (L2.start N vs) := by
  unfold start3 L2.start
  rw [r.length]
  refine ⟨by simp [r.length], fun i d e => ?_⟩
  by_cases hi : i < ds.length
  · rw [List.getElem?_append_left (by simpa using hi), List.getElem?_map] at e
    cases e2 : ds[i]? with
    | none => rw [e2] at e; cases e
    | some x =>
      rw [e2] at e; cases e
      obtain ⟨v, h1, h2⟩ := r.get e2
      refine ⟨v, ?_, h2⟩
      rw [List.getElem?_append_left (by simp; rw [← r.length]; exact hi), List.getElem?_map, h1]; rfl
  · rw [List.getElem?_append_right (by simpa using hi), List.getElem?_replicate] at e
    split at e <;> cases e
theorem Xv.sub {G G' : Gp} {H : Hp} {x : X3} {c : Value} {d : Option Addr} (g : GH K G H) (s : Sub G' G) (h : Xv K G H x c d) : Xv K G' H x c d := by
  obtain ⟨h1, h2⟩ := h
  refine ⟨h1, ?_⟩
  cases e : x.f with
  | none => trivial
  | some p =>
    obtain ⟨f, y⟩ := p
    rw [e] at h2
    obtain ⟨a, v, e1, e2, r⟩ := h2
    exact ⟨a, v, e1, e2, r.keep g (Keep.sub s)⟩
/-- THE RULE for a def -/
theorem fn3_of {K : PySem.W.Frag} {x qual : Str} {params : Arguments} {body : List Stmt} {scope : Scope} {f : Addr} {fd : FuncData} {N ps : List Str} {k : Nat} {sp : Sp3}
    (F : FunD K x qual params body scope [] [] f fd) (S : FnScope N ps scope) (len : ∀ ds G Q E, sp ds G Q E → ds.length = ps.length)
    (hbody : ∃ t : TS3, (∀ (cdv : Value) (A : Around) (outer : List Env) (s : Shared) (H : Hp) (E : XK), Room k (A.deeper (envOfC qual scope s.heap.objs.size f cdv)) →
        PSs3 (cxOf (L2.CX P w) P w K mg base N qual scope f cdv A outer s H E) Z0 (fun c d _ H' => E c d H') body t) ∧
      ∀ ds G Q E, sp ds G Q E → t (fnEnds Q E) (start3 N ds) G) : FnOk P w K mg base (L2.CX P w) (k + 1) f fd ps (liftSp ⟨K, Z0⟩ sp) := by
  obtain ⟨t, hb, hv⟩ := hbody
  refine F.ok S (fun vs H Q E h => ?_) (fun cdv A outer s H vs Q E hr h => ?_)
  · obtain ⟨ds, G, Q3, E3, g, r, h, _⟩ := h
    rw [← r.length]
    exact len _ _ _ _ h
  · refine ⟨_, hb cdv A outer s H E hr, ?_⟩
    obtain ⟨ds, G, Q3, E3, g, r, h, q, x⟩ := h
    refine ⟨start3 N ds, G, fnEnds Q3 E3, g, start_rs N r, hv ds G Q3 E3 h, ⟨fun σ3 G1 σ H1 ⟨G2, s2, h1⟩ g1 r1 k1 => ?_, fun d G1 v H1 ⟨G2, s2, h1⟩ g1 r1 k1 => ?_, fun _ _ _ _ z => z.elim, fun _ _ _ _ z => z.elim, fun x3 σ3 G1 c d σ H1 ⟨G2, s2, h1⟩ g1 r1 xv k1 => ?_⟩⟩
    · exact q _ _ _ _ h1 (g1.sub s2) .non (k1.trans (Keep.sub s2))
    · exact q _ _ _ _ h1 (g1.sub s2) (r1.keep g1 (Keep.sub s2)) (k1.trans (Keep.sub s2))
    · exact x _ _ _ _ _ h1 (g1.sub s2) (xv.sub g1 s2) (k1.trans (Keep.sub s2))
theorem fn3 {K : PySem.W.Frag} {x : Str} {params : Arguments} {body : List Stmt} {scope : Scope} {f : Addr} {fd : FuncData} {N ps : List Str} {k : Nat} {sp : Sp3} (hm : mg x = some (.ref f))
    (F : FunD K x x params body scope [] [] f fd) (S : FnScope N ps scope) (hb : Binds K fd ps []) (len : ∀ ds G Q E, sp ds G Q E → ds.length = ps.length)
    (hbody : ∃ t : TS3, (∀ (cdv : Value) (A : Around) (outer : List Env) (s : Shared) (H : Hp) (E : XK), Room k (A.deeper (envOfC x scope s.heap.objs.size f cdv)) →
        PSs3 (cxOf (L2.CX P w) P w K mg base N x scope f cdv A outer s H E) Z0 (fun c d _ H' => E c d H') body t) ∧
      ∀ ds G Q E, sp ds G Q E → t (fnEnds Q E) (start3 N ds) G) : Fn3 P w K mg base x (k + 1) sp := ⟨f, fd, ps, hm, F.kp, hb, fn3_of F S len hbody⟩
end
end L3
namespace L3
open PySem PySem.Spec PyProof.Rows L2
open He (ga)
/-! ### a statement, an expression that is never reached -/
theorem sdead_ {X : Cx} {Z : Zx} {W : WX} {st : Stmt} : PS3 X Z W st (fun _ _ _ => False) := ⟨fun _ _ _ _ _ _ h => by obtain ⟨_, _, _, _, _, h, _⟩ := h; exact h.elim⟩
theorem ssdead_ {X : Cx} {Z : Zx} {W : WX} {st : List Stmt} : PSs3 X Z W st (fun _ _ _ => False) := ⟨fun _ _ _ _ _ _ h => by obtain ⟨_, _, _, _, _, h, _⟩ := h; exact h.elim⟩
theorem edead_ {X : Cx} {Z : Zx} {W : WX} {e : Expr} : PE3 X Z W e (fun _ _ _ _ => False) := ⟨fun _ _ _ _ _ _ h => by obtain ⟨_, _, _, _, _, _, h, _⟩ := h; exact h.elim⟩
/-! ### types -/
inductive Bt where
  | non | bl | int | str | tup | lst | dic
  deriving DecidableEq
def Bt.n : Bt → String
  | .non => "NoneType" | .bl => "bool" | .int => "int" | .str => "str" | .tup => "tuple" | .lst => "list" | .dic => "dict"
def Bt.all : List Bt := [.non, .bl, .int, .str, .tup, .lst, .dic]
theorem Bt.mem (t : Bt) : t ∈ Bt.all := by cases t <;> decide
inductive Ty3 where
  | b (t : Bt) | o (c : Str)
def Ty3.v (K : PySem.W.Frag) : Ty3 → Value
  | .b t => .type t.n
  | .o c => .ref (ga K c)
def tyD (G : Gp) : D → Option Ty3
  | .non => some (.b .non)
  | .bl _ => some (.b .bl)
  | .int _ => some (.b .int)
  | .str _ => some (.b .str)
  | .tup _ => some (.b .tup)
  | .fl _ => some (.b .lst)
  | .sl _ => some (.b .lst)
  | .ob c _ _ => some (.o c)
  | .emp => some (.b .dic)
  | .ref a => (match G a with
    | some (.lst _) => some (.b .lst)
    | some (.dic _) => some (.b .dic)
    | some (.ins c _) => some (.o c)
    | none => none)
  | _ => none
/-- a class whose instances are looked at -/
structure OwnC (K : PySem.W.Frag) (c : Str) : Prop where
  cl : Cls K (ga K c)
  ha : PySem.W.findIn K (.ref (ga K c)) "__class__" = some (some (.builtin "object.__class__"))
  hn : PySem.W.specialIn K (.builtin "object.__class__") "__get__" = some (some (.builtin "getset_descriptor.__get__"))
  htk : PySem.W.takesIn K (.builtin "object.__class__") = some true
  hm : PySem.W.mroIn K (ga K c) (.type "object") = some true
structure IsF (K : PySem.W.Frag) (OC : List Str) : Prop where
  own : ∀ c ∈ OC, OwnC K c
  ob : ∀ c ∈ OC, ∀ T : Bt, PySem.W.kitOne K (.ref (ga K c)) (.type T.n) = some false
  bo : ∀ c ∈ OC, ∀ T : Bt, PySem.W.kitOne K (.type T.n) (.ref (ga K c)) = some false
  oo : ∀ c ∈ OC, ∀ d ∈ OC, PySem.W.kitOne K (.ref (ga K c)) (.ref (ga K d)) = some (c == d)
def isfB (OC : List Str) (K : PySem.W.Frag) : Bool := OC.all fun c => (He.Fa.ok K (.cls c) && (decide (PySem.W.findIn K (.ref (ga K c)) "__class__" = some (some (.builtin "object.__class__"))) && (decide (PySem.W.specialIn K (.builtin "object.__class__") "__get__" = some (some (.builtin "getset_descriptor.__get__"))) &&
  (decide (PySem.W.takesIn K (.builtin "object.__class__") = some true) && decide (PySem.W.mroIn K (ga K c) (.type "object") = some true))))) &&
  ((Bt.all.all fun T => decide (PySem.W.kitOne K (.ref (ga K c)) (.type T.n) = some false) && decide (PySem.W.kitOne K (.type T.n) (.ref (ga K c)) = some false)) &&
  OC.all fun d => decide (PySem.W.kitOne K (.ref (ga K c)) (.ref (ga K d)) = some (c == d)))
theorem isf_ok {K : PySem.W.Frag} {OC : List Str} (h : isfB OC K = true) : IsF K OC := by
  have key : ∀ c ∈ OC, _ := fun c hc => He.ba (List.all_eq_true.mp h c hc)
  refine ⟨fun c hc => ?_, fun c hc T => ?_, fun c hc T => ?_, fun c hc d hd => ?_⟩
  · obtain ⟨h1, _⟩ := key c hc
    obtain ⟨h1, h2⟩ := He.ba h1
    obtain ⟨h2, h3⟩ := He.ba h2
    obtain ⟨h3, h4⟩ := He.ba h3
    obtain ⟨h4, h5⟩ := He.ba h4
    exact ⟨He.cls_ok h1, of_decide_eq_true h2, of_decide_eq_true h3, of_decide_eq_true h4, of_decide_eq_true h5⟩
  · obtain ⟨_, h1⟩ := key c hc
    obtain ⟨h1, _⟩ := He.ba h1
    exact of_decide_eq_true (He.ba (List.all_eq_true.mp h1 T T.mem)).1
  · obtain ⟨_, h1⟩ := key c hc
    obtain ⟨h1, _⟩ := He.ba h1
    exact of_decide_eq_true (He.ba (List.all_eq_true.mp h1 T T.mem)).2
  · obtain ⟨_, h1⟩ := key c hc
    obtain ⟨_, h1⟩ := He.ba h1
    exact of_decide_eq_true (List.all_eq_true.mp h1 d hd)
/-- is it of this built-in type -/
def isT (OC : List Str) (T : Bt) : Ty3 → Option Bool
  | .b U => some (decide (U = T) || (decide (U = .bl) && decide (T = .int)))
  | .o c => if OC.contains c then some false else none
/-- .. of this own class -/
def isO (OC : List Str) (C : Str) : Ty3 → Option Bool
  | .b _ => some false
  | .o c => if OC.contains c then some (c == C) else none
/-- .. of one of these -/
def isA (OC : List Str) (Ts : List Bt) : Ty3 → Option Bool
  | .b U => some (Ts.any fun T => decide (U = T) || (decide (U = .bl) && decide (T = .int)))
  | .o c => if OC.contains c then some false else none
theorem kitB_all : ∀ U T : Bt, kitB U.n T.n = some (decide (U = T) || (decide (U = .bl) && decide (T = .int))) := by
  intro U T; cases U <;> cases T <;> decide +kernel
def TbC (K : PySem.W.Frag) (u : Value) (f : Ty3 → Option Bool) : Prop := ∀ t b, f t = some b → PySem.W.kitOne K (t.v K) u = some b ∧ ∀ c, t = .o c → OwnC K c
section
variable {K : PySem.W.Frag} {OC : List Str}
theorem tb_b (F : IsF K OC) (T : Bt) : TbC K (.type T.n) (isT OC T) := fun t b h => by
  cases t with
  | b U =>
    cases h
    exact ⟨kit_ty (kitB_all U T), fun c e => by cases e⟩
  | o c =>
    unfold isT at h
    simp only at h
    split at h
    · rename_i hc
      cases h
      have hc : c ∈ OC := by simpa using hc
      exact ⟨F.ob c hc T, fun d e => by cases e; exact F.own c hc⟩
    · cases h
theorem tb_o (F : IsF K OC) (C : Str) (hC : C ∈ OC) : TbC K (.ref (ga K C)) (isO OC C) := fun t b h => by
  cases t with
  | b U =>
    cases h
    exact ⟨F.bo C hC U, fun c e => by cases e⟩
  | o c =>
    unfold isO at h
    simp only at h
    split at h
    · rename_i hc
      cases h
      have hc : c ∈ OC := by simpa using hc
      exact ⟨F.oo c hc C hC, fun d e => by cases e; exact F.own c hc⟩
    · cases h
end
section
variable {K : K3} {G : Gp} {H : Hp}
theorem tyD_ok (g : GH K G H) {x : D} {v : V} {t : Ty3} (r : Dv K G H x v) (h : tyD G x = some t) (ow : ∀ c, t = .o c → OwnC K.f c) : TyX K.f H v (t.v K.f) := by
  cases r with
  | non => cases h; exact .base .non
  | bl b => cases h; exact .base (.bl b)
  | int i => cases h; exact .base (.int i)
  | str z => cases h; exact .base (.str z)
  | tup s r =>
    cases h
    rcases s with (s | ⟨o, s⟩) | ⟨o, its, n, s1, s2, _⟩
    · exact .base (.tup s)
    · exact .fTuple s
    · exact .kTuple s1 s2
  | fl s n r => cases h; exact .base (.lst s)
  | sl s r =>
    cases h
    rcases s with ⟨s | ⟨o, s⟩, _⟩ | ⟨o, its, n, s1, s2, _⟩
    · exact .base (.lst s)
    · exact .base (.frz s)
    · exact .kList s1 s2
  | ob s l n r =>
    cases h
    have w := ow _ rfl
    exact .base (.ins s w.cl w.ha w.hn w.htk w.hm)
  | emp s n => cases h; exact .base (.dK s)
  | ref a =>
    unfold tyD at h
    simp only at h
    split at h
    · rename_i xs e
      cases h
      obtain ⟨vs, h2, _⟩ := g a _ e
      exact .base (.lst h2)
    · rename_i xs e
      cases h
      obtain ⟨vs, h2, _⟩ := g a _ e
      exact .base (.dK h2)
    · rename_i c fs e
      cases h
      obtain ⟨dx, vs, h2, _⟩ := g a _ e
      have w := ow _ rfl
      exact .base (.ins h2 w.cl w.ha w.hn w.htk w.hm)
    · cases h
  | ex h0 => cases h
  | exf h0 h1 h2 r => cases h
end
def tisi (f : Ty3 → Option Bool) (te : TE3) : TE3 := fun σ G Q E => te σ G (fun x G1 => ∃ t b, tyD G1 x = some t ∧ f t = some b ∧ Q (.bl b) G1) E
/-- the class as it is written -/
def IsC (X : Cx) (c : Expr) (u : Value) : Prop := ∃ cv, PE X c (tC cv) ∧ ClsV cv u
section
variable {X : Cx} {Z : Zx} {W : WX} {e c : Expr} {te : TE3} {pos p q pc : Pos} {f : Ty3 → Option Bool} {u : Value} {OC : List Str}
theorem isc_b (T : Bt) {x : Str} (hm : X.mg x = none) (hv : bootBuiltins x = some (.type T.n) := by decide +kernel) (hg : Gl X x := by rfl) (hn : x ≠ "__name__" := by decide +kernel) (hd : (x == ("__debug__" : Str)) = false := by decide +kernel) : IsC X (.Name x p) (.type T.n) :=
  ⟨.ty T.n, pe_bltn hg hm hv rfl hn hd, .ty _⟩
theorem isc_o {x : Str} (hm : X.mg x = some (.ref (ga X.K x))) (hg : Gl X x := by rfl) (hd : (x == ("__debug__" : Str)) = false := by decide +kernel) : IsC X (.Name x p) (.ref (ga X.K x)) :=
  ⟨.ref (ga X.K x), pe_glob hg hm rfl hd, .own _⟩
theorem isi_ (hi : X.mg "isinstance" = none) (hc : IsC X c u) (tb : TbC X.K u f) (he : PE3 X Z W e te) (hg : Gl X "isinstance" := by rfl)
    (he1 : starEach [e, c] X.env = (false, eval e X.env) :: starEach [c] X.env := by rfl) (he2 : starEach [c] X.env = (false, eval c X.env) :: starEach [] X.env := by rfl) (hpl : (backTo pos (starEach [c] X.env)).any (·.1) = false := by rfl) :
    PE3 X Z W (.Call (.Name "isinstance" p) [e, c] [] pos) (tisi f te) := by
  obtain ⟨cv, hc, k⟩ := hc
  refine PE.imp (pe_callB call_isi hg hi (by decide +kernel) (pa_cons he (pa_cons hc pa_nil he2) he1) (by decide) (by decide) he1 hpl) fun σ H Q h => ?_
  obtain ⟨σ3, G, Q3, E3, g, rs, h, qk, x⟩ := h
  refine ⟨σ3, G, _, E3, g, rs, h, fun d G1 v H1 ⟨t, b, h1, h2, h3⟩ g1 r1 k1 => ?_, x⟩
  obtain ⟨t1, t2⟩ := tb t b h2
  exact ⟨v, cv, _, u, b, rfl, k, tyD_ok g1 r1 h1 t2, t1, q_of (qk.keep k1) g1 h3 (.bl b)⟩
theorem kitAny_all (F : IsF X.K OC) : ∀ (Ts : List Bt) (t : Ty3) (b : Bool), isA OC Ts t = some b → PySem.W.kitAny X.K (t.v X.K) (Ts.map fun T => .type T.n) = some b ∧ ∀ c, t = .o c → OwnC X.K c
  | [], t, b, h => by
    cases t with
    | b U =>
      cases h
      exact ⟨kitAny_nil, fun c e => by cases e⟩
    | o c =>
      unfold isA at h
      simp only at h
      split at h
      · rename_i hc
        cases h
        exact ⟨kitAny_nil, fun d e => by cases e; exact F.own c (by simpa using hc)⟩
      · cases h
  | T :: Ts, t, b, h => by
    cases t with
    | b U =>
      cases h
      refine ⟨kitAny_cons (b := decide (U = T) || (decide (U = .bl) && decide (T = .int))) (kit_ty (kitB_all U T)) (fun e => ?_) (fun e => ?_), fun c e => by cases e⟩
      · rw [(kitAny_all F Ts (.b U) _ rfl).1, List.any_cons, e, Bool.false_or]
      · rw [List.any_cons, e, Bool.true_or]
    | o c =>
      unfold isA at h
      simp only at h
      split at h
      · rename_i hc
        cases h
        have hc' : c ∈ OC := by simpa using hc
        refine ⟨kitAny_cons (F.ob c hc' T) (fun _ => (kitAny_all F Ts (.o c) false ?_).1) (fun e => by cases e), fun d e => by cases e; exact F.own c hc'⟩
        unfold isA
        simp only
        rw [if_pos hc]
      · cases h
/-- isinstance(x, (T, U)) -/
theorem isi2_ (F : IsF X.K OC) (T U : Bt) {x y : Str} {k : Nat} {p1 p2 pt : Pos} (hi : X.mg "isinstance" = none) (h1 : X.mg x = none) (h2 : X.mg y = none) (he : PE3 X Z W e te) (hv1 : bootBuiltins x = some (.type T.n) := by decide +kernel) (hv2 : bootBuiltins y = some (.type U.n) := by decide +kernel)
    (hg : Gl X "isinstance" := by rfl) (hg1 : Gl X x := by rfl) (hg2 : Gl X y := by rfl) (hn1 : x ≠ "__name__" := by decide +kernel) (hd1 : (x == ("__debug__" : Str)) = false := by decide +kernel) (hn2 : y ≠ "__name__" := by decide +kernel) (hd2 : (y == ("__debug__" : Str)) = false := by decide +kernel)
    (he1 : starEach [e, .Tuple [.Name x p1, .Name y p2] k pt] X.env = (false, eval e X.env) :: starEach [.Tuple [.Name x p1, .Name y p2] k pt] X.env := by rfl) (hpl : (backTo pos (starEach [.Tuple [.Name x p1, .Name y p2] k pt] X.env)).any (·.1) = false := by rfl) :
    PE3 X Z W (.Call (.Name "isinstance" p) [e, .Tuple [.Name x p1, .Name y p2] k pt] [] pos) (tisi (isA OC [T, U]) te) := by
  refine PE.imp (pe_callB call_isiT hg hi (by decide +kernel) (pa_cons he (pa_cons (pe_tup (pa_cons (pe_bltn (v := .ty T.n) hg1 h1 hv1 rfl hn1 hd1) (pa_cons (pe_bltn (v := .ty U.n) hg2 h2 hv2 rfl hn2 hd2) pa_nil))) pa_nil) he1) (by decide) (by decide) he1 hpl) fun σ H Q h => ?_
  obtain ⟨σ3, G, Q3, E3, g, rs, h, qk, x⟩ := h
  refine ⟨σ3, G, _, E3, g, rs, h, fun d G1 v H1 ⟨t, b, h1, h2, h3⟩ g1 r1 k1 => ?_, x⟩
  obtain ⟨t1, t2⟩ := kitAny_all F [T, U] t b h2
  refine ⟨by show 2 ≤ sizeLine; decide, fun tp n => ?_⟩
  have k2 : Keep G1 H1 G1 (upd H1 tp (.tup [V.ty T.n, V.ty U.n])) := Keep.new n
  refine ⟨v, tp, _, _, _, b, rfl, upd_same, .cons (.ty T.n) (.cons (.ty U.n) .nil), tyD_ok (g1.new n) (r1.keep g1 k2) h1 t2, t1, ?_⟩
  exact q_of (qk.keep (k1.trans k2)) (g1.new n) h3 (.bl b)
end
/-! ### -x -/
def tneg (te : TE3) : TE3 := fun σ G Q E => te σ G (fun x G1 => ∃ i, x = .int i ∧ Q (.int (-i)) G1) E
section
variable {X : Cx} {Z : Zx} {W : WX} {e a b : Expr} {te : TE3} {ta : TA3} {pos : Pos}
theorem neg_ (h : PE3 X Z W e te) : PE3 X Z W (.UnaryOp .USub e pos) (tneg te) := PE.imp (pe_un un_neg h) fun σ H Q h => by
  obtain ⟨σ3, G, Q3, E3, g, rs, h, q, x⟩ := h
  refine ⟨σ3, G, _, E3, g, rs, h, fun d G1 v H1 ⟨i, e, h1⟩ g1 r1 k1 => ?_, x⟩
  subst e
  cases r1
  exact ⟨i, rfl, q_of (q.keep k1) g1 h1 (.int _)⟩
/-! ### a, b = e1, e2 -/
def spar (i j : Nat) (ta : TA3) : TS3 := fun D σ G => ta σ G (fun ds G1 => ∃ v w, ds = [v, w] ∧ D.nx ((σ.set i (some v)).set j (some w)) G1) (fun x G1 => D.ex x σ G1)
theorem par_ (i j : Nat) {x y : Str} {px py pt : Pos} {kt k2 pt2} (hc : X.calm = true) (hN : X.N.Nodup) (ha : PA3 X Z W [a, b] ta) (hi : X.N[i]? = some x := by rfl) (hj : X.N[j]? = some y := by rfl) (hij : i ≠ j := by decide)
    (hx : X.env.scope.names.lookup x = some .local := by rfl) (hy : X.env.scope.names.lookup y = some .local := by rfl)
    (hw : swappedStores [.Tuple [.Name x px, .Name y py] kt pt] (.Tuple [a, b] k2 pt2) X.env = pure (some [x, y]) := by rfl)
    (hs : swapsWithSole [.Tuple [.Name x px, .Name y py] kt pt] (.Tuple [a, b] k2 pt2) pos.line X.env = pure false := by rfl) :
    PS3 X Z W (.Assign [.Tuple [.Name x px, .Name y py] kt pt] (.Tuple [a, b] k2 pt2) pos) (spar i j ta) := PS.imp (ps_par hc hN hi hj hij hx hy ha hw hs) fun D σ H h => by
  obtain ⟨σ3, G, D3, g, rs, h, d⟩ := h
  refine ⟨σ3, G, _, _, g, rs, h, fun ds G1 vs H1 ⟨v, w, e, h1⟩ g1 r1 k1 => ?_, d.exk g rs⟩
  subst e
  cases r1 with
  | cons r1 r2 =>
  cases r2 with
  | cons r2 r3 =>
  cases r3
  exact ⟨_, _, rfl, d.nx _ _ _ _ h1 g1 (((rs.keep g k1).set r1 i).set r2 j) k1⟩
/-- a, b, .. = e -/
def sunp (is : List Nat) (te : TE3) : TS3 := fun D σ G => te σ G (fun x G1 => (Tg.t is).b x σ fun σ' => D.nx σ' G1) (fun x G1 => D.ex x σ G1)
theorem unp_ {tg : Expr} (is : List Nat) (he : PE3 X Z W e te) (hg : PG X tg ((Tg.t is).g X.K)) (hs : swapsWithSole [tg] e pos.line X.env = pure false := by rfl) (hw : swappedStores [tg] e X.env = pure none := by rfl)
    (h1 : (assignEach [tg] X.env).map (·.2) = [assign tg X.env] := by rfl) : PS3 X Z W (.Assign [tg] e pos) (sunp is te) := PS.imp (ps_asg he hg hs hw h1) fun D σ H h => by
  obtain ⟨σ3, G, D3, g, rs, h, d⟩ := h
  refine ⟨σ3, G, _, _, g, rs, h, fun x G1 v H1 h1 g1 r1 k1 => ?_, d.exk g rs⟩
  exact Tg.run (rs.keep g k1) r1 h1 fun σ5 σ6 h5 r5 _ => d.nx _ _ _ _ h5 g1 r5 k1
end
/-! ### attributes -/
def fldD (c f : Str) (G : Gp) : D → Option D
  | .ob c' ns xs => if c' = c then (ns.zip xs).lookup f else none
  | .ref a => (match G a with
    | some (.ins c' fs) => if c' = c then fs.lookup f else none
    | _ => none)
  | _ => none
def put3 (f : Str) (v : D) : List (Str × D) → List (Str × D)
  | [] => [(f, v)]
  | (g, x) :: r => if g = f then (g, v) :: r else (g, x) :: put3 f v r
def tfld (c f : Str) (te : TE3) : TE3 := fun σ G Q E => te σ G (fun x G1 => ∃ d, fldD c f G1 x = some d ∧ Q d G1) E
def sfld (c f : Str) (to tv : TE3) : TS3 := fun D σ G => tv σ G (fun y G1 => to σ G1 (fun x G2 => ∃ a fs, x = .ref a ∧ G2 a = some (.ins c fs) ∧ fs.length < 1000 ∧ D.nx σ (up G2 a (.ins c (put3 f y fs)))) (fun x G1 => D.ex x σ G1)) (fun x G1 => D.ex x σ G1)
section
variable {K : K3} {G : Gp} {H : Hp}
theorem zip_look : ∀ {ns : List Str} {xs : List D} {vs : List V} {f : Str} {d : D}, DvL K G H xs vs → (ns.zip xs).lookup f = some d → ∃ v, (ns.zip vs).lookup f = some v ∧ Dv K G H d v
  | [], _, _, _, _, _, h => by simp at h
  | _ :: _, [], _, _, _, _, h => by simp at h
  | n :: ns, x :: xs, v :: vs, f, d, .cons r t, h => by
    rw [List.zip_cons_cons, List.lookup_cons] at h ⊢
    cases e : f == n with
    | true =>
      rw [e] at h
      cases h
      exact ⟨v, rfl, r⟩
    | false =>
      rw [e] at h
      exact zip_look t h
theorem zip_self : ∀ (fs : List (Str × D)), (fs.map (·.1)).zip (fs.map (·.2)) = fs
  | [] => rfl
  | (a, b) :: r => by simp [zip_self r]
theorem fldD_ok (g : GH K G H) {c f : Str} {x d : D} {v : V} (r : Dv K G H x v) (h : fldD c f G x = some d) : ∃ a dx fs w, v = .ref a ∧ H a = some (.ins (ga K.f c) dx fs) ∧ fs.lookup f = some w ∧ Dv K G H d w := by
  cases r with
  | ob s l n r =>
    unfold fldD at h
    simp only at h
    split at h
    · rename_i e
      subst e
      obtain ⟨w, h1, h2⟩ := zip_look r h
      exact ⟨_, _, _, w, rfl, s, h1, h2⟩
    · cases h
  | ref a =>
    unfold fldD at h
    simp only at h
    split at h
    · rename_i c' fs e
      split at h
      · rename_i ec
        subst ec
        obtain ⟨dx, vs, h2, r⟩ := g a _ e
        rw [← zip_self fs] at h
        obtain ⟨w, h3, h4⟩ := zip_look r h
        exact ⟨_, _, _, w, rfl, h2, h3, h4⟩
      · cases h
    · cases h
  | _ => cases h
theorem put_ok {f : Str} {y : D} {w : V} (rw' : Dv K G H y w) : ∀ {fs : List (Str × D)} {vs : List V}, DvL K G H (fs.map (·.2)) vs → ∃ us, putF f w ((fs.map (·.1)).zip vs) = ((put3 f y fs).map (·.1)).zip us ∧ DvL K G H ((put3 f y fs).map (·.2)) us
  | [], [], .nil => ⟨[w], rfl, .cons rw' .nil⟩
  | (n, x) :: fs, v :: vs, .cons r t => by
    by_cases e : n = f
    · subst e
      refine ⟨w :: vs, ?_, ?_⟩
      · simp [put3, putF]
      · simp only [put3, if_pos]; exact .cons rw' t
    · obtain ⟨us, h1, h2⟩ := put_ok (f := f) rw' t
      refine ⟨v :: us, ?_, ?_⟩
      · simp [put3, putF, e, h1]
      · simp only [put3, e, if_false]; exact .cons r h2
end
section
variable {X : Cx} {Z : Zx} {W : WX} {e o : Expr} {te to tv : TE3} {pos pos' : Pos} {c f : Str}
theorem fld_ (c : Str) (cl : Cls X.K (ga X.K c)) (na : NoAttr X.K (ga X.K c) f) (h : PE3 X Z W e te) (hb : attributeBase e f X.env (eval e X.env) = eval e X.env := by rfl) : PE3 X Z W (.Attribute e f pos) (tfld c f te) := PE.imp (pe_fld h hb) fun σ H Q h => by
  obtain ⟨σ3, G, Q3, E3, g, rs, h, q, x⟩ := h
  refine ⟨σ3, G, _, E3, g, rs, h, fun x G1 v H1 ⟨d, e, h1⟩ g1 r1 k1 => ?_, x⟩
  obtain ⟨a, dx, fs, w, ea, eH, el, rw'⟩ := fldD_ok g1 r1 e
  exact ⟨a, _, dx, fs, w, ea, eH, cl, na, el, q_of (q.keep k1) g1 h1 rw'⟩
theorem sfld_ (c : Str) (cl : Cls X.K (ga X.K c)) (na : NoAttr X.K (ga X.K c) f) (ho : PE3 X Z W o to) (hv : PE3 X Z W e tv) (hs : swapsWith e (some (.Attribute o f pos')) pos.line X.env = pure false := by rfl) :
    PS3 X Z W (.Assign [.Attribute o f pos'] e pos) (sfld c f to tv) := PS.imp (ps_fld ho hv hs) fun D σ H h => by
  obtain ⟨σ3, G, D3, g, rs, h, d⟩ := h
  refine ⟨σ3, G, _, _, g, rs, h, fun y G1 v H1 h1 g1 r1 k1 => ?_, d.exk g rs⟩
  refine ⟨σ3, G1, _, _, g1, rs.keep g k1, h1, fun x G2 u H2 ⟨a, fs, ex, eG, l, h2⟩ g2 r2 k2 => ?_, (d.keep k1).exk g1 (rs.keep g k1)⟩
  subst ex
  cases r2
  obtain ⟨dx, vs, eH, r⟩ := g2 a _ eG
  obtain ⟨us, h3, h4⟩ := put_ok (f := f) (r1.keep g1 k2) r
  refine ⟨a, _, dx, _, rfl, eH, cl, na, ?_, ?_⟩
  · rw [List.length_zip, List.length_map, ← r.length, List.length_map]; omega
  · rw [h3]
    exact d.nx _ _ _ _ h2 (g2.set eG ⟨dx, us, upd_same, h4.keep g2 (Keep.set eG)⟩) (((rs.keep g k1).keep g1 k2).keep g2 (Keep.set eG)) ((k1.trans k2).trans (Keep.set eG))
end
/-! ### an instance is made -/
/-- a method, __init__: its own function -/
structure Mn3 (P : Program) (w : World) (K : PySem.W.Frag) (mg : Str → Option Value) (base : Heap) (f : Addr) (j : Nat) (sp : Sp3) : Prop where
  ex : ∃ (fd : FuncData) (ps : List Str), Binds K fd ps [] ∧ FnOk P w K mg base (L2.CX P w) j f fd ps (liftSp ⟨K, Z0⟩ sp)
def tmk (c : Str) (sp : Sp3) (ta : TA3) : TE3 := fun σ G Q E => ta σ G (fun ds G1 => ∀ a, G1 a = none → sp (.ref a :: ds) (up G1 a (.ins c [])) (fun d G2 => d = .non ∧ Q (.ref a) G2) E) E
section
variable {X : Cx} {Z : Zx} {W : WX} {e : Expr} {es : List Expr} {ta : TA3} {pos p : Pos} {x : Str}
def tMakeS (C : Addr) (sp : Sp) (E : St → XK) (t : TA) : TE := fun σ H Q => t σ H fun vs H1 => ∀ x dx, H1 x = none → H1 dx = none → dx ≠ x →
  sp (.ref x :: vs) (upd (upd H1 dx (.own x)) x (.ins C dx [])) (fun v H2 => v = .non ∧ Q (.ref x) H2) (E σ)
theorem run_makeS {CX : CXT} {k : Nat} {f C : Addr} {fd : FuncData} {ps : List Str} {sp : Sp} {E : XK} {pins : List (Addr × Obj)} {σ : St} {H : Hp} {s : Shared} {Q : VK} {us : List Value} {vs : List V} (M : Mk X.K C f) (F : FnOk X.prog X.w X.K X.mg X.base CX k f fd ps sp) (hr : Room (k + 1) X.A) (hb : Binds X.K fd ps [])
    (hx : PassesAt CX X σ E) (I : Inv X pins σ H s) (r : Vals vs us)
    (h : ∀ x dx, H x = none → H dx = none → dx ≠ x → sp (.ref x :: vs) (upd (upd H dx (.own x)) x (.ins C dx [])) (fun v H2 => v = .non ∧ Q (.ref x) H2) E) :
    wpAny (model X.prog X.w) X.A (call (.ref C) us) (EP X pins σ Q) X.xe s := by
  have hq := h (s.heap.objs.size + 1) s.heap.objs.size (I.hok.fresh (Nat.le_succ _)) (I.hok.fresh (Nat.le_refl _)) (Nat.ne_of_lt (Nat.lt_succ_self _))
  have I2 := Inv.made (C := C) I
  have r2 : Vals (V.ref (s.heap.objs.size + 1) :: vs) (Value.ref (s.heap.objs.size + 1) :: us) := .cons rfl r
  have hl : (Value.ref (s.heap.objs.size + 1) :: us ++ []).length = ps.length := by
    have e := r2.length
    rw [F.len _ _ _ _ hq] at e
    simpa using e.symm
  have hb2 := hb _ (Value.ref (s.heap.objs.size + 1) :: us) I2.kIn hl
  rw [List.append_nil] at hb2
  refine wpAny_call (make_map (f := f) I.kIn M.makes M.init (beq_iff_eq.mp M.fn) (codeAny_mono (F.run _ X.stack _ _ ⟨Value.ref (s.heap.objs.size + 1) :: us, []⟩ (Value.ref (s.heap.objs.size + 1) :: us) _ _ E (hr.make C us [])
    (I2.env0.make C us []) hb2 r2 hq) fun r s' hq' => ?_))
  cases r with
  | error e => exact hx pins _ _ e s' I2 hq'
  | ok fl =>
    cases fl with
    | ret u =>
      obtain ⟨v, H', I3, rv, ev, q3⟩ := I2.after hq'
      subst ev
      exact ⟨rv, ⟨V.ref (s.heap.objs.size + 1), H', I3, rfl, q3⟩⟩
    | next => exact False.elim hq'
    | brk => exact False.elim hq'
    | cont => exact False.elim hq'
theorem pe_makeS {CX : CXT} {k : Nat} {f C : Addr} {fd : FuncData} {ps : List Str} {sp : Sp} {E : St → XK} {t : TA} (M : Mk X.K C f) (F : FnOk X.prog X.w X.K X.mg X.base CX k f fd ps sp) (hr : Room (k + 1) X.A) (hg : Gl X x) (hm : X.mg x = some (.ref C)) (hb : Binds X.K fd ps []) (hx : ∀ σ, PassesAt CX X σ (E σ))
    (ha : PA X (e :: es) t) (hdb : (x == ("__debug__" : Str)) = false := by decide) (he : starEach (e :: es) X.env = (false, eval e X.env) :: starEach es X.env := by rfl) (hpl : (backTo pos (starEach es X.env)).any (·.1) = false := by rfl) :
    PE X (.Call (.Name x p) (e :: es) [] pos) (tMakeS C sp E t) := by
  refine ⟨fun pins s σ H Q I h => ?_⟩
  refine wpAny_Call_Name_kw (ld_glob I hg hm ?_ hdb)
  refine PySem.W.callWith_K (h₀ := X.base) I.ok.mod.kin M.kp (thn (ha.run pos pins s σ H _ I h) fun us s1 ⟨vs, H1, I1, r, q⟩ => ⟨I1.kIn, ?_⟩) he hpl
  exact run_makeS M F hr hb (hx σ) I1 r q
theorem mk_ {j k : Nat} {sp : Sp3} {f : Addr} (M : Mk X.K (ga X.K x) f) (F : Mn3 X.prog X.w X.K X.mg X.base f j sp) (hm : X.mg x = some (.ref (ga X.K x))) (hr : Room (k + 1) X.A) (hj : j ≤ k) (tk : Takes X W) (ha : PA3 X Z0 W (e :: es) ta) (hg : Gl X x := by rfl) (hdb : (x == ("__debug__" : Str)) = false := by decide +kernel)
    (he : starEach (e :: es) X.env = (false, eval e X.env) :: starEach es X.env := by rfl) (hpl : (backTo pos (starEach es X.env)).any (·.1) = false := by rfl) : PE3 X Z0 W (.Call (.Name x p) (e :: es) [] pos) (tmk x sp ta) := by
  obtain ⟨fd, ps, hb, F⟩ := F.ex
  refine PE.imp (pe_makeS (M := M) F (hr.mono (Nat.succ_le_succ hj)) hg hm hb (fun σ => passAt tk σ) ha hdb he hpl) fun σ H Q h => ?_
  obtain ⟨σ3, G, Q3, E3, g, rs, h, q, xk⟩ := h
  refine ⟨σ3, G, _, E3, g, rs, h, fun ds G1 vs H1 h1 g1 r1 k1 => fun a dx na nd ne => ?_, xk⟩
  have n2 : upd H1 dx (.own a) a = none := by rw [upd_ne (Ne.symm ne)]; exact na
  have ka : Keep G1 H1 G1 (upd H1 dx (.own a)) := Keep.new nd
  have kb := Keep.newG (G := G1) (H := upd H1 dx (.own a)) (o := .ins (ga X.K x) dx []) (u := .ins x []) n2
  have gb := (g1.new (o := .own a) nd).newG (p := a) (o := .ins (ga X.K x) dx []) (u := .ins x []) n2 ⟨dx, [], upd_same, .nil⟩
  have kk := ka.trans kb
  refine ⟨.ref a :: ds, up G1 a (.ins x []), _, E3, gb, .cons (.ref a) (r1.keep g1 kk), h1 a (g1.free na), fun d G2 v H2 ⟨h2, h3⟩ g2 r2 k2 => ?_, xk.keep (k1.trans kk)⟩
  subst h2
  cases r2
  exact ⟨rfl, q _ _ _ _ h3 g2 (.ref a) ((k1.trans kk).trans k2)⟩
end
end L3
namespace L3
open PySem PySem.Spec PyProof.Rows L2
open He (ga)
def sdead : TS3 := fun _ _ _ => False
section
variable {X : Cx} {Z : Zx} {W : WX} {pos : Pos}
/-- {} -/
theorem emp_ : PE3 X Z W (.Dict [] [] pos) (tc .emp) := PE.imp pe_dnewK fun σ H Q h => by
  obtain ⟨σ3, G, Q3, E3, g, rs, h, q, x⟩ := h
  exact fun p n => q _ _ _ _ h (g.new n) (.emp upd_same (g.free n)) (Keep.new n)
theorem cgi_ {x : Str} {i : Int} (hm : ∃ t, X.mg x = some (.int i t)) (hg : Gl X x := by rfl) (hd : (x == ("__debug__" : Str)) = false := by decide +kernel) : PE3 X Z W (.Name x pos) (tc (.int i)) := by
  obtain ⟨t, hm⟩ := hm
  exact cg_ (v := .int i) hm ⟨t, rfl⟩ (fun _ _ => .int i) hg hd
theorem cgs_ {x z : Str} (hm : ∃ t, X.mg x = some (.str z t)) (hg : Gl X x := by rfl) (hd : (x == ("__debug__" : Str)) = false := by decide +kernel) : PE3 X Z W (.Name x pos) (tc (.str z)) := by
  obtain ⟨t, hm⟩ := hm
  exact cg_ (v := .str z) hm ⟨t, rfl⟩ (fun _ _ => .str z) hg hd
end
section
variable {P : Program} {w : World} {K : PySem.W.Frag} {mg : Str → Option Value} {base : Heap} {N : List Str} {qual : Str} {scope : Scope} {f : Addr} {cdv : Value} {A : Around} {outer : List Env} {s : Shared} {H : Hp} {E : XK}
theorem tk_of : Takes (cxOf (L2.CX P w) P w K mg base N qual scope f cdv A outer s H E) (fun c d _ H' => E c d H') := takes_of rfl rfl rfl rfl
theorem pas_of : PassesOwn (model P w) (cxOf (L2.CX P w) P w K mg base N qual scope f cdv A outer s H E).A (cxOf (L2.CX P w) P w K mg base N qual scope f cdv A outer s H E).env (cxOf (L2.CX P w) P w K mg base N qual scope f cdv A outer s H E).xe :=
  passes_of (X := cxOf (L2.CX P w) P w K mg base N qual scope f cdv A outer s H E) (K := CX P w outer H s E) rfl
end
/-! ### loops by invariants -/
theorem forL_inv {t : Tg} {tb : TS3} {E : Ends3} {gd : Gp → Prop} {xs : List D} (I : Nat → St3 → Gp → Prop)
    (step : ∀ (k : Nat) (x : D) σ G (N : St3 → Gp → Prop), xs[k]? = some x → I k σ G → (∀ σ G, I (k + 1) σ G → N σ G) → gd G ∧ t.b x σ fun σ' => tb { E with nx := N, ct := N, bk := E.nx } σ' G)
    (fin : ∀ σ G, I xs.length σ G → gd G ∧ E.nx σ G) {σ : St3} {G : Gp} (h : I 0 σ G) : forL t tb E gd xs σ G := by
  have key : ∀ (n k : Nat) σ G, n + k = xs.length → I k σ G → forL t tb E gd (xs.drop k) σ G := by
    intro n
    induction n with
    | zero =>
      intro k σ G e h
      have e : k = xs.length := by omega
      subst e
      rw [List.drop_length]
      exact fin σ G h
    | succ n ih =>
      intro k σ G e h
      have lt : k < xs.length := by omega
      rw [List.drop_eq_getElem_cons lt]
      exact step k xs[k] σ G _ (by simp [lt]) h fun σ G h => ih (k + 1) σ G (by omega) h
  simpa using key xs.length 0 σ G (by omega) h
theorem whN_inv {tc : TT3} {tb : TS3} {D : Ends3} (I : Nat → St3 → Gp → Prop)
    (step : ∀ (n : Nat) σ G (N : St3 → Gp → Prop), I n σ G → (∀ m σ G, m < n → I m σ G → N σ G) → tc σ G (fun b G1 => if b = true then tb { D with nx := N, ct := N, bk := D.nx } σ G1 else D.nx σ G1) (fun x G1 => D.ex x σ G1))
    {n : Nat} {σ : St3} {G : Gp} (h : I n σ G) : swhile tc tb D σ G := by
  have key : ∀ (f n : Nat) σ G, n < f → I n σ G → whN tc tb D f σ G := by
    intro f
    induction f with
    | zero => intro n σ G l; omega
    | succ f ih =>
      intro n σ G l h
      exact step n σ G _ h fun m σ G l2 h2 => ih m σ G (by omega) h2
  exact ⟨n + 1, key (n + 1) n σ G (by omega) h⟩
end L3
namespace L3
open PySem PySem.Spec PyProof.Rows L2
open He (ga)
/-! ### for the plain part -/
theorem dn_refl {Q : QK} {d : D} {G : Gp} (h : Q d G) : dn Q d G := ⟨G, Sub.refl, h⟩
theorem ite_b {c : Bool} {A B : Prop} (h1 : c = true → A) (h2 : c = false → B) : if c = true then A else B := by
  cases c with
  | true => exact h1 rfl
  | false => exact h2 rfl
theorem sseq_cut {t u : TS3} {D : Ends3} {σ : St3} {G : Gp} (I : St3 → Gp → Prop) (h1 : ∀ N : St3 → Gp → Prop, (∀ σ G, I σ G → N σ G) → t { D with nx := N } σ G) (h2 : ∀ σ G, I σ G → u D σ G) : sseq t u D σ G := h1 _ h2
theorem sq_ref {G : Gp} {p : Addr} {xs : List D} (h : G p = some (.lst xs)) : sq G (.ref p) = some xs := by
  unfold sq; simp only; rw [h]
theorem lq_ref {G : Gp} {p : Addr} {xs : List D} (h : G p = some (.lst xs)) : lq G (.ref p) = some xs := by
  unfold lq; simp only; rw [h]
theorem mq_ref {G : Gp} {p : Addr} {xs : List D} (h : G p = some (.lst xs)) : mq G (.ref p) = some xs := by
  unfold mq; simp only; rw [h]
theorem isL_ref {G : Gp} {p : Addr} {xs : List D} (h : G p = some (.lst xs)) : isL (.ref p) G := ⟨xs, lq_ref h⟩
theorem ixn_ok {n : Nat} (k : Nat) (h : k < n) : ixN n (k : Int) = some k := by
  unfold ixN; simp; omega
theorem ixi_ok {n : Nat} {i : Int} (h0 : 0 ≤ i) (h : i < n) : ixN n i = some i.toNat := by
  have := ixn_ok (n := n) i.toNat (by omega)
  rwa [Int.toNat_of_nonneg h0] at this
theorem at_ok {α : Type} {xs : List α} {i : Int} (h0 : 0 ≤ i) (h : i < xs.length) : ∃ x, atI xs i = some x ∧ x ∈ xs := by
  refine ⟨xs[i.toNat]'(by omega), ?_, by simp⟩
  unfold atI
  rw [ixi_ok h0 h]
  simp
theorem at_get {α : Type} {xs : List α} {i : Int} {d : α} (h0 : 0 ≤ i) (h : xs[i.toNat]? = some d) : atI xs i = some d := by
  have : i.toNat < xs.length := (List.getElem?_eq_some_iff.mp h).1
  unfold atI
  rw [ixi_ok h0 (by omega)]
  exact h
theorem ne_new {G : Gp} {h p : Addr} {o : GO} (e : G h = some o) (n : G p = none) : p ≠ h := fun z => by rw [z, e] at n; cases n
/-- a known thing: isinstance can be asked -/
def kn (OC : List Str) : D → Bool
  | .ob c _ _ => OC.contains c
  | .ref _ => false
  | .ex _ => false
  | .exf _ _ _ => false
  | _ => true
def isiD (T : Bt) : D → Bool
  | .non => decide (T = .non)
  | .bl _ => decide (T = .bl) || decide (T = .int)
  | .int _ => decide (T = .int)
  | .str _ => decide (T = .str)
  | .tup _ => decide (T = .tup)
  | .fl _ => decide (T = .lst)
  | .sl _ => decide (T = .lst)
  | .emp => decide (T = .dic)
  | _ => false
theorem isi_use {OC : List Str} {T : Bt} {x : D} {G : Gp} {P : Bool → Prop} (k : kn OC x = true) (h : P (isiD T x)) : ∃ t b, tyD G x = some t ∧ isT OC T t = some b ∧ P b := by
  cases x <;> first | (simp [kn] at k; done) | skip
  all_goals first
    | (refine ⟨_, _, rfl, rfl, ?_⟩; cases T <;> exact h)
    | (refine ⟨_, false, rfl, ?_, h⟩; unfold isT; simp only; unfold kn at k; rw [if_pos k])
theorem isa_use {OC : List Str} {Ts : List Bt} {x : D} {G : Gp} {P : Bool → Prop} (k : kn OC x = true) (h : P (Ts.any fun T => isiD T x)) : ∃ t b, tyD G x = some t ∧ isA OC Ts t = some b ∧ P b := by
  cases x <;> first | (simp [kn] at k; done) | skip
  all_goals first
    | (refine ⟨_, _, rfl, rfl, ?_⟩
       have e : ∀ (U : Bt) (f : Bt → Bool), (∀ T, (decide (U = T) || (decide (U = .bl) && decide (T = .int))) = f T) → (Ts.any fun T => decide (U = T) || (decide (U = .bl) && decide (T = .int))) = Ts.any f := fun U f z => congrArg (Ts.any ·) (funext z)
       rw [e _ _ ?_]; exact h; intro T; cases T <;> rfl)
    | (refine ⟨_, false, rfl, ?_, ?_⟩
       · unfold isA; simp only; unfold kn at k; rw [if_pos k]
       · have : ∀ c ns xs, (Ts.any fun T => isiD T (.ob c ns xs)) = false := fun c ns xs => by simp [isiD]
         rw [this] at h; exact h)
theorem iso_use {OC : List Str} {C : Str} {x : D} {G : Gp} {P : Bool → Prop} (k : kn OC x = true) (h : P (match x with | .ob c _ _ => c == C | _ => false)) : ∃ t b, tyD G x = some t ∧ isO OC C t = some b ∧ P b := by
  cases x <;> first | (simp [kn] at k; done) | skip
  all_goals first
    | exact ⟨_, _, rfl, rfl, h⟩
    | (refine ⟨_, _, rfl, ?_, h⟩; unfold isO; simp only; unfold kn at k; rw [if_pos k])
theorem bls_map {α : Type} (xs : List α) (g : α → Bool) : blsD (xs.filterMap fun x => some (D.bl (g x))) = some (xs.map g) := by
  induction xs with
  | nil => rfl
  | cons x xs ih =>
    rw [List.filterMap_cons]
    simp only [blsD, ih, List.map_cons, Option.map_some]
end L3
namespace L3
open PySem PySem.Spec PyProof.Rows L2
open He (ga)
theorem fz_ins {G : Gp} {a : Addr} {c : Str} {fs : List (Str × D)} {Q : QK} (h : G a = some (.ins c fs)) (q : Q (.ob c (fs.map (·.1)) (fs.map (·.2))) (dl G a)) : fz (.ref a) G Q := by
  unfold fz; simp only; rw [h]; exact q
theorem fz_lst {G : Gp} {a : Addr} {xs : List D} {Q : QK} (h : G a = some (.lst xs)) (q : Q (.fl xs) (dl G a)) : fz (.ref a) G Q := by
  unfold fz; simp only; rw [h]; exact q
theorem cutD_len {α : Type} {xs : List α} {lo hi : Option Int} : (L3.cutD xs lo hi).length ≤ xs.length := by
  unfold L3.cutD
  rw [List.length_take, List.length_drop]; omega
theorem cutD_mem {α : Type} {xs : List α} {lo hi : Option Int} {x : α} (h : x ∈ L3.cutD xs lo hi) : x ∈ xs := by
  unfold L3.cutD at h
  exact List.mem_of_mem_drop (List.mem_of_mem_take h)
end L3
namespace L3
open PySem PySem.Spec PyProof.Rows L2
open He (ga)
theorem dvl_ints {K : K3} {G : Gp} {H : Hp} : ∀ ns : List Int, DvL K G H (ns.map D.int) (ns.map V.int)
  | [] => .nil
  | i :: r => .cons (.int i) (dvl_ints r)
/-- THE END of a law -/
theorem walk3 {l : PySem.W.OpenLaw} {n k : Nat} {q : Program} {loose : List Str} {XP : (Str → Option Value) → Heap → Prop} {YP : World → Heap → Prop} {d : DefRec} {x : Str} {sp : Sp3}
    (hn : l.most = some n) (hn2 : n ≤ sizeLine) (hdf : d.params.defaults = []) (hr : Room k callerA)
    (F : ∀ (w : World) (mg : Str → Option Value) (fa : Addr) (h : Heap), YP w h → h.Ns mainGlobals mg → mg d.name = some (.ref fa) →
      ∃ (K : PySem.W.Frag) (fd : FuncData), K.In h ∧ (∀ (s : Shared) (u : Value), BindsTo s fd ⟨[u], []⟩ [(x, u)]) ∧
        ∀ base : Heap, K.In base → base.Ns mainGlobals mg → FnOk l.prog w K mg base (L2.CX l.prog w) k fa fd [x] (liftSp ⟨K, Z0⟩ sp))
    (hsp : ∀ (ns : List Int) (Q : QK) (E : EK), ns.length ≤ n → (∀ G, Q (.bl true) G) → sp [.sl (ns.map D.int)] (fun _ => none) Q E) :
    PySem.W.WalkO q loose XP YP l.row.toRowW d [] (fun f vs => PySem.call f vs) := by
  refine Att.attach_call hn hdf fun w s₀ s₁ mg mb fa o pm cd doc a vs ns G Y ho hd hcd hmg hobj hints hlen hg => ?_
  obtain ⟨K, fd, KX, hb, hF⟩ := F w mg fa _ Y G.T.g hmg
  refine law_call KX G.T.g G.T.b G.T.builtins G.T.nolimit hg hobj hints (Nat.le_trans hlen hn2) hr hF hb (fun H hO hS => ?_) fun H e s' hx => ?_
  · have g0 : GH ⟨K, Z0⟩ (fun _ => none) H := fun a o h => by cases h
    exact ⟨[.sl (ns.map D.int)], fun _ => none, fun d _ => d = .bl true, fun _ _ => False, g0, .cons (.sl (SqF.of g0 hS rfl) (dvl_ints ns)) .nil, hsp ns _ _ hlen fun _ => rfl,
      fun d G' v H' h g r k => by subst h; cases r; rfl, fun _ _ _ _ _ z => z.elim⟩
  · obtain ⟨_, _, _, _, _, _, _, _, _, _, _, _, z⟩ := hx
    exact z
end L3
namespace L3
open PySem PySem.Spec PyProof.Rows L2
open He (ga)
/-! ### {k: v}, a dict that is only asked for its kind -/
def tdic1 (te : TE3) : TE3 := fun σ G Q E => ∀ p, G p = none → te σ (up G p (.dic [])) (fun _ G1 => G1 p = some (.dic []) ∧ Q .emp (dl G1 p)) E
section
variable {X : Cx} {Z : Zx} {W : WX} {e : Expr} {te : TE3} {pos p1 : Pos} {i : Int} {j : Nat}
theorem dic1_ (h : PE3 X Z W e te) : PE3 X Z W (.Dict [some (.Constant (.int i) j p1)] [e] pos) (tdic1 te) := PE.imp (pe_disp (pps_cons (tk := tC (.int i)) pe_int h pps_nil) rfl rfl (by simp) (by show 1 ≤ 15; decide)) fun σ H Q hq => by
  obtain ⟨σ3, G, Q3, E3, g, rs, h, q, x⟩ := hq
  intro p n
  have kp := Keep.newG (G := G) (H := H) (o := .dK []) (u := .dic []) n
  have gp := g.newG (p := p) (o := .dK []) (u := .dic []) n ⟨[], upd_same, .nil⟩
  refine ⟨σ3, up G p (.dic []), _, E3, gp, rs.keep g kp, h p (g.free n), fun d G1 v H1 ⟨e1, h1⟩ g1 r1 k1 => ?_, x.keep kp⟩
  obtain ⟨vs, e2, r2⟩ := g1 p _ e1
  cases r2
  refine ⟨e2, [(Sum.inl i, v)], rfl, by show 1 ≤ 15; decide, ?_⟩
  show Q (.ref p) (upd H1 p (.dK [(Sum.inl i, v)]))
  have g2 : GH (Cxk X Z) (up G1 p (.dic [(Sum.inl i, d)])) (upd H1 p (.dK [(Sum.inl i, v)])) := g1.set e1 ⟨[v], upd_same, .cons (r1.keep g1 (Keep.set e1)) .nil⟩
  have k2 : Keep G1 H1 (up G1 p (.dic [(Sum.inl i, d)])) (upd H1 p (.dK [(Sum.inl i, v)])) := Keep.set e1
  have e3 : dl (up G1 p (.dic [(Sum.inl i, d)])) p = dl G1 p := by
    funext b; unfold dl up; split
    · rfl
    · rfl
  have g3 : GH (Cxk X Z) (dl G1 p) (upd H1 p (.dK [(Sum.inl i, v)])) := by rw [← e3]; exact g2.sub Sub.dl
  have k3 : Keep (up G1 p (.dic [(Sum.inl i, d)])) (upd H1 p (.dK [(Sum.inl i, v)])) (dl G1 p) (upd H1 p (.dK [(Sum.inl i, v)])) := by rw [← e3]; exact Keep.sub Sub.dl
  exact q _ _ _ _ h1 g3 (.emp upd_same dl_same) (((kp.trans k1).trans k2).trans k3)
/-! ### list(range(n)) -/
def tlrg (m : Bool) (ta : TE3) : TE3 := fun σ G Q E => ta σ G (fun x G1 => ∃ n : Int, x = .int n ∧ RgOk 0 n ∧ outL m ((List.range n.toNat).map fun (i : Nat) => D.int i) G1 Q) E
theorem dvl_rg {K : K3} {G : Gp} {H : Hp} (n : Int) : DvL K G H ((List.range n.toNat).map fun (i : Nat) => D.int i) (rgV 0 n) := by
  unfold rgV
  rw [Int.sub_zero]
  have : ∀ l : List Nat, DvL K G H (l.map fun (i : Nat) => D.int i) (l.map fun i => V.int (0 + (i : Nat))) := by
    intro l
    induction l with
    | nil => exact .nil
    | cons a l ih =>
      refine .cons ?_ ih
      show Dv K G H (.int a) (.int (0 + (a : Int)))
      rw [Int.zero_add]
      exact .int _
  exact this _
theorem lrg_ (m : Bool) {a : Expr} {ta : TE3} {p p2 : Pos} (hc : X.calm = true) (hl : X.mg "list" = none) (hr : X.mg "range" = none) (ha : PE3 X Z W a ta) (hg : Gl X "list" := by rfl) (hg2 : Gl X "range" := by rfl)
    (na : starEach [.Call (.Name "range" p2) [a] [] p1] X.env = (false, eval (.Call (.Name "range" p2) [a] [] p1) X.env) :: starEach [] X.env := by rfl) (na2 : starEach [a] X.env = (false, eval a X.env) :: starEach [] X.env := by rfl) :
    PE3 X Z W (.Call (.Name "list" p) [.Call (.Name "range" p2) [a] [] p1] [] pos) (tlrg m ta) := PE.imp (pe_listRg hc hg hl (prg_1 hg2 hr ha na2) na) fun σ H Q hq => by
  obtain ⟨σ3, G, Q3, E3, g, rs, h, q, x⟩ := hq
  refine ⟨σ3, G, _, E3, g, rs, h, fun d G1 v H1 ⟨n, e1, ok, h1⟩ g1 r1 k1 => ?_, x⟩
  subst e1
  cases r1
  exact ⟨n, rfl, ok, fun p np => outL_ok m g1 (dvl_rg n) (q.keep k1) h1 np⟩
end
/-! ### a[i], b[j] = e -/
def sswp (o1 i1 o2 i2 te : TE3) (t u : QS) : TS3 := fun E σ G => te σ G (fun x G1 => ∃ d1 d2, x = .tup [d1, d2] ∧
  o1 σ G1 (fun o G2 => i1 σ G2 (fun i G3 => t o i d1 G3 fun G4 => o2 σ G4 (fun o G5 => i2 σ G5 (fun i G6 => u o i d2 G6 fun G7 => E.nx σ G7) (fun x G1 => E.ex x σ G1)) (fun x G1 => E.ex x σ G1)) (fun x G1 => E.ex x σ G1)) (fun x G1 => E.ex x σ G1)) (fun x G1 => E.ex x σ G1)
section
variable {X : Cx} {Z : Zx} {W : WX} {a1 b1 a2 b2 e : Expr} {o1 i1 o2 i2 te : TE3} {t u : QS} {pt1 pt2 pt pos : Pos} {k : Nat}
theorem swp_ (hc : X.calm = true) (hs : PSet3 X Z t) (hs2 : PSet3 X Z u) (ho : PE3 X Z W a1 o1) (hi : PE3 X Z W b1 i1) (ho2 : PE3 X Z W a2 o2) (hi2 : PE3 X Z W b2 i2) (he : PE3 X Z W e te)
    (ha : ∀ v, assign (.Subscript a1 b1 pt1) X.env v = (do
      let ov ← holding [v] (eval a1 X.env)
      let iv ← holding [v, ov] (eval b1 X.env)
      standAt pt1
      holding [v, ov, iv] (setItem ov iv v)
      release [v, ov, iv] []) := by intro _; rfl)
    (ha2 : ∀ v, assign (.Subscript a2 b2 pt2) X.env v = (do
      let ov ← holding [v] (eval a2 X.env)
      let iv ← holding [v, ov] (eval b2 X.env)
      standAt pt2
      holding [v, ov, iv] (setItem ov iv v)
      release [v, ov, iv] []) := by intro _; rfl)
    (hsw : swapsWithSole [.Tuple [.Subscript a1 b1 pt1, .Subscript a2 b2 pt2] k pt] e pos.line X.env = pure false := by rfl) (hw : swappedStores [.Tuple [.Subscript a1 b1 pt1, .Subscript a2 b2 pt2] k pt] e X.env = pure none := by rfl)
    (h1 : (assignEach [.Tuple [.Subscript a1 b1 pt1, .Subscript a2 b2 pt2] k pt] X.env).map (·.2) = [assign (.Tuple [.Subscript a1 b1 pt1, .Subscript a2 b2 pt2] k pt) X.env] := by rfl)
    (hn : (assignEach [.Subscript a1 b1 pt1, .Subscript a2 b2 pt2] X.env).length = 2 := by rfl) (hst : (assignEach [.Subscript a1 b1 pt1, .Subscript a2 b2 pt2] X.env).findIdx? (·.1) = none := by rfl)
    (hs3 : (assignEach [.Subscript a1 b1 pt1, .Subscript a2 b2 pt2] X.env).map (·.2) = assign (.Subscript a1 b1 pt1) X.env :: (assignEach [.Subscript a2 b2 pt2] X.env).map (·.2) := by rfl)
    (hs4 : (assignEach [.Subscript a2 b2 pt2] X.env).map (·.2) = assign (.Subscript a2 b2 pt2) X.env :: (assignEach [] X.env).map (·.2) := by rfl) :
    PS3 X Z W (.Assign [.Tuple [.Subscript a1 b1 pt1, .Subscript a2 b2 pt2] k pt] e pos) (sswp o1 i1 o2 i2 te t u) := by
  obtain ⟨r, hs, kk⟩ := hs
  obtain ⟨r2, hs2, kk2⟩ := hs2
  refine PS.imp (ps_asg he (pg_tup (n := 2) hc (pgs_cons (pg_sub ho hi hs ha) (pgs_cons (pg_sub ho2 hi2 hs2 ha2) pgs_nil hs4) hs3) hn hst) hsw hw h1) fun D σ H h => ?_
  obtain ⟨σ3, G, D3, g, rs, h, d⟩ := h
  refine ⟨σ3, G, _, _, g, rs, h, fun x G1 v H1 ⟨d1, d2, ex, h1⟩ g1 rx k1 => ?_, d.exk g rs⟩
  subst ex
  cases rx with
  | tup s r =>
  cases r with
  | cons r1 r =>
  cases r with
  | cons r2' r =>
  cases r
  rename_i a v1 v2
  refine ⟨a, [v1, v2], rfl, s, rfl, v1, [v2], rfl, ?_⟩
  have rsA := rs.keep g k1
  have dA := d.keep k1
  refine ⟨σ3, G1, _, _, g1, rsA, h1, fun o G2 ov H2 h2 g2 ro k2 => ?_, dA.exk g1 rsA⟩
  have rsB := rsA.keep g1 k2
  have dB := dA.keep k2
  refine ⟨σ3, G2, _, _, g2, rsB, h2, fun i G3 iv H3 h3 g3 ri k3 => ?_, dB.exk g2 rsB⟩
  have rsC := rsB.keep g2 k3
  have dC := dB.keep k3
  have kC := (k1.trans k2).trans k3
  refine kk G3 H3 o i d1 ov iv v1 _ _ g3 (ro.keep g2 k3) ri ((r1.keep g1 k2).keep g2 k3) h3 fun G4 H4 h4 g4 k4 => ?_
  have rsD := rsC.keep g3 k4
  have dD := dC.keep k4
  refine ⟨v2, [], rfl, σ3, G4, _, _, g4, rsD, h4, fun o' G5 ov' H5 h5 g5 ro' k5 => ?_, dD.exk g4 rsD⟩
  have rsE := rsD.keep g4 k5
  have dE := dD.keep k5
  refine ⟨σ3, G5, _, _, g5, rsE, h5, fun i' G6 iv' H6 h6 g6 ri' k6 => ?_, dE.exk g5 rsE⟩
  have rsF := rsE.keep g5 k6
  have dF := dE.keep k6
  refine kk2 G6 H6 o' i' d2 ov' iv' v2 _ _ g6 (ro'.keep g5 k6) ri' (((((r2'.keep g1 k2).keep g2 k3).keep g3 k4).keep g4 k5).keep g5 k6) h6 fun G7 H7 h7 g7 k7 => ?_
  exact ⟨rfl, (dF.keep k7).nx _ _ _ _ h7 g7 (rsF.keep g6 k7) Keep.refl⟩
end
end L3
namespace L3
open PySem PySem.Spec PyProof.Rows L2
open He (ga)
/-- a comprehension whose turns change G -/
theorem lc_inv {t : Tg} {tt : TT3} {te : TE3} {gd : Gp → Prop} {σ : St3} {Q : QK} {G : Gp} {xs : List D} (I : Nat → List D → Gp → Prop) (l : xs.length ≤ sizeLine)
    (step : ∀ (k : Nat) (x : D) (acc : List D) (G : Gp) (p : Addr) (N : D → Gp → Prop) (N' : Gp → Prop), xs[k]? = some x → G p = none → I k acc G → (∀ d G3, G3 p = none → I (k + 1) (acc ++ [d]) G3 → N d (up G3 p (.lst acc))) → (∀ G3, G3 p = none → I (k + 1) acc G3 → N' (up G3 p (.lst acc))) →
      gd (up G p (.lst acc)) ∧ t.b x σ fun σ' => tt σ' (up G p (.lst acc)) (fun b G1 => if b = true then te σ' G1 N (fun _ _ => False) else N' G1) (fun _ _ => False))
    (fin : ∀ acc G p, G p = none → I xs.length acc G → gd (up G p (.lst acc)) ∧ Q (.fl acc) G) (h : I 0 [] G) : ∀ p, G p = none → lcL t tt te gd σ p (lcEnd false p Q) xs (up G p (.lst [])) := by
  intro p np
  have key : ∀ (n k : Nat) (acc : List D) (G : Gp), n + k = xs.length → acc.length ≤ k → G p = none → I k acc G → lcL t tt te gd σ p (lcEnd false p Q) (xs.drop k) (up G p (.lst acc)) := by
    intro n
    induction n with
    | zero =>
      intro k acc G e ha np h
      have e : k = xs.length := by omega
      subst e
      rw [List.drop_length]
      obtain ⟨h1, h2⟩ := fin acc G p np h
      exact ⟨h1, acc, up_same, by rw [dl_up np]; exact h2⟩
    | succ n ih =>
      intro k acc G e ha np h
      have lt : k < xs.length := by omega
      rw [List.drop_eq_getElem_cons lt]
      refine step k xs[k] acc G p _ _ (by simp [lt]) np h (fun d G3 n3 h3 => ⟨acc, up_same, by omega, ?_⟩) fun G3 n3 h3 => ?_
      · rw [up_up]
        exact ih (k + 1) (acc ++ [d]) G3 (by omega) (by simp; omega) n3 h3
      · exact ih (k + 1) acc G3 (by omega) (by omega) n3 h3
  simpa using key xs.length 0 [] G (by omega) (by simp) np h
end L3
namespace L3
open PySem PySem.Spec PyProof.Rows L2
open He (ga)
/-! ### try with clauses, some with a name -/
abbrev HL := List (Value × Option Nat × (Addr → Value → Option Addr → TS))
def endAs (D : Ends) (i : Nat) : Ends := { nx := fun σ' H' => D.nx (σ'.set i none) H', rt := D.rt, bk := fun σ' H' => D.bk (σ'.set i none) H', ct := fun σ' H' => D.ct (σ'.set i none) H' }
def endOf (D : Ends) : Option Nat → Ends
  | none => D
  | some i => endAs D i
def slotOf (σ : St) (a : Addr) : Option Nat → St
  | none => σ
  | some i => σ.set i (some (.ref a))
def wG (K : PySem.W.Frag) (Wout : WX) (D : Ends) : HL → WX
  | [] => Wout
  | (c, oi, ts) :: r => fun cls d σ H => ∃ b, PySem.W.exmOne K cls c = some b ∧ (b = true → ∀ a, H a = none → ts a cls d (endOf D oi) (slotOf σ a oi) H) ∧ (b = false → wG K Wout D r cls d σ H)
inductive HdsG (X : Cx) : List ExceptHandler → HL → Prop
  | nil : HdsG X [] []
  | cons {x : Str} {c : Value} {ts : Addr → Value → Option Addr → TS} {b₀ : Stmt} {suite : List Stmt} {np pos' : Pos} {hds : List ExceptHandler} {l : HL} (hc : Names X x c)
      (hsu : ∀ (a : Addr) (oe : Obj) (cls : Value) (d : Option Addr) (pn : List (Addr × Obj)), Zc cls d oe → (∃ vs, oe.data = .fields vs) → PSs (X.suite a ((a, oe) :: pn)) (b₀ :: suite) (ts a cls d)) (r : HdsG X hds l) :
      HdsG X (.ExceptHandler (some (.Name x np)) none (b₀ :: suite) pos' :: hds) ((c, none, ts) :: l)
  | consA {x n : Str} {i : Nat} {c : Value} {ts : Addr → Value → Option Addr → TS} {b₀ : Stmt} {suite : List Stmt} {np pos' : Pos} {hds : List ExceptHandler} {l : HL} (hc : Names X x c) (hi : X.N[i]? = some n) (hln : X.env.kindOf n = some .local)
      (hsu : ∀ (a : Addr) (oe : Obj) (cls : Value) (d : Option Addr) (pn : List (Addr × Obj)), Zc cls d oe → (∃ vs, oe.data = .fields vs) → PSs (X.suite a ((a, oe) :: pn)) (b₀ :: suite) (ts a cls d)) (r : HdsG X hds l) :
      HdsG X (.ExceptHandler (some (.Name x np)) (some n) (b₀ :: suite) pos' :: hds) ((c, some i, ts) :: l)
section
variable {X : Cx} {body : List Stmt} {h₀ : ExceptHandler} {hds : List ExceptHandler} {l : HL} {pos : Pos} {tb : WX → TS} {Wout : WX}
theorem ps_try_g (hs : X.stack = X.env :: X.outer) (hf : X.env.frame = some X.env.locals) (hN : X.N.Nodup) (tk : Takes X Wout)
    (hb : ∀ (W : WX) (pn : List (Addr × Obj)) (xe : Value → Shared → Prop), Takes (X.tr pn xe) W → PassesOwn (model X.prog X.w) X.A X.env xe → PSs (X.tr pn xe) body (tb W))
    (hh : HdsG X (h₀ :: hds) l) : PS X (.Try body (h₀ :: hds) [] [] pos) (fun D σ H => tb (wG X.K Wout D l) D σ H) := by
  refine ⟨fun pins s σ H D I h => ?_⟩
  have ok := I.ok
  have hfr : X.A.frames = some (X.env :: X.outer) := by rw [ok.frames, hs]
  refine wpAny_Try_except ?_
  refine wpAny_mono ((hb (wG X.K Wout D l) (X.pn ++ pins) (fun e s₁ => wpAny (model X.prog X.w) X.A (noteFrame e X.env) (fun _ s₂ => wpAny (model X.prog X.w) X.A (setFlight e none) (fun _ s₃ =>
    wpAny (model X.prog X.w) X.A (handleBy e X.env (h₀ :: hds)) (SP X pins D) X.xe s₃) X.xe s₂) X.xe s₁) (fun u s' xx => ?_) PassesOwn.looking).run [] s σ H D (I.toTry _) h) (fun f s1 hsp => ?_) (fun e s1 he => he)
  · obtain ⟨a, B, sI, pins', σ', H', cls, d, rfl, J', nb, up, sky, na, os, ag, w⟩ := xx
    have J : Inv X pins σ' H' sI := J'.ofTry ok
    have sky' : Sky B (X.env :: X.outer) a (Zc cls d) X.env.locals s'.heap := by rw [← hs]; exact sky
    show wpAny (model X.prog X.w) X.A (noteFrame (.ref a) X.env) _ _ _
    refine Sky.land Zc.steady hfr hf sky' fun h3 fl3 up3 => ?_
    have J3 : Inv X pins σ' H' { s' with heap := h3 } := J.landed nb fl3.1 (up.trans up3) os ag
    obtain ⟨oe3, vs3, he3, hz3, hd3⟩ := fl3.there
    have notFr : ∀ {h : Heap} {o : Obj} {vs : Array Value}, h.FunFrames B (X.env :: X.outer) → h.get? a = some o → o.data = .fields vs → a ∉ frs (X.env :: X.outer) := fun {h o vs} ff e dd hm => by
      obtain ⟨_, o', e', hnf⟩ := ff.mem hm
      rw [e] at e'; cases e'
      exact hnf _ dd
    have nfr := notFr fl3.2.2.1 he3 hd3
    have nL : a ≠ X.env.locals := fun z => nfr (List.mem_filterMap.mpr ⟨X.env, List.mem_cons_self, by rw [hf, z]⟩)
    have nF : a ∉ X.fs := fun hm => by
      obtain ⟨e, he, q⟩ := List.mem_filterMap.mp hm
      exact nfr (List.mem_filterMap.mpr ⟨e, List.mem_cons_of_mem _ he, q⟩)
    have S3 := J3.suite he3 hd3 na nL nF
    have LT : PySem.W.Looks (model X.prog X.w) h3 (typeOf (.ref a)) cls := fun A Q E s k q => wpAny_typeOf_ref (k _ _ he3) (by rw [hz3.1]; exact q)
    have test : ∀ {x : Str} {c : Value} {np : Pos} {Q : Value → Shared → Prop} {E : Value → Shared → Prop}, Names X x c → Q c { s' with heap := h3 } → wpAny (model X.prog X.w) (X.A.mark (some (.ref a))) (eval (.Name x np) X.env) Q E { s' with heap := h3 } := fun {x c np Q E} hc q => by
      obtain ⟨hg, hdbg, hm | ⟨hm, hv, hnn⟩⟩ := hc
      · exact ld_glob (X := X.suite a ((a, oe3) :: (X.pn ++ pins))) S3 hg hm q hdbg
      · exact ld_blt (X := X.suite a ((a, oe3) :: (X.pn ++ pins))) S3 hg hm hv q hnn hdbg
    have go : ∀ {hds' : List ExceptHandler} {l' : HL}, HdsG X hds' l' → wG X.K Wout D l' cls d σ' H' →
        wpAny (model X.prog X.w) X.A (handleBy (.ref a) X.env hds') (SP X pins D) X.xe { s' with heap := h3 } := by
      intro hds' l' hk
      induction hk with
      | nil =>
        intro w
        refine wpAny_handleBy_nil ?_
        obtain ⟨k1, k2, k3, oe, vs, T, oT, ts', he, hz, hd, h1, hr⟩ := id fl3
        unfold PySem.passOn
        refine wpAny_bind (wpAny_field he hd h1 ?_)
        rw [if_neg (show ¬ ((Value.ref T == Value.none) = true) from by simp)]
        have fin : wpAny (model X.prog X.w) X.A (setFlight (.ref a) X.env.frame) (fun _ s4 => wpAny (model X.prog X.w) X.A (throw (.ref a) : Sem Flow) (SP X pins D) X.xe s4) X.xe { s' with heap := h3 } := by
          rw [hf]
          refine HandSPX.setFlight_upZ fl3 fun h4 hh4 up4 => wpAny_throw (tk _ _ ?_)
          exact ⟨a, B, sI, pins, σ', H', cls, d, rfl, J, nb, (up.trans up3).trans up4, .inr (.inr (by rw [hs]; exact hh4)), na, os, ag, w⟩
        first
          | exact wpAny_bind (wpAny_pure (wpAny_bind fin))
          | exact wpAny_bind fin
      | @cons x c ts b₀ suite np pos' hds2 l2 hc hsu r ih =>
        intro w
        obtain ⟨b, hb1, hyes, hno⟩ := w
        refine wpAny_handleBy_cons (codeAny_handlers_test ?_) (by intro q; cases q)
        have LM := PySem.W.exm_one (M := model X.prog X.w) (J3.kIn) LT hb1
        refine test hc (LM.here ?_)
        cases b with
        | true =>
          refine codeAny_handlers_suite ?_
          refine HandSPX.lands_againZ fl3 fun h4 fl4 up4 => ?_
          have J4 : Inv X pins σ' H' { s' with heap := h4 } := J.landed nb fl4.1 ((up.trans up3).trans up4) os ag
          obtain ⟨oe4, vs4, he4, hz4, hd4⟩ := fl4.there
          have S4 := J4.suite he4 hd4 na nL nF
          refine wpAny_mono ((hsu a oe4 cls d (X.pn ++ pins) hz4 ⟨_, hd4⟩).run [] _ _ H' _ S4 (hyes rfl a na)) (fun f s6 hsp => ?_) (fun _ _ z => False.elim z)
          cases f with
          | next =>
            obtain ⟨σ6, H6, S6, q6⟩ := hsp
            exact ⟨_, _, S6.unsuite ok, q6⟩
          | brk =>
            obtain ⟨σ6, H6, S6, q6⟩ := hsp
            exact ⟨_, _, S6.unsuite ok, q6⟩
          | cont =>
            obtain ⟨σ6, H6, S6, q6⟩ := hsp
            exact ⟨_, _, S6.unsuite ok, q6⟩
          | ret u =>
            obtain ⟨v6, σ6, H6, S6, r6, q6⟩ := hsp
            exact ⟨_, _, _, S6.unsuite ok, r6, q6⟩
        | false =>
          show wpAny _ X.A (handleBy (.ref a) X.env hds2) _ _ _
          exact ih (hno rfl)
      | @consA x n i c ts b₀ suite np pos' hds2 l2 hc hi hln hsu r ih =>
        intro w
        obtain ⟨b, hb1, hyes, hno⟩ := w
        have hloc : Loc X.env.scope n := .inl hln
        refine wpAny_handleBy_cons (codeAny_handlers_test ?_) (by intro q; cases q)
        have LM := PySem.W.exm_one (M := model X.prog X.w) (J3.kIn) LT hb1
        refine test hc (LM.here ?_)
        cases b with
        | true =>
          refine codeAny_handlers_suite_as ?_
          refine HandSPX.lands_againZ fl3 fun h4 fl4 up4 => ?_
          have J4 : Inv X pins σ' H' { s' with heap := h4 } := J.landed nb fl4.1 ((up.trans up3).trans up4) os ag
          obtain ⟨oe4, vs4, he4, hz4, hd4⟩ := fl4.there
          have S4 := J4.suite he4 hd4 na nL nF
          refine store_ok (X := X.suite a ((a, oe4) :: (X.pn ++ pins))) (v := .ref a) S4 hN hi hloc rfl (fun s5 S5 => ?_) (.inr hln)
          refine wpAny_mono ((hsu a oe4 cls d (X.pn ++ pins) hz4 ⟨_, hd4⟩).run [] s5 _ H' _ S5 (hyes rfl a na)) (fun f s6 hsp => ?_) (fun _ _ z => False.elim z)
          have end_ : ∀ {σ6 : St} {H6 : Hp} {Q : Shared → Prop}, Inv (X.suite a ((a, oe4) :: (X.pn ++ pins))) [] σ6 H6 s6 → (∀ s7, Inv X pins (σ6.set i none) H6 s7 → Q s7) →
              wpAny (model X.prog X.w) X.A (do bindName X.env n .none; unbindBehindTheSuite X.env n pos') (fun _ s7 => Q s7) X.xe s6 := fun {σ6 H6 Q} S6 hq => gone_ok (S6.unsuite ok) hN hi hln hq
          cases f with
          | next =>
            obtain ⟨σ6, H6, S6, q6⟩ := hsp
            exact end_ S6 fun s7 J7 => ⟨_, _, J7, q6⟩
          | brk =>
            obtain ⟨σ6, H6, S6, q6⟩ := hsp
            exact end_ S6 fun s7 J7 => ⟨_, _, J7, q6⟩
          | cont =>
            obtain ⟨σ6, H6, S6, q6⟩ := hsp
            exact end_ S6 fun s7 J7 => ⟨_, _, J7, q6⟩
          | ret u =>
            obtain ⟨v6, σ6, H6, S6, r6, q6⟩ := hsp
            exact end_ S6 fun s7 J7 => ⟨_, _, _, J7, r6, q6⟩
        | false =>
          show wpAny _ X.A (handleBy (.ref a) X.env hds2) _ _ _
          exact ih (hno rfl)
    exact go hh w
  · cases f with
    | next =>
      obtain ⟨σ', H', J', q⟩ := hsp
      exact wpAny_execs_nil ⟨σ', H', J'.ofTry ok, q⟩
    | brk =>
      obtain ⟨σ', H', J', q⟩ := hsp
      exact ⟨σ', H', J'.ofTry ok, q⟩
    | cont =>
      obtain ⟨σ', H', J', q⟩ := hsp
      exact ⟨σ', H', J'.ofTry ok, q⟩
    | ret u =>
      obtain ⟨v, σ', H', J', r, q⟩ := hsp
      exact ⟨v, σ', H', J'.ofTry ok, r, q⟩
end
/-! ### values without the held exception -/
mutual
def xf : D → Bool
  | .ex _ => false
  | .exf _ _ _ => false
  | .tup xs => xfL xs
  | .fl xs => xfL xs
  | .sl xs => xfL xs
  | .ob _ _ xs => xfL xs
  | _ => true
def xfL : List D → Bool
  | [] => true
  | x :: xs => xf x && xfL xs
end
def xfO : GO → Bool
  | .lst xs => xfL xs
  | .dic kvs => xfL (kvs.map (·.2))
  | .ins _ fs => xfL (fs.map (·.2))
def GX (G : Gp) : Prop := ∀ a o, G a = some o → xfO o = true
def SX (σ : St3) : Prop := ∀ d, some d ∈ σ → xf d = true
section
variable {K : PySem.W.Frag} {Z Z' : Zx} {G : Gp} {H : Hp}
mutual
theorem Dv.toZ : ∀ {d : D} {v : V}, xf d = true → Dv ⟨K, Z⟩ G H d v → Dv ⟨K, Z'⟩ G H d v
  | _, _, _, .non => .non
  | _, _, _, .bl b => .bl b
  | _, _, _, .int b => .int b
  | _, _, _, .str b => .str b
  | _, _, h, .tup s r => .tup s (DvL.toZ (by simpa [xf] using h) r)
  | _, _, h, .fl s n r => .fl s n (DvL.toZ (by simpa [xf] using h) r)
  | _, _, h, .sl s r => .sl s (DvL.toZ (by simpa [xf] using h) r)
  | _, _, h, .ob s l n r => .ob s l n (DvL.toZ (by simpa [xf] using h) r)
  | _, _, _, .emp s n => .emp s n
  | _, _, _, .ref a => .ref a
  | _, _, h, .ex _ => by simp [xf] at h
  | _, _, h, .exf _ _ _ _ => by simp [xf] at h
theorem DvL.toZ : ∀ {d : List D} {v : List V}, xfL d = true → DvL ⟨K, Z⟩ G H d v → DvL ⟨K, Z'⟩ G H d v
  | _, _, _, .nil => .nil
  | _, _, h, .cons r t => .cons (Dv.toZ (by simp [xfL] at h; exact h.1) r) (DvL.toZ (by simp [xfL] at h; exact h.2) t)
end
mutual
theorem Dv.xf0 : ∀ {d : D} {v : V}, Dv ⟨K, Z0⟩ G H d v → xf d = true
  | _, _, .non => rfl
  | _, _, .bl b => rfl
  | _, _, .int b => rfl
  | _, _, .str b => rfl
  | _, _, .tup s r => by simpa [xf] using DvL.xf0 r
  | _, _, .fl s n r => by simpa [xf] using DvL.xf0 r
  | _, _, .sl s r => by simpa [xf] using DvL.xf0 r
  | _, _, .ob s l n r => by simpa [xf] using DvL.xf0 r
  | _, _, .emp s n => rfl
  | _, _, .ref a => rfl
  | _, _, .ex h => by cases h
  | _, _, .exf h _ _ _ => by cases h
theorem DvL.xf0 : ∀ {d : List D} {v : List V}, DvL ⟨K, Z0⟩ G H d v → xfL d = true
  | _, _, .nil => rfl
  | _, _, .cons r t => by simp [xfL, Dv.xf0 r, DvL.xf0 t]
end
theorem GH.toZ (x : GX G) (g : GH ⟨K, Z⟩ G H) : GH ⟨K, Z'⟩ G H := fun a o e => by
  have q := g a o e
  have xo := x a o e
  cases o with
  | lst xs => obtain ⟨vs, h, r⟩ := q; exact ⟨vs, h, r.toZ xo⟩
  | dic kvs => obtain ⟨vs, h, r⟩ := q; exact ⟨vs, h, r.toZ xo⟩
  | ins c fs => obtain ⟨dx, vs, h, r⟩ := q; exact ⟨dx, vs, h, r.toZ xo⟩
theorem GH.gx (g : GH ⟨K, Z0⟩ G H) : GX G := fun a o e => by
  have q := g a o e
  cases o with
  | lst xs => obtain ⟨vs, h, r⟩ := q; exact r.xf0
  | dic kvs => obtain ⟨vs, h, r⟩ := q; exact r.xf0
  | ins c fs => obtain ⟨dx, vs, h, r⟩ := q; exact r.xf0
theorem Rs.toZ {σ3 : St3} {σ : St} (x : SX σ3) (r : Rs ⟨K, Z⟩ G H σ3 σ) : Rs ⟨K, Z'⟩ G H σ3 σ := ⟨r.1, fun i d e => by
  obtain ⟨v, h1, h2⟩ := r.2 i d e
  exact ⟨v, h1, h2.toZ (x d (List.mem_of_getElem? e))⟩⟩
theorem Rs.sx {σ3 : St3} {σ : St} (r : Rs ⟨K, Z0⟩ G H σ3 σ) : SX σ3 := fun d m => by
  obtain ⟨i, e⟩ := List.mem_iff_getElem?.mp m
  obtain ⟨v, _, h⟩ := r.2 i d e
  exact h.xf0
end
/-! ### try, lifted -/
def exD (x : X3) : D := match x.f with
  | none => .ex x.c
  | some (f, y) => .exf x.c f y
def setO (σ : St3) (d : Option D) : Option Nat → St3
  | none => σ
  | some i => σ.set i d
/-- how a suite ends -/
def suEnd (D : Ends3) (oi : Option Nat) : Ends3 where
  nx := fun σ G => GX G ∧ SX (setO σ none oi) ∧ D.nx (setO σ none oi) G
  rt := fun d G => GX G ∧ xf d = true ∧ D.rt d G
  bk := fun σ G => GX G ∧ SX (setO σ none oi) ∧ D.bk (setO σ none oi) G
  ct := fun σ G => GX G ∧ SX (setO σ none oi) ∧ D.ct (setO σ none oi) G
structure Hd3 where
  h : Str
  oi : Option Nat
  ts : X3 → TS3
/-- exm c h: does the clause for h take an exception of the class c -/
def shand (exm : Str → Str → Option Bool) (D : Ends3) : List Hd3 → X3 → St3 → Gp → Prop
  | [], x, σ, G => D.ex x σ G
  | k :: r, x, σ, G => ∃ b, exm x.c k.h = some b ∧ if b = true then GX G → SX σ → k.ts x (suEnd D k.oi) (setO σ (some (exD x)) k.oi) G else shand exm D r x σ G
def stry (exm : Str → Str → Option Bool) (tb : TS3) (ks : List Hd3) : TS3 := fun D σ G => tb { D with ex := shand exm D ks } σ G
def ExmF (K : PySem.W.Frag) (exm : Str → Str → Option Bool) : Prop := ∀ c h b, exm c h = some b → PySem.W.exmOne K (.ref (ga K c)) (.ref (ga K h)) = some b
/-- the clauses are walked -/
inductive Hds3 (X : Cx) : List ExceptHandler → List Hd3 → Prop
  | nil : Hds3 X [] []
  | cons {x : Str} {ts : X3 → TS3} {b₀ : Stmt} {suite : List Stmt} {np pos' : Pos} {hds : List ExceptHandler} {l : List Hd3} (hc : Names X x (.ref (ga X.K x)))
      (hsu : ∀ (a : Addr) (oe : Obj) (d : Option Addr) (pn : List (Addr × Obj)) (e : X3), Zc (.ref (ga X.K e.c)) d oe → (∃ vs, oe.data = .fields vs) → PSs3 (X.suite a ((a, oe) :: pn)) ⟨a, .ref (ga X.K e.c), d⟩ W0 (b₀ :: suite) (ts e)) (r : Hds3 X hds l) :
      Hds3 X (.ExceptHandler (some (.Name x np)) none (b₀ :: suite) pos' :: hds) (⟨x, none, ts⟩ :: l)
  | consA {x n : Str} (i : Nat) {ts : X3 → TS3} {b₀ : Stmt} {suite : List Stmt} {np pos' : Pos} {hds : List ExceptHandler} {l : List Hd3} (hc : Names X x (.ref (ga X.K x))) (hi : X.N[i]? = some n) (hln : X.env.kindOf n = some .local)
      (hsu : ∀ (a : Addr) (oe : Obj) (d : Option Addr) (pn : List (Addr × Obj)) (e : X3), Zc (.ref (ga X.K e.c)) d oe → (∃ vs, oe.data = .fields vs) → PSs3 (X.suite a ((a, oe) :: pn)) ⟨a, .ref (ga X.K e.c), d⟩ W0 (b₀ :: suite) (ts e)) (r : Hds3 X hds l) :
      Hds3 X (.ExceptHandler (some (.Name x np)) (some n) (b₀ :: suite) pos' :: hds) (⟨x, some i, ts⟩ :: l)
/-- a suite's reading: whatever exception of whatever class -/
def suL2 (K : PySem.W.Frag) (ts : X3 → TS3) : Addr → Value → Option Addr → TS := fun a cls d D σ H => ∃ e : X3, cls = .ref (ga K e.c) ∧ liftS ⟨K, ⟨a, cls, d⟩⟩ W0 (ts e) D σ H
def hl2 (K : PySem.W.Frag) : List Hd3 → HL
  | [] => []
  | k :: r => (.ref (ga K k.h), k.oi, suL2 K k.ts) :: hl2 K r
section
variable {X : Cx}
theorem su_run {ts : X3 → TS3} {body : List Stmt} {a : Addr} {oe : Obj} {cls : Value} {d : Option Addr} {pn : List (Addr × Obj)} (hz : Zc cls d oe) (hf : ∃ vs, oe.data = .fields vs)
    (hsu : ∀ (a : Addr) (oe : Obj) (d : Option Addr) (pn : List (Addr × Obj)) (e : X3), Zc (.ref (ga X.K e.c)) d oe → (∃ vs, oe.data = .fields vs) → PSs3 (X.suite a ((a, oe) :: pn)) ⟨a, .ref (ga X.K e.c), d⟩ W0 body (ts e)) :
    PSs (X.suite a ((a, oe) :: pn)) body (suL2 X.K ts a cls d) := ⟨fun pins s σ H D I h => by
  obtain ⟨e, rfl, h⟩ := h
  exact (hsu a oe d pn e hz hf).run pins s σ H D I h⟩
theorem hds_of : ∀ {hds : List ExceptHandler} {ks : List Hd3}, Hds3 X hds ks → HdsG X hds (hl2 X.K ks)
  | _, _, .nil => .nil
  | _, _, .cons hc hsu r => .cons hc (fun _ _ _ _ _ hz hf => su_run hz hf hsu) (hds_of r)
  | _, _, .consA i hc hi hln hsu r => .consA hc hi hln (fun _ _ _ _ _ hz hf => su_run hz hf hsu) (hds_of r)
theorem exD_dv {K : PySem.W.Frag} {G : Gp} {H : Hp} {x : X3} {c : Value} {d : Option Addr} {a : Addr} (h : Xv ⟨K, Z0⟩ G H x c d) : Dv ⟨K, ⟨a, c, d⟩⟩ G H (exD x) (.ref a) := by
  obtain ⟨h1, h2⟩ := h
  unfold exD
  cases e : x.f with
  | none => exact .ex (K := ⟨K, ⟨a, c, d⟩⟩) h1
  | some p =>
    obtain ⟨f, y⟩ := p
    rw [e] at h2
    obtain ⟨b, v, e1, e2, r⟩ := h2
    exact .exf (K := ⟨K, ⟨a, c, d⟩⟩) h1 e1 e2 (r.toZ r.xf0)
theorem try_ {exm : Str → Str → Option Bool} {Wout : WX} {body : List Stmt} {h₀ : ExceptHandler} {hds : List ExceptHandler} {ks : List Hd3} {pos : Pos} {tb : TS3} (hs : X.stack = X.env :: X.outer) (hf : X.env.frame = some X.env.locals) (hN : X.N.Nodup) (tk : Takes X Wout) (em : ExmF X.K exm)
    (hb : ∀ (W : WX) (pn : List (Addr × Obj)) (xe : Value → Shared → Prop), Takes (X.tr pn xe) W → PassesOwn (model X.prog X.w) X.A X.env xe → PSs3 (X.tr pn xe) Z0 W body tb)
    (hh : Hds3 X (h₀ :: hds) ks) : PS3 X Z0 Wout (.Try body (h₀ :: hds) [] [] pos) (stry exm tb ks) := by
  refine PS.imp (ps_try_g (tb := fun W => liftS (Cxk X Z0) W tb) hs hf hN tk hb (hds_of hh)) fun D σ H h => ?_
  obtain ⟨σ3, G, D3, g, rs, h, d⟩ := h
  refine ⟨σ3, G, _, g, rs, h, ⟨d.nx, d.rt, d.bk, d.ct, fun x σ4 G1 c dd τ H1 h1 g1 r1 xv k1 => ?_⟩⟩
  clear h
  have key : ∀ ks : List Hd3, shand exm D3 ks x σ4 G1 → wG X.K Wout D (hl2 X.K ks) c dd τ H1 := by
    intro ks
    induction ks with
    | nil => exact fun h => d.ex x σ4 G1 c dd τ H1 h g1 r1 xv k1
    | cons k r ih =>
      intro h
      obtain ⟨b, e, h⟩ := h
      refine ⟨b, by rw [xv.1]; exact em _ _ _ e, fun eb a na => ?_, fun eb => ?_⟩
      · subst eb
        rw [if_pos rfl] at h
        have gx := g1.gx
        have sx := r1.sx
        have h := h gx sx
        refine ⟨x, xv.1, setO σ4 (some (exD x)) k.oi, G1, _, g1.toZ gx, ?_, h, ?_⟩
        · have rz : Rs ⟨X.K, ⟨a, c, dd⟩⟩ G1 H1 σ4 τ := r1.toZ sx
          cases k.oi with
          | none => exact rz
          | some i => exact rz.set (exD_dv xv) i
        · have cl : ∀ (σ5 : St3) (σ6 : St) (G2 : Gp) (H2 : Hp), SX (setO σ5 none k.oi) → Rs ⟨X.K, ⟨a, c, dd⟩⟩ G2 H2 σ5 σ6 → Rs (Cxk X Z0) G2 H2 (setO σ5 none k.oi) (match k.oi with | none => σ6 | some i => σ6.set i none) := fun σ5 σ6 G2 H2 sx r2 => by
            cases e : k.oi with
            | none => rw [e] at sx; exact r2.toZ sx
            | some i => rw [e] at sx; exact (r2.clear i).toZ sx
          have fin : ∀ (P : St3 → Gp → Prop) (R : St → Hp → Prop) (R' : St → Hp → Prop), Sk (Cxk X Z0) G H P R → (∀ σ' H', R (match k.oi with | none => σ' | some i => σ'.set i none) H' → R' σ' H') → Sk ⟨X.K, ⟨a, c, dd⟩⟩ G1 H1 (fun σ G => GX G ∧ SX (setO σ none k.oi) ∧ P (setO σ none k.oi) G) R' := fun P R R' hp hr σ5 G2 σ6 H2 ⟨gx2, sx2, h2⟩ g2 r2 k2 =>
            hr _ _ (hp _ _ _ _ h2 (g2.toZ gx2) (cl _ _ _ _ sx2 r2) (k1.trans k2))
          have en : ∀ (f : Ends → St → Hp → Prop) , (∀ i, f (endAs D i) = fun σ' H' => f D (σ'.set i none) H') → ∀ σ' H', f D (match k.oi with | none => σ' | some i => σ'.set i none) H' → f (endOf D k.oi) σ' H' := fun f hf σ' H' h => by
            cases e : k.oi with
            | none => rw [e] at h; exact h
            | some i => rw [e] at h; show f (endAs D i) σ' H'; rw [hf]; exact h
          refine ⟨fin _ _ _ d.nx (en Ends.nx fun _ => rfl), fun v G2 w H2 ⟨gx2, xv2, h2⟩ g2 r2 k2 => ?_, fin _ _ _ d.bk (en Ends.bk fun _ => rfl), fin _ _ _ d.ct (en Ends.ct fun _ => rfl), fun _ _ _ _ _ _ _ z => z.elim⟩
          have := d.rt _ _ _ _ h2 (g2.toZ gx2) (r2.toZ xv2) (k1.trans k2)
          cases e : k.oi with
          | none => exact this
          | some i => exact this
      · subst eb
        rw [if_neg Bool.false_ne_true] at h
        exact ih h
  exact key ks h1
end
end L3
namespace L3
open PySem PySem.Spec PyProof.Rows L2
open He (ga)
/-! ### raise X() -/
/-- what a raised class without fields must be -/
structure ExcF (K : PySem.W.Frag) (x : Str) : Prop where
  e : PySem.W.excIn K (ga K x) He.veBase "ValueError.__new__" = true
  k : PySem.W.keepIn K (.ref (ga K x)) = true
  s : PySem.W.subIn K (.ref (ga K x)) (.type "BaseException") = some true
  t : PySem.W.typeIn K (.ref (ga K x)) = some (.type "type")
theorem excF_ok {K : PySem.W.Frag} {x : Str} (c : (He.Fa.exc x).ok K = true) : ExcF K x := by
  obtain ⟨h1, h2, h3, h4⟩ := He.exc_ok c
  exact ⟨h1, h2, h3, h4⟩
theorem pmk_own0 {X : Cx} {C : Addr} {bmB : List Value} {B newId initId : String} {x : Str} {p pos : Pos} (F : ExcBaseFacts B newId initId bmB) (q : PySem.W.excIn X.K C bmB newId = true) (gC : X.mg x = some (.ref C))
    (kC : PySem.W.keepIn X.K (.ref C) = true) (r : Raises X (.ref C)) (hg : Gl X x) (hdb : (x == ("__debug__" : Str)) = false) :
    PMk X (.Call (.Name x p) [] [] pos) (fun σ H Q => Q (.ref C) none H) := by
  intro pins s σ H Q I h
  refine wpAny_Call_Name_kw (ld_glob I hg gC ?_ hdb)
  refine PySem.W.callWith_K0 I.kIn kC ?_
  show wpAny _ _ (call (.ref C) []) _ _ _
  obtain ⟨bm, N, nm, qn, bs, hdct, sn, sub, ab, col, dd, k0, k1, k2, k3, k5, mN, hC, hN, hni, T⟩ := exc_obj I.kIn q
  refine wpAny_call_exc_subT F T hC hN hni (fun h' e hm => ?_) (by decide)
  exact mk_of I hm r h (I.hok.gone hm.new)
def sraise (c : Str) : TS3 := fun D σ G => D.ex ⟨c, none⟩ σ G
theorem raise0_ {X : Cx} {W : WX} {x : Str} {p cpos pos : Pos} (hc : X.calm = true) (tk : Takes X W) (F : ExcF X.K x) (hm : X.mg x = some (.ref (ga X.K x))) (hg : Gl X x := by rfl) (hdb : (x == ("__debug__" : Str)) = false := by decide +kernel) :
    PS3 X Z0 W (.Raise (some (.Call (.Name x p) [] [] cpos)) none pos) (sraise x) := PS.imp (ps_raise hc tk (pmk_own0 PySem.F.excBase_ValueError F.e hm F.k (raises_own F.s F.t) hg hdb)) fun D σ H h => by
  obtain ⟨σ3, G, D3, g, rs, h, d⟩ := h
  exact d.ex _ _ _ _ _ _ _ h g rs ⟨rfl, trivial⟩ Keep.refl
end L3
/-! ### raise X(e), X's own __init__ stores one field -/
namespace L3
open PySem PySem.Spec PyProof.Rows L2
open He (ga)
def oexB (K : PySem.W.Frag) (C : Addr) : Bool := match K.lookup C with
  | some ⟨.type "type", _, .cls cd, sl⟩ => (match cd.mro, sl.toList with
    | .ref C' :: bm, [_, _, _, _, some (.builtin n), _] => C' == C && n == "ValueError.__new__" && !cd.hasDel && cd.hasDict && PySem.HandSPX.refsVE bm
    | _, _ => false)
  | _ => false
theorem oex_cls {K : PySem.W.Frag} {C : Addr} (q : oexB K C = true) : ∃ nm q N bs bm sn sub ab col dd k0 k1 k2 k3 k5, K.lookup C = some (excClassObj nm q C N bs bm true sn sub ab col dd k0 k1 k2 k3 k5 "ValueError.__new__") ∧ PySem.HandSPX.refsVE bm = true := by
  unfold oexB at q
  split at q
  · rename_i dd cd sl ho
    split at q
    · rename_i C' bm k0 k1 k2 k3 n k5 hm hs
      simp only [Bool.and_eq_true, beq_iff_eq, Bool.not_eq_true'] at q
      obtain ⟨⟨⟨⟨rfl, rfl⟩, hdel⟩, hdc⟩, ht⟩ := q
      obtain ⟨nm, bs, mro, ns, qn, hd, sn, sub, ab, col, del⟩ := cd
      dsimp only at hm hdel hdc
      subst hm hdel hdc
      have hsl : sl = #[k0, k1, k2, k3, some (.builtin "ValueError.__new__"), k5] := by
        obtain ⟨l⟩ := sl
        simp only at hs
        rw [hs]
      subst hsl
      exact ⟨nm, qn, ns, bs, bm, sn, sub, ab, col, dd, k0, k1, k2, k3, k5, ho, ht⟩
    · cases q
  · cases q
/-- a class of errors with one field f -/
structure ExfF (K : PySem.W.Frag) (x f : Str) : Prop where
  c : OexC K (ga K x)
  i : PySem.W.findIn K (.ref (ga K x)) "__init__" = some (some (.ref (He.ma K (ga K x) "__init__")))
  t : PySem.W.typeIn K (.ref (He.ma K (ga K x) "__init__")) = some (.type "function")
  n : PySem.W.findIn K (.ref (ga K x)) f = some none
  x : XfC K (ga K x)
def exfB (x f : Str) (K : PySem.W.Frag) : Bool := oexB K (ga K x) && (decide (PySem.W.findIn K (.ref (ga K x)) "__setattr__" = some (some (.builtin "object.__setattr__"))) && (decide (PySem.W.subIn K (.ref (ga K x)) (.type "BaseException") = some true) && (decide (PySem.W.typeIn K (.ref (ga K x)) = some (.type "type")) &&
  (PySem.W.keepIn K (.ref (ga K x)) && (decide (PySem.W.findIn K (.ref (ga K x)) "__init__" = some (some (.ref (He.ma K (ga K x) "__init__")))) && (decide (PySem.W.typeIn K (.ref (He.ma K (ga K x) "__init__")) = some (.type "function")) && (decide (PySem.W.findIn K (.ref (ga K x)) f = some none) && xfB K (ga K x))))))))
theorem exfF_ok {K : PySem.W.Frag} {x f : Str} (h : exfB x f K = true) : ExfF K x f := by
  obtain ⟨h1, h⟩ := He.ba h
  obtain ⟨h2, h⟩ := He.ba h
  obtain ⟨h3, h⟩ := He.ba h
  obtain ⟨h4, h⟩ := He.ba h
  obtain ⟨h5, h⟩ := He.ba h
  obtain ⟨h6, h⟩ := He.ba h
  obtain ⟨h7, h⟩ := He.ba h
  obtain ⟨h8, h9⟩ := He.ba h
  exact ⟨⟨oex_cls h1, of_decide_eq_true h2, of_decide_eq_true h3, of_decide_eq_true h4, h5⟩, of_decide_eq_true h6, of_decide_eq_true h7, of_decide_eq_true h8, xfB_ok h9⟩
/-- what such an __init__ does -/
def spX (K : PySem.W.Frag) (x f : Str) : Sp := fun vs H Q _ => ∃ a v, vs = [.ref a, v] ∧ H a = some (exo a (ga K x) none) ∧ ∀ dx, H dx = none → dx ≠ a → Q .non (upd (upd H dx (exd dx [(f, v)])) a (exo a (ga K x) (some dx)))
section
variable {P : Program} {w : World} {K : PySem.W.Frag} {mg : Str → Option Value} {base : Heap}
theorem initX {x f name qual s1 s2 : Str} {params : Arguments} {scope : Scope} {ad : Addr} {fd : FuncData} {p1 p2 p3 pos : Pos} (T : ExfF K x f) (F : FunD K name qual params [.Assign [.Attribute (.Name s1 p1) f p2] (.Name s2 p3) pos] scope [] [] ad fd) (S : FnScope [s1, s2] [s1, s2] scope)
    (l1 : scope.names.lookup s1 = some .local) (l2 : scope.names.lookup s2 = some .local) (d1 : (s1 == ("__debug__" : Str)) = false) (d2 : (s2 == ("__debug__" : Str)) = false) (e1 : (s1 == ("__classdict__" : Str)) = false) (e2 : (s2 == ("__classdict__" : Str)) = false)
    (hsw : ∀ env : Env, swapsWith (.Name s2 p3) (some (.Attribute (.Name s1 p1) f p2)) pos.line env = pure false) : FnOk P w K mg base (L2.CX P w) 1 ad fd [s1, s2] (spX K x f) := by
  refine F.ok S (fun vs H Q E h => ?_) (fun cdv A outer s H vs Q E hr h => ?_)
  · obtain ⟨a, v, rfl, _⟩ := h; rfl
  · obtain ⟨a, v, rfl, ha, q⟩ := h
    refine ⟨_, pss_one (ps_ost (pe_var (i := 0) rfl (.inl l1) d1 e1) (pe_var (i := 1) rfl (.inl l2) d2 e2) (hsw _)), ?_⟩
    exact ⟨_, rfl, _, rfl, a, _, rfl, T.c, T.n, .inl ⟨ha, fun dx n ne => q dx n ne⟩⟩
end
def sraisef (c f : Str) (te : TE3) : TS3 := fun D σ G => te σ G (fun y G1 => D.ex ⟨c, some (f, y)⟩ σ G1) (fun x G1 => D.ex x σ G1)
theorem raisef_ {X : Cx} {W : WX} {x f : Str} {p cpos pos : Pos} {k : Nat} {e : Expr} {te : TE3} {fd : FuncData} {ps : List Str} (hc : X.calm = true) (tk : Takes X W) (T : ExfF X.K x f) (F : FnOk X.prog X.w X.K X.mg X.base (L2.CX X.prog X.w) 1 (He.ma X.K (ga X.K x) "__init__") fd ps (spX X.K x f)) (hb : Binds X.K fd ps [])
    (hr : Room k X.A) (hk : 2 ≤ k) (hm : X.mg x = some (.ref (ga X.K x))) (he : PE3 X Z0 W e te) (hg : Gl X x := by rfl) (hdb : (x == ("__debug__" : Str)) = false := by decide +kernel)
    (hst : starEach [e] X.env = (false, eval e X.env) :: starEach [] X.env := by rfl) (hpl : (backTo cpos (starEach [] X.env)).any (·.1) = false := by rfl) :
    PS3 X Z0 W (.Raise (some (.Call (.Name x p) [e] [] cpos)) none pos) (sraisef x f te) := by
  have px : Passes (L2.CX X.prog X.w) X (fun _ _ _ => False) := fun _ _ _ _ _ _ _ h => by
    obtain ⟨_, _, _, _, _, _, _, _, _, _, _, _, z⟩ := h
    exact z.elim
  refine PS.imp (ps_raise hc tk (pmk_oex T.c T.i T.t F (hr.mono hk) hb .nil px hg hm (pa_cons he pa_nil hst) hdb hst hpl)) fun D σ H h => ?_
  obtain ⟨σ3, G, D3, g, rs, h, d⟩ := h
  refine ⟨σ3, G, _, _, g, rs, h, fun y G1 v H1 h1 g1 r1 k1 => ?_, d.exk g rs⟩
  refine ⟨by show 1 ≤ 1000; decide, fun a na => ⟨a, v, rfl, upd_same, fun dx nd ne => ⟨rfl, dx, [(f, v)], upd_same, ?_, ?_, ?_⟩⟩⟩
  · rw [upd_ne ne, upd_same]
  · rw [upd_ne ne] at nd; exact nd
  · rw [upd_ne ne] at nd
    have e1 : upd (L2.del (upd (upd (upd H1 a (exo a (ga X.K x) none)) dx (exd dx [(f, v)])) a (exo a (ga X.K x) (some dx))) a) dx (.xd [(f, v)]) = upd H1 dx (.xd [(f, v)]) := by
      funext b
      by_cases hb1 : b = dx
      · subst hb1; rw [upd_same, upd_same]
      · rw [upd_ne hb1, upd_ne hb1]
        by_cases hb2 : b = a
        · subst hb2; rw [del_same, na]
        · rw [del_ne hb2, upd_ne hb2, upd_ne hb1, upd_ne hb2]
    rw [e1]
    have kk : Keep G1 H1 G1 (upd H1 dx (.xd [(f, v)])) := Keep.new nd
    exact d.ex _ _ _ _ _ _ _ h1 (g1.new nd) ((rs.keep g k1).keep g1 kk) ⟨rfl, dx, v, rfl, upd_same, r1.keep g1 kk⟩ (k1.trans kk)
/-! ### the held exception -/
/-- err.f -/
def txf (c f : Str) (te : TE3) : TE3 := fun σ G Q E => te σ G (fun x G1 => ∃ y, x = .exf c f y ∧ Q y G1) E
theorem xf_ {X : Cx} {a : Addr} {oe : Obj} {d : Option Addr} {pn : List (Addr × Obj)} {W : WX} {e : Expr} {te : TE3} {pos : Pos} {c f : Str} {e3 : X3} (T : ExfF X.K c f) (hz : Zc (.ref (ga X.K e3.c)) d oe) (hf : ∃ vs, oe.data = .fields vs)
    (he : PE3 (X.suite a ((a, oe) :: pn)) ⟨a, .ref (ga X.K e3.c), d⟩ W e te) (hb : attributeBase e f X.env (eval e X.env) = eval e X.env := by rfl) :
    PE3 (X.suite a ((a, oe) :: pn)) ⟨a, .ref (ga X.K e3.c), d⟩ W (.Attribute e f pos) (txf c f te) := PE.imp (pe_xf T.x T.n hz hf he hb) fun σ H Q h => by
  obtain ⟨σ3, G, Q3, E3, g, rs, h, q, x⟩ := h
  refine ⟨σ3, G, _, E3, g, rs, h, fun x G1 v H1 ⟨y, e, h1⟩ g1 r1 k1 => ?_, x⟩
  subst e
  cases r1 with
  | exf z1 z2 z3 r =>
    refine ⟨rfl, z1, _, _, _, z2, z3, ?_, q_of (q.keep k1) g1 h1 r⟩
    simp
/-! ### zip of two tuples, of two lists that stay -/
def izip (ta : TA3) : TI3 := fun σ G R E => ta σ G (fun ds G1 => ∃ xs ys, (ds = [.tup xs, .tup ys] ∨ ds = [.fl xs, .fl ys]) ∧ R (List.zipWith (fun a b => D.tup [a, b]) xs ys) (fun _ => True) G1) E
section
variable {K : K3} {G : Gp} {H : Hp}
theorem zip_at {xs ys : List D} {us ws : List V} {i : Nat} {d : D} (r : DvL K G H xs us) (t : DvL K G H ys ws) (h : (List.zipWith (fun a b => D.tup [a, b]) xs ys)[i]? = some d) : ∃ a b u w, d = .tup [a, b] ∧ us[i]? = some u ∧ ws[i]? = some w ∧ Dv K G H a u ∧ Dv K G H b w := by
  rw [List.getElem?_zipWith] at h
  cases e1 : xs[i]? with
  | none => rw [e1] at h; simp at h
  | some a =>
    cases e2 : ys[i]? with
    | none => rw [e1, e2] at h; simp at h
    | some b =>
      rw [e1, e2] at h
      cases h
      obtain ⟨u, h1, h2⟩ := r.get e1
      obtain ⟨w, h3, h4⟩ := t.get e2
      exact ⟨a, b, u, w, rfl, h1, h3, h2, h4⟩
theorem itr_zipT {xs ys : List D} {a b : Addr} (g : GH K G H) (r1 : Dv K G H (.tup xs) (.ref a)) (r2 : Dv K G H (.tup ys) (.ref b)) : ItR K G H (RZ.ItzT K.f a b) (List.zipWith (fun a b => D.tup [a, b]) xs ys) (fun _ => True) := by
  have key : ∀ {xs : List D} {a : Addr} {G1 H1}, Dv K G H (.tup xs) (.ref a) → Keep G H G1 H1 → ∃ ws, SqT K.f H1 a ws ∧ DvL K G1 H1 xs ws := fun {xs a G1 H1} r k => by
    have r1 := r.keep g k
    cases r1 with
    | tup s rl => exact ⟨_, s, rl⟩
  refine ⟨fun G1 H1 k g1 gd => ?_, fun i G1 H1 hi k g1 gd => ?_, fun i x v G1 H1 H2 hi k g1 gd y => ?_⟩
  · obtain ⟨us, s1, l1⟩ := key r1 k
    obtain ⟨ws, s2, l2⟩ := key r2 k
    refine ⟨us, ws, s1, s2, ?_⟩
    rw [← l1.length, ← l2.length, List.length_zipWith]; omega
  · obtain ⟨us, s1, l1⟩ := key r1 k
    obtain ⟨ws, s2, l2⟩ := key r2 k
    rw [List.length_zipWith] at hi
    have h1 : i < us.length := by rw [← l1.length]; omega
    have h2 : i < ws.length := by rw [← l2.length]; omega
    exact ⟨us, ws, us[i], ws[i], s1, s2, by simp [h1], by simp [h2]⟩
  · obtain ⟨us, s1, l1⟩ := key r1 k
    obtain ⟨ws, s2, l2⟩ := key r2 k
    obtain ⟨T, u, w, rfl, nT, rfl, h1, h2⟩ := y
    obtain ⟨p, q, u', w', rfl, e1, e2, q1, q2⟩ := zip_at l1 l2 hi
    rw [h1 us s1] at e1; cases e1
    rw [h2 ws s2] at e2; cases e2
    have kn := Keep.new (G := G1) (o := .tup [u, w]) nT
    exact ⟨g1.new nT, kn, .tup (SqT.of upd_same) (.cons (q1.keep g1 kn) (.cons (q2.keep g1 kn) .nil))⟩
theorem itr_zipL {xs ys : List D} {a b : Addr} (g : GH K G H) (r1 : Dv K G H (.fl xs) (.ref a)) (r2 : Dv K G H (.fl ys) (.ref b)) : ItR K G H (Itz K.f a b) (List.zipWith (fun a b => D.tup [a, b]) xs ys) (fun _ => True) := by
  have key : ∀ {xs : List D} {a : Addr} {G1 H1}, Dv K G H (.fl xs) (.ref a) → Keep G H G1 H1 → ∃ ws, SqL K.f H1 a ws ∧ DvL K G1 H1 xs ws := fun {xs a G1 H1} r k => by
    have r1 := r.keep g k
    cases r1 with
    | fl s n rl => exact ⟨_, SqL.of s, rl⟩
  refine ⟨fun G1 H1 k g1 gd => ?_, fun i G1 H1 hi k g1 gd => ?_, fun i x v G1 H1 H2 hi k g1 gd y => ?_⟩
  · obtain ⟨us, s1, l1⟩ := key r1 k
    obtain ⟨ws, s2, l2⟩ := key r2 k
    refine ⟨us, ws, s1, s2, ?_⟩
    rw [← l1.length, ← l2.length, List.length_zipWith]; omega
  · obtain ⟨us, s1, l1⟩ := key r1 k
    obtain ⟨ws, s2, l2⟩ := key r2 k
    rw [List.length_zipWith] at hi
    have h1 : i < us.length := by rw [← l1.length]; omega
    have h2 : i < ws.length := by rw [← l2.length]; omega
    exact ⟨us, ws, us[i], ws[i], s1, s2, by simp [h1], by simp [h2]⟩
  · obtain ⟨us, s1, l1⟩ := key r1 k
    obtain ⟨ws, s2, l2⟩ := key r2 k
    obtain ⟨T, u, w, rfl, nT, rfl, h1, h2⟩ := y
    obtain ⟨p, q, u', w', rfl, e1, e2, q1, q2⟩ := zip_at l1 l2 hi
    rw [h1 us s1] at e1; cases e1
    rw [h2 ws s2] at e2; cases e2
    have kn := Keep.new (G := G1) (o := .tup [u, w]) nT
    exact ⟨g1.new nT, kn, .tup (SqT.of upd_same) (.cons (q1.keep g1 kn) (.cons (q2.keep g1 kn) .nil))⟩
end
theorem izip_ {X : Cx} {Z : Zx} {W : WX} {e e2 : Expr} {ta : TA3} {p pos tpos : Pos} {elts : List Expr} {kk : Nat} (hm : X.mg "zip" = none) (ha : PA3 X Z W [e, e2] ta) (hg : Gl X "zip" := by rfl)
    (hs : starEach [e, e2] X.env = (false, eval e X.env) :: starEach [e2] X.env := by rfl) (hpl : (backTo pos (starEach [e2] X.env)).any (·.1) = false := by rfl) :
    PI3 X Z W (.Tuple elts kk tpos) (.Call (.Name "zip" p) [e, e2] [] pos) (izip ta) := PI.imp (RZ.pi_zipA hg hm ha hs hpl) fun σ H R h => by
  obtain ⟨σ3, G, R3, E3, g, rs, h, q, x⟩ := h
  refine ⟨σ3, G, _, E3, g, rs, h, fun ds G1 vs H1 ⟨xs, ys, e, h1⟩ g1 r1 k1 => ?_, x⟩
  rcases e with e | e
  · subst e
    cases r1 with
    | cons ra rb =>
    cases rb with
    | cons rb rc =>
    cases rc
    have ra' := ra
    have rb' := rb
    cases ra with
    | tup s1 l1 =>
    cases rb with
    | tup s2 l2 => exact ⟨_, _, _, _, rfl, .inr ⟨s1, s2, q _ _ _ _ _ h1 g1 k1 (itr_zipT g1 ra' rb')⟩⟩
  · subst e
    cases r1 with
    | cons ra rb =>
    cases rb with
    | cons rb rc =>
    cases rc
    have ra' := ra
    have rb' := rb
    cases ra with
    | fl s1 n1 l1 =>
    cases rb with
    | fl s2 n2 l2 => exact ⟨_, _, _, _, rfl, .inl ⟨SqL.of s1, SqL.of s2, q _ _ _ _ _ h1 g1 k1 (itr_zipL g1 ra' rb')⟩⟩
/-! ### x == y, x of an own class with its own __eq__ -/
structure EqO (K : PySem.W.Frag) (OC : List Str) (c : Str) : Prop where
  s : PySem.W.findIn K (.ref (ga K c)) "__eq__" = some (some (.ref (He.ma K (ga K c) "__eq__")))
  f : PySem.W.isFn K (.ref (He.ma K (ga K c) "__eq__")) = true
  n : ∀ T : Bt, PySem.W.notFirst K (ga K c) (.type T.n) = true
  o : ∀ d ∈ OC, PySem.W.notFirst K (ga K c) (.ref (ga K d)) = true
def eqoB (OC : List Str) (c : Str) (K : PySem.W.Frag) : Bool := decide (PySem.W.findIn K (.ref (ga K c)) "__eq__" = some (some (.ref (He.ma K (ga K c) "__eq__")))) && (PySem.W.isFn K (.ref (He.ma K (ga K c) "__eq__")) &&
  ((Bt.all.all fun T => PySem.W.notFirst K (ga K c) (.type T.n)) && OC.all fun d => PySem.W.notFirst K (ga K c) (.ref (ga K d))))
theorem eqo_ok {K : PySem.W.Frag} {OC : List Str} {c : Str} (h : eqoB OC c K = true) : EqO K OC c := by
  obtain ⟨h1, h⟩ := He.ba h
  obtain ⟨h2, h⟩ := He.ba h
  obtain ⟨h3, h4⟩ := He.ba h
  exact ⟨of_decide_eq_true h1, h2, fun T => List.all_eq_true.mp h3 T T.mem, fun d hd => List.all_eq_true.mp h4 d hd⟩
def eqO3 (OC : List Str) (c : Str) (sp : Sp3) : Q2 := fun x y G Q => tyD G x = some (.o c) ∧ (∃ t, tyD G y = some t ∧ ∀ d, t = .o d → d ∈ OC) ∧ sp [x, y] G (fun z G1 => (∃ b, z = .bl b) ∧ Q z G1) (fun _ _ => False)
theorem o_eqO {X : Cx} {OC : List Str} {c : Str} {sp : Sp3} {j k : Nat} (IS : IsF X.K OC) (T : EqO X.K OC c) (F : Mn3 X.prog X.w X.K X.mg X.base (He.ma X.K (ga X.K c) "__eq__") j sp) (hr : Room k X.A) (hj : j ≤ k) : OpR3 X Z0 (compareOp .Eq) (eqO3 OC c sp) := by
  obtain ⟨fd, ps, hb, F⟩ := F.ex
  have F := F.mono hj
  refine ⟨fun v u H Q => ∃ G x y Q3, GH (Cxk X Z0) G H ∧ Dv (Cxk X Z0) G H x v ∧ Dv (Cxk X Z0) G H y u ∧ eqO3 OC c sp x y G Q3 ∧ Qk (Cxk X Z0) G H Q3 Q, ?_, fun G H x y v u Q3 Q g rx ry h q => ⟨G, x, y, Q3, g, rx, ry, h, q⟩⟩
  intro pins s σ H v u v' u' Q I rv ru h
  obtain ⟨G, x, y, Q3, g, rx, ry, ⟨hx, ⟨t, ht, hto⟩, h⟩, q⟩ := h
  obtain ⟨a, dx, fs, rfl, ha⟩ : ∃ a dx fs, v = .ref a ∧ H a = some (.ins (ga X.K c) dx fs) := by
    cases rx with
    | ob s l n r => cases hx; exact ⟨_, _, _, rfl, s⟩
    | ref a =>
      unfold tyD at hx
      simp only at hx
      split at hx
      · cases hx
      · cases hx
      · rename_i c' fs e
        cases hx
        obtain ⟨dx, vs, h2, _⟩ := g a _ e
        exact ⟨_, _, _, rfl, h2⟩
      · cases hx
    | _ => cases hx
  cases (show v' = Value.ref a from rv)
  obtain ⟨mA, J, _⟩ := ins_get I.hok ha
  obtain ⟨od, J, _⟩ := J.look
  obtain ⟨m, hF⟩ := I.fr
  have ow : ∀ d, t = .o d → OwnC X.K d := fun d e => IS.own d (hto d e)
  obtain ⟨Pk, Zk, pk, _⟩ := kit_of I ru (tyD_ok g ry ht ow)
  have nf : PySem.W.notFirst X.K (ga X.K c) (t.v X.K) = true := by
    cases t with
    | b U => exact T.n U
    | o d => exact T.o d (hto d rfl)
  show wpAny (model X.prog X.w) X.A (richCompare .Eq (.ref a) u') (EP X pins σ Q) X.xe s
  refine PySem.W.cmp_K (op := .Eq) (tb := t.v X.K) hr.units0 hF I.ok.mod.kin J (Zk.ty _ _ I.kIn pk) nf T.s T.f ?_
  have px : Passes (L2.CX X.prog X.w) X (fun _ _ _ => False) := fun _ _ _ _ _ _ _ h => by
    obtain ⟨_, _, _, _, _, _, _, _, _, _, _, _, z⟩ := h
    exact z.elim
  refine wpAny_mono (run_fn (E := fun _ _ _ => False) (dvs := []) (us := [.ref a, u']) (vs := [.ref a, u]) (Q := fun w H' => (∃ b, w = .bl b) ∧ Q w H') F hr hb .nil px I (.cons rv (.cons ru .nil)) ?_) (fun w s' hq => ?_) fun _ _ z => z
  · refine ⟨[x, y], G, _, _, g, .cons rx (.cons ry .nil), h, fun d G1 w H1 ⟨⟨b, e⟩, h1⟩ g1 r1 k1 => ?_, fun _ _ _ _ _ z => z.elim⟩
    subst e
    cases r1
    exact ⟨⟨b, rfl⟩, q _ _ _ _ h1 g1 (.bl b) k1⟩
  · obtain ⟨z, H', I', rz, ⟨b, rfl⟩, h1⟩ := hq
    cases (show w = Value.bool b from rz)
    exact ⟨.bl b, H', I', rfl, h1⟩
end L3
namespace L3
open PySem PySem.Spec PyProof.Rows L2
open He (ga)
/-- a table: class raised, class of the clause, is it taken -/
def exmOf (l : List (Str × Str × Bool)) (c h : Str) : Option Bool := (l.find? fun p => p.1 == c && p.2.1 == h).map (·.2.2)
def exmB (l : List (Str × Str × Bool)) (K : PySem.W.Frag) : Bool := l.all fun p => decide (PySem.W.exmOne K (.ref (ga K p.1)) (.ref (ga K p.2.1)) = some p.2.2)
theorem exmF_ok {K : PySem.W.Frag} {l : List (Str × Str × Bool)} (h : exmB l K = true) : ExmF K (exmOf l) := fun c d b e => by
  unfold exmOf at e
  cases q : l.find? fun p => p.1 == c && p.2.1 == d with
  | none => rw [q] at e; cases e
  | some p =>
    rw [q] at e
    cases e
    have m := List.mem_of_find?_eq_some q
    have z := List.find?_some q
    simp only [Bool.and_eq_true, beq_iff_eq] at z
    obtain ⟨rfl, rfl⟩ := z
    exact of_decide_eq_true (List.all_eq_true.mp h p m)
end L3
namespace L3
open PySem PySem.Spec PyProof.Rows L2
open He (ga)
/-! ### dicts with keys that are ints, texts -/
def kD : Key → D
  | .inl i => .int i
  | .inr s => .str s
theorem kD_inv {K : K3} {G : Gp} {H : Hp} {k : Key} {v : V} (r : Dv K G H (kD k) v) : v = kV k := by
  cases k with
  | inl i => cases r; rfl
  | inr s => cases r; rfl
def putA {α : Type} (kvs : List (Key × α)) (k : Key) (v : α) : List (Key × α) :=
  if (kvs.any fun kv => decide (kv.1 = k)) = true then kvs.map (fun kv => if kv.1 = k then (kv.1, v) else kv) else kvs ++ [(k, v)]
def mergeD (more : List (Key × D)) : List (Key × D) := more.foldl (fun acc kv => putA acc kv.1 kv.2) []
def anyD {α : Type} (kvs : List (Key × α)) (k : Key) : Bool := kvs.any fun kv => decide (kv.1 = k)
inductive KR (K : K3) (G : Gp) (H : Hp) : List (Key × D) → List (Key × V) → Prop
  | nil : KR K G H [] []
  | cons {k : Key} {d : D} {v : V} {ds : List (Key × D)} {vs : List (Key × V)} : Dv K G H d v → KR K G H ds vs → KR K G H ((k, d) :: ds) ((k, v) :: vs)
section
variable {K : K3} {G : Gp} {H : Hp}
theorem KR.keys : ∀ {ds : List (Key × D)} {vs : List (Key × V)}, KR K G H ds vs → vs = (ds.map (·.1)).zip (vs.map (·.2)) ∧ DvL K G H (ds.map (·.2)) (vs.map (·.2))
  | _, _, .nil => ⟨rfl, .nil⟩
  | _, _, .cons r t => by
    obtain ⟨h1, h2⟩ := KR.keys t
    refine ⟨?_, .cons r h2⟩
    simp only [List.map_cons, List.zip_cons_cons]
    rw [← h1]
theorem KR.of : ∀ {ds : List (Key × D)} {vs : List V}, DvL K G H (ds.map (·.2)) vs → KR K G H ds ((ds.map (·.1)).zip vs)
  | [], [], .nil => .nil
  | (k, d) :: ds, v :: vs, .cons r t => .cons r (KR.of t)
theorem KR.any : ∀ {ds : List (Key × D)} {vs : List (Key × V)}, KR K G H ds vs → ∀ k, anyD vs k = anyD ds k
  | _, _, .nil, _ => rfl
  | _, _, .cons r t, k => by
    unfold anyD
    rw [List.any_cons, List.any_cons]
    have := t.any k
    unfold anyD at this
    rw [this]
theorem KR.snoc : ∀ {ds : List (Key × D)} {vs : List (Key × V)} {k : Key} {d : D} {v : V}, KR K G H ds vs → Dv K G H d v → KR K G H (ds ++ [(k, d)]) (vs ++ [(k, v)])
  | _, _, _, _, _, .nil, r => .cons r .nil
  | _, _, _, _, _, .cons q t, r => .cons q (KR.snoc t r)
theorem KR.rep : ∀ {ds : List (Key × D)} {vs : List (Key × V)} {k : Key} {d : D} {v : V}, KR K G H ds vs → Dv K G H d v → KR K G H (ds.map fun kv => if kv.1 = k then (kv.1, d) else kv) (vs.map fun kv => if kv.1 = k then (kv.1, v) else kv)
  | _, _, _, _, _, .nil, r => .nil
  | _, _, k, _, _, .cons (k := j) q t, r => by
    rw [List.map_cons, List.map_cons]
    by_cases e : j = k
    · simp only [e, if_true]
      exact .cons r (KR.rep t r)
    · simp only [e, if_false]
      exact .cons q (KR.rep t r)
theorem KR.put {ds : List (Key × D)} {vs : List (Key × V)} {k : Key} {d : D} {v : V} (t : KR K G H ds vs) (r : Dv K G H d v) : KR K G H (putA ds k d) (putK vs k v) := by
  have e := t.any k
  unfold putA putK
  unfold anyD at e
  rw [e]
  split
  · exact t.rep r
  · exact t.snoc r
theorem KR.merge : ∀ {ms : List (Key × D)} {ws : List (Key × V)} {ds : List (Key × D)} {vs : List (Key × V)}, KR K G H ms ws → KR K G H ds vs → KR K G H (ms.foldl (fun acc kv => putA acc kv.1 kv.2) ds) (ws.foldl (fun acc kv => putK acc kv.1 kv.2) vs)
  | _, _, _, _, .nil, t => t
  | _, _, _, _, .cons (k := k) r q, t => by
    have z := KR.merge q (t.put (k := k) r)
    exact z
theorem pairs_of : ∀ {kvs : List (Key × D)} {vs : List V}, GH K G H → DvL K G H (kvs.map fun kv => .tup [kD kv.1, kv.2]) vs → ∃ (ps : List Addr) (ws : List (Key × V)), vs = ps.map V.ref ∧ Paired (fun p kv => SqT K.f H p [kV kv.1, kv.2]) ps ws ∧ KR K G H kvs ws
  | [], _, g, .nil => ⟨[], [], rfl, .nil, .nil⟩
  | (k, d) :: kvs, _, g, .cons r t => by
    obtain ⟨ps, ws, e, h1, h2⟩ := pairs_of g t
    subst e
    cases r with
    | tup s l =>
    cases l with
    | cons l1 l =>
    cases l with
    | cons l2 l =>
    cases l
    rename_i a v1 v2
    have := kD_inv l1
    subst this
    exact ⟨a :: ps, (k, v2) :: ws, rfl, .cons s h1, .cons l2 h2⟩
end
def bDict : QL := fun ds G Q => match ds with
  | [x] => ∃ kvs : List (Key × D), lq G x = some (kvs.map fun kv => .tup [kD kv.1, kv.2]) ∧ ∀ p, G p = none → Q (.ref p) (up G p (.dic (mergeD kvs)))
  | _ => False
section
variable {X : Cx} {Z : Zx} {W : WX}
theorem b_dict (hc : X.calm = true) : CallR3 X Z (.type "dict") bDict := by
  refine ⟨_, call_dictP hc, fun G H xs vs Q3 Q g r h q => ?_⟩
  unfold bDict at h
  split at h
  · cases r with
    | cons r1 r2 =>
    cases r2
    obtain ⟨kvs, e, h⟩ := h
    obtain ⟨a, us, ea, s, rl⟩ := lq_ok g r1 e
    obtain ⟨ps, ws, e2, h1, h2⟩ := pairs_of g rl
    subst e2
    refine ⟨a, ps, ws, by rw [ea], s, h1, fun p n => ?_⟩
    have m := KR.merge h2 (KR.nil (K := Cxk X Z) (G := G) (H := H))
    obtain ⟨m1, m2⟩ := m.keys
    have kp : Keep G H (up G p (.dic (mergeD kvs))) (upd H p (.dK (mergeK [] ws))) := Keep.newG n
    exact q _ _ _ _ (h p (g.free n)) (g.newG n ⟨_, by rw [upd_same]; exact congrArg (fun z => some (HO.dK z)) m1, m2.keep g kp⟩) (.ref p) kp
  · exact h.elim
/-- x in d -/
def tdin (neg : Bool) (ty td : TE3) : TE3 := fun σ G Q E => ty σ G (fun y G1 => td σ G1 (fun x G2 => ∃ p kvs k, x = .ref p ∧ G2 p = some (.dic kvs) ∧ y = kD k ∧ Q (.bl (if neg then !anyD kvs k else anyD kvs k)) G2) E) E
theorem din_k {ty td : TE3} {σ : St} {H : Hp} {Q : VK} (neg : Bool) (h : liftE (Cxk X Z) W (tdin neg ty td) σ H Q) : liftE (Cxk X Z) W ty σ H fun y H1 => liftE (Cxk X Z) W td σ H1 fun x H2 => ∃ a o, x = .ref a ∧ DGet H2 a y o ∧ Q (.bl (if neg then !o.isSome else o.isSome)) H2 := by
  obtain ⟨σ3, G, Q3, E3, g, rs, h, q, x⟩ := h
  refine ⟨σ3, G, _, E3, g, rs, h, fun d1 G1 v1 H1 h1 g1 r1 k1 => ?_, x⟩
  refine ⟨σ3, G1, _, E3, g1, rs.keep g k1, h1, fun d2 G2 v2 H2 ⟨p, kvs, k, e1, e2, e3, h2⟩ g2 r2 k2 => ?_, x.keep k1⟩
  subst e1 e3
  cases r2
  have := kD_inv r1
  subst this
  obtain ⟨vs, e4, r4⟩ := g2 p _ e2
  have a := (KR.of r4).any k
  refine ⟨p, _, rfl, DGet.k (k := k) e4, ?_⟩
  have va := valV_any k ((kvs.map (·.1)).zip vs)
  unfold anyD at a
  rw [← va, a]
  exact q _ _ _ _ h2 g2 (.bl _) (k1.trans k2)
variable {i o : Expr} {ty td : TE3} {pos : Pos} {k : Nat}
theorem din_ (hr : Room k X.A) (hi : PE3 X Z W i ty) (ho : PE3 X Z W o td) (hm : behindInMarks .In o = false := by rfl) : PE3 X Z W (.Compare i [.In] [o] pos) (tdin false ty td) :=
  PE.imp (pe_cmp (pc_din (by have := hr.units; omega) hi ho) hm) fun σ H Q h => din_k false h
theorem tdin_ (hr : Room k X.A) (hi : PE3 X Z W i ty) (ho : PE3 X Z W o td) (hm : behindInMarks .In o = false := by rfl) : PT3 X Z W (.Compare i [.In] [o] pos) (tb3 (tdin false ty td)) :=
  PT.imp (pt_cmp (pc_din (by have := hr.units; omega) hi ho) hm) fun σ H Q hq => din_k (W := W) (Q := fun x H' => ∃ k, x = .bl k ∧ Q k H') false (by
    obtain ⟨σ3, G, Q3, E3, g, rs, h, q, x⟩ := hq
    refine ⟨σ3, G, _, E3, g, rs, h, fun d G1 v H1 ⟨b, e, h1⟩ g1 r1 k1 => ?_, x⟩
    subst e
    cases r1
    exact ⟨b, rfl, q b G1 H1 h1 g1 k1⟩)
/-- xs[::-1] -/
def trev (m : Bool) (te : TE3) : TE3 := fun σ G Q E => te σ G (fun x G1 => ∃ xs, lq G1 x = some xs ∧ outL m xs.reverse G1 Q) E
theorem rev_ (m : Bool) {e : Expr} {te : TE3} {j : Nat} {p1 p2 p3 : Pos} (he : PE3 X Z W e te) : PE3 X Z W (.Subscript e (.Slice none none (some (.UnaryOp .USub (.Constant (.int 1) j p1) p2)) p3) pos) (trev m te) := PE.imp (pe_revL he) fun σ H Q h => by
  obtain ⟨σ3, G, Q3, E3, g, rs, h, q, x⟩ := h
  refine ⟨σ3, G, _, E3, g, rs, h, fun d G1 v H1 ⟨xs, e, h1⟩ g1 r1 k1 => ?_, x⟩
  obtain ⟨a, us, ea, s, rl⟩ := lq_ok g1 r1 e
  exact ⟨a, us, ea, s, fun p n => outL_ok m g1 rl.reverse (q.keep k1) h1 n⟩
end
end L3
namespace L3
open PySem PySem.Spec PyProof.Rows L2
open He (ga)
/-! ### constant tuples of the module -/
/-- what a constant tuple holds -/
inductive Cn where
  | s (x : Str) | i (i : Int) | n
  deriving DecidableEq
def Cn.d : Cn → D
  | .s z => .str z
  | .i z => .int z
  | .n => .non
def Cn.v : Cn → V
  | .s z => .str z
  | .i z => .int z
  | .n => .non
def TupF (K : PySem.W.Frag) (a : Addr) (xs : List Cn) : Prop :=
  ∃ (o : Obj) (its : Array Value) (n : Nat), K.lookup a = some o ∧ o.cls = .type "tuple" ∧ o.data = .seq its n ∧ its.size ≤ sizeLine ∧ Vals (xs.map Cn.v) its.toList
def cnsB : List Cn → List Value → Bool
  | [], [] => true
  | .s x :: xs, .str y _ :: ys => decide (x = y) && cnsB xs ys
  | .i x :: xs, .int y _ :: ys => decide (x = y) && cnsB xs ys
  | .n :: xs, .none :: ys => cnsB xs ys
  | _, _ => false
theorem cns_ok : ∀ {xs : List Cn} {ys : List Value}, cnsB xs ys = true → Vals (xs.map Cn.v) ys := by
  intro xs ys
  induction xs, ys using cnsB.induct with
  | case1 => exact fun _ => .nil
  | case2 x xs y t ys ih =>
    intro h
    unfold cnsB at h
    obtain ⟨h1, h2⟩ := He.ba h
    have h1 := of_decide_eq_true h1
    subst h1
    exact .cons ⟨t, rfl⟩ (ih h2)
  | case3 x xs y t ys ih =>
    intro h
    unfold cnsB at h
    obtain ⟨h1, h2⟩ := He.ba h
    have h1 := of_decide_eq_true h1
    subst h1
    exact .cons ⟨t, rfl⟩ (ih h2)
  | case4 xs ys ih =>
    intro h
    unfold cnsB at h
    exact .cons rfl (ih h)
  | case5 xs ys h1 h2 h3 h4 => 
    intro h
    unfold cnsB at h
    split at h
    · exact absurd rfl (h1 rfl)
    · exact (h2 _ _ _ _ _ rfl rfl).elim
    · exact (h3 _ _ _ _ _ rfl rfl).elim
    · exact (h4 _ _ rfl rfl).elim
    · cases h
def tupB (x : Str) (xs : List Cn) (K : PySem.W.Frag) : Bool := match K.lookup (ga K x) with
  | some o => decide (o.cls = .type "tuple") && (match o.data with
    | .seq its _ => decide (its.size ≤ sizeLine) && cnsB xs its.toList
    | _ => false)
  | _ => false
theorem tupF_ok {K : PySem.W.Frag} {x : Str} {xs : List Cn} (h : tupB x xs K = true) : TupF K (ga K x) xs := by
  unfold tupB at h
  cases e : K.lookup (ga K x) with
  | none => rw [e] at h; cases h
  | some o =>
    rw [e] at h
    obtain ⟨h1, h2⟩ := He.ba h
    cases e2 : o.data with
    | seq its n =>
      rw [e2] at h2
      obtain ⟨h2, h3⟩ := He.ba h2
      exact ⟨o, its, n, e, of_decide_eq_true h1, e2, of_decide_eq_true h2, cns_ok h3⟩
    | _ => rw [e2] at h2; cases h2
theorem cns_dv {K : K3} {G : Gp} {H : Hp} : ∀ xs : List Cn, DvL K G H (xs.map Cn.d) (xs.map Cn.v)
  | [] => .nil
  | .s x :: xs => .cons (.str x) (cns_dv xs)
  | .i x :: xs => .cons (.int x) (cns_dv xs)
  | .n :: xs => .cons .non (cns_dv xs)
section
variable {X : Cx} {Z : Zx} {W : WX} {pos : Pos}
theorem cgt_ {x : Str} {xs : List Cn} {ds : List D} {a : Addr} (hm : X.mg x = some (.ref a)) (t : TupF X.K a xs) (e : xs.map Cn.d = ds := by rfl) (hg : Gl X x := by rfl) (hd : (x == ("__debug__" : Str)) = false := by decide +kernel) : PE3 X Z W (.Name x pos) (tc (.tup ds)) := by
  subst e
  exact cg_ (v := .ref a) hm rfl (fun _ _ => .tup (.inr t) (cns_dv xs)) hg hd
end
end L3
/-! ### enumerate of a tuple, of a list -/
namespace PySem
open Sem (wp)
theorem l3_enum_newB {v : Value} {o : Obj} {H : Heap → Prop} (B : Begins v o H) :
    Meets (Builtin.«enumerate.__new__» ⟨[.type "enumerate", v], []⟩) (fun _ R s => H s.heap ∧
      R (.ok (.ret (.ref (s.heap.push o).objs.size))) { s with heap := (s.heap.push o).push { cls := .type "enumerate", data := .fields #[.none, .bool false, .ref s.heap.objs.size, rawInt 0, .none, .none] } }) :=
  .of_wp fun prog w A R s h => by
    obtain ⟨hp, g, d, tk, os⟩ := s; obtain ⟨h1, h⟩ := h
    have hsub := sub_enumerate
    have q1 : ∀ {A' : Around} {E : Value → Shared → Prop} {Q : Value → Shared → Prop}, Q (.ref hp.objs.size) ⟨hp.push o, g, d, tk, os⟩ → wpAny (model prog w) A' (pyIter v) Q E ⟨hp, g, d, tk, os⟩ :=
      fun q => B.iter prog w _ _ ⟨hp, g, d, tk, os⟩ _ h1 q
    wp_walk using q1
    refine wpAny_stack_any fun st => wpAny_pure ?_
    split
    · rename_i c _ _ _ _ _
      cases (c == Value.type "enumerate")
      · wp_walk using q1
        exact ⟨_, rfl, h⟩
      · wp_walk using q1
        exact ⟨_, rfl, h⟩
    · wp_walk using q1
      exact ⟨_, rfl, h⟩
section
variable {prog : Program} {w : World} {A : Around} {E : Value → Shared → Prop} {s : Shared}
theorem l3_call_enumB {v : Value} {o : Obj} {H : Heap → Prop} {Q : Value → Shared → Prop} (B : Begins v o H) (h1 : H s.heap)
    (h : ∀ h', IsEnum h' (s.heap.objs.size + 1) s.heap.objs.size 0 .none → h'.get? s.heap.objs.size = some o → h'.objs.size = s.heap.objs.size + 2 →
      (∀ b o, s.heap.get? b = some o → h'.get? b = some o) → Q (.ref (s.heap.objs.size + 1)) { s with heap := h' }) :
    wpAny (model prog w) A (call (.type "enumerate") [v]) Q E s := by
  refine callType_new F.called_enumerate (by decide) (F.typeCall_enumerate_1 _) (F.newCall_enumerate_1 _) (fun obj => F.args_object_init_2 obj _) F.entry_enumerate_new
    (l3_enum_newB B) ⟨h1, ?_⟩
  have hz : (s.heap.push o).objs.size = s.heap.objs.size + 1 := Heap.size_push ..
  show _ ∧ _
  rw [hz]
  have he : IsEnum ((s.heap.push o).push { cls := .type "enumerate", data := .fields #[.none, .bool false, .ref s.heap.objs.size, rawInt 0, .none, .none] }) (s.heap.objs.size + 1) s.heap.objs.size 0 .none := by
    have := Heap.get?_push_size (s.heap.push o) (o := { cls := .type "enumerate", data := .fields #[.none, .bool false, .ref s.heap.objs.size, rawInt 0, .none, .none] }) rfl
    rw [hz] at this; exact this
  refine ⟨⟨_, he, rfl⟩, h _ he (Heap.get?_push_of_some _ (Heap.get?_push_size _ B.free)) (by rw [Heap.size_push, hz]) fun b o x => Heap.get?_push_of_some _ (Heap.get?_push_of_some _ x)⟩
end
end PySem
namespace L3
open PySem PySem.Spec PyProof.Rows L2
open He (ga)
def IteT (K : PySem.W.Frag) (a : Addr) : It :=
  ⟨fun i H => ∃ (xs : List V) (x : V), SqT K H a xs ∧ xs[i]? = some x, fun i H v H' => ∃ T x, v = .ref T ∧ H T = none ∧ H' = upd H T (.tup [.int (i : Nat), x]) ∧ ∀ xs, SqT K H a xs → xs[i]? = some x, fun i H => ∃ xs : List V, SqT K H a xs ∧ xs.length = i⟩
theorem turn_enumT {P : Program} {w : World} {K : PySem.W.Frag} {elts : List Expr} {kk : Nat} {tpos : Pos} (a e it : Addr) (hai : a ≠ it) (hae : a ≠ e) :
    Turn P w K (.Tuple elts kk tpos) (IteT K a) [e, it] e (fun i h => (∃ old, IsEnum h e it ((i : Nat) : Int) old) ∧ h.IsTupleIter it a i ∧ e ≠ it) where
  mem := by simp
  obj := fun i h st b hb => by
    obtain ⟨⟨old, he⟩, ⟨o, ho, hc, hd⟩, _⟩ := st
    have e' : b = e ∨ b = it := by simpa using hb
    rcases e' with z | z
    · rw [z]; exact ⟨_, he, fun v q => nomatch q⟩
    · rw [z]; exact ⟨o, ho, fun v q => by rw [hd] at q; cases q⟩
  keep := fun i h h' st k => let ⟨⟨old, he⟩, hi, hne⟩ := st; ⟨⟨old, k e (by simp) _ he⟩, hi.at fun o q => k it (by simp) o q, hne⟩
  item := by
    intro X hP hw hK hc i pins s σ H E I hf st hg
    subst hP hw hK
    obtain ⟨⟨old, he⟩, hit, hne⟩ := st
    obtain ⟨xs, x, hq, hx⟩ := hg
    obtain ⟨its, rv, p, hz⟩ := I.tuple hq
    obtain ⟨u, hu, ru⟩ := rv.get hx
    have hel : e < s.heap.objs.size := Heap.lt_size he
    have hil : it < s.heap.objs.size := by obtain ⟨_, q, _⟩ := hit; exact Heap.lt_size q
    have ilt : i < its.length := (List.getElem?_eq_some_iff.mp hu).1
    refine wpAny_pyNext_enum_itemD (Draws.tuple (A := X.A.in1) (show X.A.in1.handled = none from I.ok.hd hc) it a hai its.toArray) he (i := i) ⟨hit, p⟩ (by simpa using ilt) hne (by simp; exact ⟨hne, fun z => hae z.symm⟩) fun x' h' tk hPx ho hit' hT hsz hk => ?_
    have ex : x' = u := by
      have hPx : its.toArray[i]? = some x' := hPx
      rw [List.getElem?_toArray, hu] at hPx
      exact (Option.some.inj hPx).symm
    subst ex
    refine ⟨_, rfl, wpAny_letOwnedTupleGo_enum (s := { s with heap := h', toks := tk + 1 }) ho fun h'' he' sb => ?_⟩
    have hT2 : h''.get? s.heap.objs.size = some { cls := .type "tuple", data := .seq #[.int i tk, x'] } := (sb.2 _ (Nat.ne_of_gt hel)).trans hT
    have new : ObjOk X.prog X.w (upd H s.heap.objs.size (.tup [.int (i : Nat), x])) h'' s.heap.objs.size (.tup [.int (i : Nat), x]) :=
      ⟨by show 2 ≤ sizeLine; decide, [.int i tk, x'], .cons ⟨_, rfl⟩ (.cons ru .nil), ⟨_, hT2, rfl, _, rfl⟩⟩
    have I1 : Inv X pins σ (upd H s.heap.objs.size (.tup [.int (i : Nat), x])) { s with heap := h'', toks := tk + 1 } :=
      I.turnedNew (ch := [e, it]) (fun b ob hb q => (sb.2 b (fun z => hb (by simp [z]))).trans (hk b ob (fun z => hb (by simp [z])) (fun z => hb (by simp [z])) q)) hf (Nat.le_refl _) new
    refine ⟨.ref s.heap.objs.size, _, I1, rfl, ⟨_, x, rfl, I.hok.fresh (Nat.le_refl _), rfl, fun ys hy => by rw [I.tuple_inj hy hq]; exact hx⟩, ⟨⟨x', ?_⟩, hit'.1.at fun o q => (sb.2 it (Ne.symm hne)).trans q, hne⟩, fun b hb => ?_⟩
    · have e1 : ((i + 1 : Nat) : Int) = (i : Int) + 1 := by omega
      rw [e1]; exact he'
    · have hb' : b < s.heap.objs.size := by
        have e' : b = e ∨ b = it := by simpa using hb
        rcases e' with z | z
        · rw [z]; exact hel
        · rw [z]; exact hil
      rw [upd_ne (Nat.ne_of_lt hb')]
      exact (hf b hb).1
  done := by
    intro X hP hw hK hc i pins s σ H E I hf st hg
    subst hP hw hK
    obtain ⟨⟨old, he⟩, hit, hne⟩ := st
    obtain ⟨xs, hq, hx⟩ := hg
    obtain ⟨its, rv, p, hz⟩ := I.tuple hq
    obtain ⟨f0, f1, f2, f3, f4, f5⟩ := hf it (by simp)
    have hl := rv.length
    have e1 : i = its.toArray.size := by simp; omega
    subst e1
    exact wpAny_pyNext_enum_endD (Draws.tuple (A := X.A.in1) (show X.A.in1.handled = none from I.ok.hd hc) it a hai its.toArray) he ⟨hit, p⟩ fun h' eb => ⟨rfl, I.turned (t' := s.toks) (fun b o hb q => eb b o hb q) f0 f1 f3 f4 f5⟩
  self := fun A i s Q E st h => let ⟨⟨_, he⟩, _⟩ := st; wpAny_pyIter_enum he h
def iEnumA (K : PySem.W.Frag) (ta : TA) : TI := fun σ H R => ta σ H fun vs H1 => ∃ a, vs = [.ref a] ∧ (((∃ xs, SqL K H1 a xs) ∧ R (Ite K a) H1) ∨ ((∃ xs, SqT K H1 a xs) ∧ R (IteT K a) H1))
theorem pi_enumA {X : Cx} {e : Expr} {ta : TA} {p pos tpos : Pos} {elts : List Expr} {kk : Nat} (hg : Gl X "enumerate") (hm : X.mg "enumerate" = none) (ha : PA X [e] ta) (hs : starEach [e] X.env = [(false, eval e X.env)] := by rfl) :
    PI X (.Tuple elts kk tpos) (.Call (.Name "enumerate" p) [e] [] pos) (iEnumA X.K ta) := by
  refine ⟨fun pins s σ H R I h => ?_⟩
  refine Call_ (ld_blt I hg hm boot_enumerate (PyProof.Rows.callWith_type1 (thn (ha.run pos pins s σ H _ I h) fun us s1 ⟨vs, H1, I1, r1, q1⟩ => ?_) hs rfl))
  obtain ⟨a, ex, q1⟩ := q1
  subst ex
  cases r1 with
  | cons r rr =>
    cases rr
    cases r
    have fp : ∀ b, b ∈ [s1.heap.objs.size + 1, s1.heap.objs.size] → FpOk X pins H1 b := fun b hb => by
      have e' : b = s1.heap.objs.size + 1 ∨ b = s1.heap.objs.size := by simpa using hb
      have hle : s1.heap.objs.size ≤ b := by
        rcases e' with z | z
        · rw [z]; exact Nat.le_add_right _ _
        · rw [z]; exact Nat.le_refl _
      exact I1.fpOk hle (I1.hok.fresh hle)
    rcases q1 with ⟨⟨xs, hq⟩, q⟩ | ⟨⟨xs, hq⟩, q⟩
    · obtain ⟨its, rv, p', hz⟩ := I1.list hq
      refine call_enumerate_list p'.isList fun h' he hit hsz hk => wpAny_pyIter_enum he ?_
      have I2 : Inv X pins σ H1 { s1 with heap := h' } := I1.kept (t' := s1.toks) hk
      exact ⟨s1.heap.objs.size + 1, [s1.heap.objs.size + 1, s1.heap.objs.size], _, _, H1, rfl, I2, turn_enum a (s1.heap.objs.size + 1) s1.heap.objs.size, ⟨⟨.none, he⟩, hit, Nat.succ_ne_self _⟩, fp, q⟩
    · obtain ⟨its, rv, p', hz⟩ := I1.tuple hq
      obtain ⟨o1, ho1, _⟩ := id p'
      have al : a < s1.heap.objs.size := Heap.lt_size ho1
      refine l3_call_enumB (begins_tuple a its.toArray) (show s1.heap.IsTuple a its.toArray from p') fun h' he hit hsz hk => wpAny_pyIter_enum he ?_
      have I2 : Inv X pins σ H1 { s1 with heap := h' } := I1.kept (t' := s1.toks) hk
      exact ⟨s1.heap.objs.size + 1, [s1.heap.objs.size + 1, s1.heap.objs.size], _, _, H1, rfl, I2, turn_enumT a (s1.heap.objs.size + 1) s1.heap.objs.size (Nat.ne_of_lt al) (Nat.ne_of_lt (Nat.lt_succ_of_lt al)), ⟨⟨.none, he⟩, ⟨_, hit, rfl, rfl⟩, Nat.succ_ne_self _⟩, fp, q⟩
def enD (xs : List D) : List D := xs.mapIdx fun i x => D.tup [.int (i : Nat), x]
theorem enD_len {xs : List D} : (enD xs).length = xs.length := List.length_mapIdx
theorem enD_get {xs : List D} {i : Nat} {y : D} (h : (enD xs)[i]? = some y) : ∃ x, xs[i]? = some x ∧ y = .tup [.int (i : Nat), x] := by
  unfold enD at h
  rw [List.getElem?_mapIdx] at h
  cases e : xs[i]? with
  | none => rw [e] at h; cases h
  | some x => rw [e] at h; cases h; exact ⟨x, rfl, rfl⟩
def ienum (ta : TA3) : TI3 := fun σ G R E => ta σ G (fun ds G1 => ∃ d xs, ds = [d] ∧ sq G1 d = some xs ∧ R (enD xs) (gdOf d xs) G1) E
section
variable {K : K3} {G : Gp} {H : Hp}
theorem itr_enL {d : D} {a : Addr} {xs : List D} (g : GH K G H) (r : Dv K G H d (.ref a)) (e : lq G d = some xs) : ItR K G H (Ite K.f a) (enD xs) (gdOf d xs) := by
  have key : ∀ G1 H1, Keep G H G1 H1 → GH K G1 H1 → gdOf d xs G1 → ∃ ws, SqL K.f H1 a ws ∧ DvL K G1 H1 xs ws := fun G1 H1 k g1 gd => by
    have r1 := r.keep g k
    have e1 : lq G1 d = some xs := by
      cases d with
      | ref p => unfold lq; simp only; rw [show G1 p = some (.lst xs) from gd]
      | _ => exact e
    obtain ⟨b, ws, eb, s, rl⟩ := lq_ok g1 r1 e1
    cases eb
    exact ⟨ws, s, rl⟩
  refine ⟨fun G1 H1 k g1 gd => ?_, fun i G1 H1 hi k g1 gd => ?_, fun i x v G1 H1 H2 hi k g1 gd y => ?_⟩
  · obtain ⟨ws, s, rl⟩ := key G1 H1 k g1 gd
    exact ⟨ws, s, by rw [enD_len, rl.length]; exact Nat.le_refl _⟩
  · obtain ⟨ws, s, rl⟩ := key G1 H1 k g1 gd
    rw [enD_len] at hi
    have : i < ws.length := by rw [← rl.length]; exact hi
    exact ⟨ws, ws[i], s, by simp [this]⟩
  · obtain ⟨ws, s, rl⟩ := key G1 H1 k g1 gd
    obtain ⟨T, u, rfl, nT, rfl, h1⟩ := y
    obtain ⟨x', e1, rfl⟩ := enD_get hi
    obtain ⟨w, h3, h2⟩ := rl.get e1
    rw [h1 ws s] at h3
    cases h3
    have kn := Keep.new (G := G1) (o := .tup [.int (i : Nat), u]) nT
    exact ⟨g1.new nT, kn, .tup (SqT.of upd_same) (.cons (.int _) (.cons (h2.keep g1 kn) .nil))⟩
theorem itr_enT {a : Addr} {xs : List D} (g : GH K G H) (r : Dv K G H (.tup xs) (.ref a)) : ItR K G H (IteT K.f a) (enD xs) (fun _ => True) := by
  have key : ∀ G1 H1, Keep G H G1 H1 → ∃ ws, SqT K.f H1 a ws ∧ DvL K G1 H1 xs ws := fun G1 H1 k => by
    have r1 := r.keep g k
    cases r1 with
    | tup s rl => exact ⟨_, s, rl⟩
  refine ⟨fun G1 H1 k g1 gd => ?_, fun i G1 H1 hi k g1 gd => ?_, fun i x v G1 H1 H2 hi k g1 gd y => ?_⟩
  · obtain ⟨ws, s, rl⟩ := key G1 H1 k
    exact ⟨ws, s, by rw [enD_len, rl.length]⟩
  · obtain ⟨ws, s, rl⟩ := key G1 H1 k
    rw [enD_len] at hi
    have : i < ws.length := by rw [← rl.length]; exact hi
    exact ⟨ws, ws[i], s, by simp [this]⟩
  · obtain ⟨ws, s, rl⟩ := key G1 H1 k
    obtain ⟨T, u, rfl, nT, rfl, h1⟩ := y
    obtain ⟨x', e1, rfl⟩ := enD_get hi
    obtain ⟨w, h3, h2⟩ := rl.get e1
    rw [h1 ws s] at h3
    cases h3
    have kn := Keep.new (G := G1) (o := .tup [.int (i : Nat), u]) nT
    exact ⟨g1.new nT, kn, .tup (SqT.of upd_same) (.cons (.int _) (.cons (h2.keep g1 kn) .nil))⟩
end
theorem ienum_ {X : Cx} {Z : Zx} {W : WX} {e : Expr} {ta : TA3} {p pos tpos : Pos} {elts : List Expr} {kk : Nat} (hm : X.mg "enumerate" = none) (ha : PA3 X Z W [e] ta) (hg : Gl X "enumerate" := by rfl)
    (hs : starEach [e] X.env = [(false, eval e X.env)] := by rfl) :
    PI3 X Z W (.Tuple elts kk tpos) (.Call (.Name "enumerate" p) [e] [] pos) (ienum ta) := PI.imp (pi_enumA hg hm ha hs) fun σ H R h => by
  obtain ⟨σ3, G, R3, E3, g, rs, h, q, x⟩ := h
  refine ⟨σ3, G, _, E3, g, rs, h, fun ds G1 vs H1 ⟨d, xs, ed, e, h1⟩ g1 r1 k1 => ?_, x⟩
  subst ed
  cases r1 with
  | cons r1 rr =>
  cases rr
  by_cases ht : ∃ ys, d = .tup ys
  · obtain ⟨ys, rfl⟩ := ht
    cases e
    have r0 := r1
    cases r1 with
    | tup s rl => exact ⟨_, rfl, .inr ⟨⟨_, s⟩, q _ _ _ _ _ h1 g1 k1 (itr_enT g1 r0)⟩⟩
  · have e' := lq_of e fun ys z => ht ⟨ys, z⟩
    obtain ⟨a, vs, ea, s, rl⟩ := lq_ok g1 r1 e'
    subst ea
    exact ⟨_, rfl, .inl ⟨⟨_, s⟩, q _ _ _ _ _ h1 g1 k1 (itr_enL g1 r1 e')⟩⟩
end L3
namespace L3
open PySem PySem.Spec PyProof.Rows L2
open He (ga)
/-! ### constant dicts of the module: text keys, ints -/
def lkI : List (Str × Int) → Str → Option Int
  | [], _ => none
  | (k, i) :: r, z => if k == z then some i else lkI r z
def entsB : List (Str × Int) → List DictEntry → Bool
  | [], [] => true
  | (k, i) :: r, e :: es => (match e.key, e.val with
    | .str x _, .int j _ => decide (x = k) && decide (j = i)
    | _, _ => false) && entsB r es
  | _, _ => false
def tabI (x : Str) (kvs : List (Str × Int)) (K : PySem.W.Frag) : Bool := match K.lookup (ga K x) with
  | some o => (match o.data with
    | .dict es _ => entsB kvs es.toList
    | _ => false)
  | _ => false
structure TabF (K : PySem.W.Frag) (w : World) (d : Addr) (kvs : List (Str × Int)) : Prop where
  dk : ∃ es n, KDict K w d es n ∧ entsB kvs es.toList = true
theorem tabF_ok {K : PySem.W.Frag} {w : World} {x : Str} {kvs : List (Str × Int)} (h : tabI x kvs K = true) (c : ∃ es n, KDict K w (ga K x) es n) : TabF K w (ga K x) kvs := by
  obtain ⟨es, n, D⟩ := c
  refine ⟨es, n, D, ?_⟩
  unfold tabI at h
  rw [D.at_] at h
  exact h
theorem ents_find : ∀ {kvs : List (Str × Int)} {l : List DictEntry}, entsB kvs l = true → ∀ z, (match lkI kvs z with
    | some i => ∃ t, (l.find? fun e => Value.isStrOf z e.key).map (·.val) = some (.int i t)
    | none => (l.find? fun e => Value.isStrOf z e.key).map (·.val) = none)
  | [], [], _, z => rfl
  | [], _ :: _, h, _ => by cases h
  | _ :: _, [], h, _ => by cases h
  | (k, i) :: r, e :: es, h, z => by
    have h : ((match e.key, e.val with
      | .str x _, .int j _ => decide (x = k) && decide (j = i)
      | _, _ => false) && entsB r es) = true := h
    obtain ⟨h1, h2⟩ := He.ba h
    have ih := ents_find h2 z
    obtain ⟨hh, ek, ev⟩ := e
    dsimp only at h1
    cases ek with
    | str x t =>
      cases ev with
      | int j u =>
        obtain ⟨h3, h4⟩ := He.ba h1
        have h3 := of_decide_eq_true h3
        have h4 := of_decide_eq_true h4
        subst h3 h4
        have e1 : Value.isStrOf z (Value.str x t) = (x == z) := rfl
        rw [List.find?_cons]
        dsimp only
        rw [e1]
        show (match (if x == z then some j else lkI r z) with
          | some i => _
          | none => _)
        cases q : x == z with
        | true => exact ⟨u, rfl⟩
        | false => exact ih
      | _ => cases h1
    | _ => simp at h1
section
variable {X : Cx} {x : Str} {d : Addr} {kvs : List (Str × Int)} {i e f : Expr} {ty tx : TE} {p pos apos cpos : Pos}
theorem tab_map {pins : List (Addr × Obj)} {σ : L2.St} {H : Hp} {s : Shared} (T : TabF X.K X.w d kvs) (I : Inv X pins σ H s) : ∃ g : Str → Option Value, s.heap.MapOf (strKind X.prog X.w) d g ∧ (d == sysModules) = false ∧
    ∀ z, (match lkI kvs z with | some i => ∃ t, g z = some (.int i t) | none => g z = none) := by
  obtain ⟨es, n, D, he⟩ := T.dk
  refine ⟨_, PySem.W.mapOf_K (prog := X.prog) I.kIn D.at_ D.lit, D.low, fun z => ?_⟩
  have := ents_find he z
  obtain ⟨l⟩ := es
  unfold findBy
  rw [List.find?_toArray]
  exact this
theorem pe_kix (hm : X.mg x = some (.ref d)) (T : TabF X.K X.w d kvs) (hi : PE X i ty) (hs : NoSl i) (hg : Gl X x) (hd : (x == ("__debug__" : Str)) = false) :
    PE X (.Subscript (.Name x p) i pos) (fun σ H Q => ty σ H fun y H2 => ∃ z j, y = .str z ∧ lkI kvs z = some j ∧ Q (.int j) H2) := by
  refine ⟨fun pins s σ H Q I h => ?_⟩
  refine subD_of PySem.F.slot_dict_getitem.lookup hs (thn ((pe_glob (v := .ref d) hg hm rfl hd).run pins s σ H (fun v H' => v = .ref d ∧ ty σ H' fun y H2 => ∃ z j, y = .str z ∧ lkI kvs z = some j ∧ Q (.int j) H2) I ⟨rfl, h⟩) fun u s1 ⟨x1, H1, I1, rx, ex, q1⟩ => thn (hi.run pins s1 σ H1 _ I1 q1) fun iv s2 ⟨y, H2, I2, ry, z, j, ey, l, q2⟩ => ?_)
  subst ex ey
  obtain rfl : u = Value.ref d := rx
  obtain ⟨t, rfl⟩ := ry
  obtain ⟨g, M, lo, hz⟩ := tab_map T I2
  have hz := hz z
  rw [l] at hz
  obtain ⟨t2, hz⟩ := hz
  exact ⟨M.typeIs, wpAny_getItem_of (PySem.strKind_is X.prog X.w z t) M hz ⟨.int j, H2, I2.tok _, ⟨_, rfl⟩, q2⟩⟩
theorem pe_kget (hm : X.mg x = some (.ref d)) (T : TabF X.K X.w d kvs) (he : PE X e ty) (hf : PE X f tx) (m : M2 X (.Name x p) "get" apos e f cpos) (hg : Gl X x) (hd : (x == ("__debug__" : Str)) = false) :
    PE X (.Call (.Attribute (.Name x p) "get" apos) [e, f] [] cpos) (fun σ H Q => ty σ H fun y H2 => tx σ H2 fun v H3 => ∃ z, y = .str z ∧ Q (match lkI kvs z with | some j => .int j | none => v) H3) := by
  refine ⟨fun pins s σ H Q I h => ?_⟩
  refine wpAny_Call_method m.base m.few m.line PySem.F.plainAttrs_dict PySem.F.slot_dict_get PySem.F.type_dict_get (thn ((pe_glob (v := .ref d) hg hm rfl hd).run pins s σ H (fun v H' => v = .ref d ∧ ty σ H' fun y H2 => tx σ H2 fun v H3 => ∃ z, y = .str z ∧ Q (match lkI kvs z with | some j => .int j | none => v) H3) I ⟨rfl, h⟩) fun u s1 ⟨x1, H1, I1, rx, ex, q1⟩ => ?_)
  subst ex
  obtain rfl : u = Value.ref d := rx
  obtain ⟨g, M, lo, hz⟩ := tab_map T I1
  refine ⟨M.typeIs, fun b q => ?_, ?_⟩
  · cases q
    obtain ⟨es, n, D, _⟩ := T.dk
    exact ⟨_, I1.kIn _ _ D.at_, rfl⟩
  rw [m.trees]
  refine Calls.callWith_builtin rfl (Calls.evalArgs_plain (Calls.spliced_cons (thn (he.run pins s1 σ H1 _ I1 q1) fun iv s2 ⟨y, H2, I2, ry, q2⟩ =>
    Calls.spliced_cons (thn (hf.run pins s2 σ H2 _ I2 q2) fun fv s3 ⟨v, H3, I3, rv, z, ey, q3⟩ => Calls.spliced_nil ?_))))
  subst ey
  obtain ⟨t, rfl⟩ := ry
  obtain ⟨g, M, lo, hz⟩ := tab_map T I3
  refine call_meetsIn PySem.F.slot_dict_get M.typeIs PySem.F.entry_dict_get (PySem.F.args_dict_get_3 _ _ _) (meets_dict_get_default (strKind X.prog X.w) d (PySem.strKind_is X.prog X.w z t) lo fv) ⟨_, M, _, H3, I3.tok _, ?_, q3⟩
  have hz := hz z
  cases l : lkI kvs z with
  | none => rw [l] at hz; rw [hz]; exact rv
  | some j => rw [l] at hz; obtain ⟨t2, hz⟩ := hz; rw [hz]; exact ⟨_, rfl⟩
end
/-- C[y], C a constant dict -/
def tkix (kvs : List (Str × Int)) (ty : TE3) : TE3 := fun σ G Q E => ty σ G (fun y G1 => ∃ z j, y = .str z ∧ lkI kvs z = some j ∧ Q (.int j) G1) E
/-- C.get(y, x) -/
def tkget (kvs : List (Str × Int)) (ty tx : TE3) : TE3 := fun σ G Q E => ty σ G (fun y G1 => tx σ G1 (fun v G2 => ∃ z, y = .str z ∧ Q (match lkI kvs z with | some j => .int j | none => v) G2) E) E
section
variable {X : Cx} {Z : Zx} {W : WX} {x : Str} {d : Addr} {kvs : List (Str × Int)} {i e f : Expr} {ty tx : TE3} {p pos apos cpos : Pos}
theorem kix_ (hm : X.mg x = some (.ref d)) (T : TabF X.K X.w d kvs) (hi : PE3 X Z W i ty) (hs : NoSl i) (hg : Gl X x := by rfl) (hd : (x == ("__debug__" : Str)) = false := by decide +kernel) :
    PE3 X Z W (.Subscript (.Name x p) i pos) (tkix kvs ty) := PE.imp (pe_kix hm T hi hs hg hd) fun σ H Q h => by
  obtain ⟨σ3, G, Q3, E3, g, rs, h, q, xx⟩ := h
  refine ⟨σ3, G, _, E3, g, rs, h, fun y G1 v H1 ⟨z, j, e, l, h1⟩ g1 r1 k1 => ?_, xx⟩
  subst e
  cases r1
  exact ⟨z, j, rfl, l, q_of (q.keep k1) g1 h1 (.int _)⟩
theorem kget_ (hm : X.mg x = some (.ref d)) (T : TabF X.K X.w d kvs) (he : PE3 X Z W e ty) (hf : PE3 X Z W f tx) (hg : Gl X x := by rfl) (hd : (x == ("__debug__" : Str)) = false := by decide +kernel)
    (hbase : attributeBase (.Name x p) "get" X.env (eval (.Name x p) X.env) = eval (.Name x p) X.env := by rfl)
    (hfew : ((backTo cpos (starEach [e, f] X.env)).all (fun x => !x.1) && (backToKw cpos (keywordEach [] X.env)).all (fun x => x.1.isSome)
      && decide (([e, f] : List Expr).length + ([] : List Keyword).length + (if ([] : List Keyword).isEmpty then 0 else 1) < 30)) = true := by rfl)
    (hline : (apos.endLine == cpos.line) = true := by rfl) (htr : backTo cpos (starEach [e, f] X.env) = [(false, eval e X.env), (false, eval f X.env)] := by rfl) :
    PE3 X Z W (.Call (.Attribute (.Name x p) "get" apos) [e, f] [] cpos) (tkget kvs ty tx) := PE.imp (pe_kget hm T he hf ⟨hbase, hfew, hline, htr⟩ hg hd) fun σ H Q h => by
  obtain ⟨σ3, G, Q3, E3, g, rs, h, q, xx⟩ := h
  refine ⟨σ3, G, _, E3, g, rs, h, fun y G1 v H1 h1 g1 r1 k1 => ?_, xx⟩
  refine ⟨σ3, G1, _, E3, g1, rs.keep g k1, h1, fun d2 G2 v2 H2 ⟨z, e, h2⟩ g2 r2 k2 => ?_, xx.keep k1⟩
  subst e
  cases r1
  refine ⟨z, rfl, ?_⟩
  cases l : lkI kvs z with
  | none => rw [l] at h2; exact q_of (q.keep (k1.trans k2)) g2 h2 r2
  | some j => rw [l] at h2; exact q_of (q.keep (k1.trans k2)) g2 h2 (.int _)
end
end L3
namespace C3
open PySem PySem.Spec PyProof.Rows L2 L3
open He (ga)

abbrev OC : List Str := [(Str.ofString "Forest")]
def top (i : Nat) : Stmt := PySem.Challenge.pw_cutlinked_k03_whole_deeds_on_plain_fores.main.body.getD i (.Pass ⟨0, 0, 0, 0⟩)
abbrev s__law_up : Stmt := top 48
abbrev N__law_up : List Str := [(Str.ofString "_law_parents_here"), (Str.ofString "_law_house"), (Str.ofString "_law_found"), (Str.ofString "_law_k")]
abbrev s__law_common : Stmt := top 50
abbrev N__law_common : List Str := [(Str.ofString "_law_parents_here"), (Str.ofString "_law_one"), (Str.ofString "_law_other"), (Str.ofString "_law_ups"), (Str.ofString "_law_house")]
abbrev s__law_way : Stmt := top 51
abbrev N__law_way : List Str := [(Str.ofString "_law_parents_here"), (Str.ofString "_law_one"), (Str.ofString "_law_other"), (Str.ofString "_law_top"), (Str.ofString "_law_first"), (Str.ofString "_law_later"), (Str.ofString "_law_back"), (Str.ofString "_law_k")]
abbrev s__law_behind : Stmt := top 55
abbrev N__law_behind : List Str := [(Str.ofString "_law_plain_here"), (Str.ofString "_law_deed_here"), (Str.ofString "_law_parents_here"), (Str.ofString "_law_worths"), (Str.ofString "_law_ups"), (Str.ofString "_law_k"), (Str.ofString "_law_house")]
abbrev s__law_is_integer : Stmt := top 40
abbrev N__law_is_integer : List Str := [(Str.ofString "_law_thing")]
abbrev s__law_is_within : Stmt := top 41
abbrev N__law_is_within : List Str := [(Str.ofString "_law_thing"), (Str.ofString "_law_least"), (Str.ofString "_law_most")]
abbrev s__law_are_houses : Stmt := top 52
abbrev N__law_are_houses : List Str := [(Str.ofString "_law_size"), (Str.ofString "_law_things"), (Str.ofString "_law_thing")]
abbrev s__law_deed_form : Stmt := top 53
abbrev N__law_deed_form : List Str := [(Str.ofString "_law_size"), (Str.ofString "_law_thing")]
abbrev s__law_root : Stmt := top 49
abbrev N__law_root : List Str := [(Str.ofString "_law_parents_here"), (Str.ofString "_law_house")]
abbrev s__law_can : Stmt := top 54
abbrev N__law_can : List Str := [(Str.ofString "_law_plain_here"), (Str.ofString "_law_thing"), (Str.ofString "_law_parents_here")]
abbrev s_comes_to_none : Stmt := top 14
abbrev N_comes_to_none : List Str := [(Str.ofString "parents"), (Str.ofString "house"), (Str.ofString "here"), (Str.ofString "turn")]
abbrev s_is_integer : Stmt := top 7
abbrev N_is_integer : List Str := [(Str.ofString "thing")]
abbrev s_is_within : Stmt := top 8
abbrev N_is_within : List Str := [(Str.ofString "thing"), (Str.ofString "least"), (Str.ofString "most")]
abbrev s_is_below : Stmt := top 9
abbrev N_is_below : List Str := [(Str.ofString "thing"), (Str.ofString "many")]
abbrev s_is_sized : Stmt := top 10
abbrev N_is_sized : List Str := [(Str.ofString "thing"), (Str.ofString "least"), (Str.ofString "most")]
abbrev s_are_parents : Stmt := top 15
abbrev N_are_parents : List Str := [(Str.ofString "thing"), (Str.ofString "house"), (Str.ofString "item")]
abbrev s_Forest___init__ : Stmt := inClass (top 16) 0
abbrev N_Forest___init__ : List Str := [(Str.ofString "self"), (Str.ofString "parents"), (Str.ofString "worths"), (Str.ofString "value")]
abbrev s__law_forest_of : Stmt := top 47
abbrev N__law_forest_of : List Str := [(Str.ofString "_law_plain_here")]
abbrev s__law_hand : Stmt := top 37
abbrev N__law_hand : List Str := [(Str.ofString "_law_script")]
abbrev s_up_from : Stmt := top 17
abbrev N_up_from : List Str := [(Str.ofString "parents"), (Str.ofString "house"), (Str.ofString "found")]
abbrev s_common_of : Stmt := top 18
abbrev N_common_of : List Str := [(Str.ofString "parents"), (Str.ofString "one"), (Str.ofString "other"), (Str.ofString "ahead"), (Str.ofString "house")]
abbrev s_way_of : Stmt := top 19
abbrev N_way_of : List Str := [(Str.ofString "parents"), (Str.ofString "one"), (Str.ofString "other"), (Str.ofString "top"), (Str.ofString "up"), (Str.ofString "down")]
abbrev s_added_values : Stmt := top 32
abbrev N_added_values : List Str := [(Str.ofString "forest"), (Str.ofString "one"), (Str.ofString "other"), (Str.ofString "number"), (Str.ofString "there"), (Str.ofString "house"), (Str.ofString "value")]
abbrev s_replaced : Stmt := top 12
abbrev N_replaced : List Str := [(Str.ofString "items"), (Str.ofString "number"), (Str.ofString "item")]
abbrev s_turned_parents : Stmt := top 31
abbrev N_turned_parents : List Str := [(Str.ofString "parents"), (Str.ofString "house"), (Str.ofString "found"), (Str.ofString "up"), (Str.ofString "one"), (Str.ofString "other")]
abbrev s_after_deed : Stmt := top 33
abbrev N_after_deed : List Str := [(Str.ofString "forest"), (Str.ofString "deed"), (Str.ofString "word"), (Str.ofString "house")]
abbrev s_has_form : Stmt := top 28
abbrev N_has_form : List Str := [(Str.ofString "many"), (Str.ofString "thing"), (Str.ofString "houses"), (Str.ofString "item")]
abbrev s_is_possible : Stmt := top 29
abbrev N_is_possible : List Str := [(Str.ofString "forest"), (Str.ofString "deed"), (Str.ofString "parents")]
abbrev s_is_deed : Stmt := top 30
abbrev N_is_deed : List Str := [(Str.ofString "forest"), (Str.ofString "thing")]
abbrev s_is_listed : Stmt := top 11
abbrev N_is_listed : List Str := [(Str.ofString "thing")]
abbrev s_led : Stmt := top 35
abbrev N_led : List Str := [(Str.ofString "forest"), (Str.ofString "deeds"), (Str.ofString "here"), (Str.ofString "index"), (Str.ofString "deed")]
abbrev s__law_led_told : Stmt := top 59
abbrev N__law_led_told : List Str := [(Str.ofString "_law_forest"), (Str.ofString "_law_deeds"), (Str.ofString "error"), (Str.ofString "_law_found")]
abbrev s__law_take : Stmt := top 38
abbrev N__law_take : List Str := [(Str.ofString "_law_hand_here"), (Str.ofString "_law_size"), (Str.ofString "_law_number"), (Str.ofString "_law_cell"), (Str.ofString "_law_found")]
abbrev s__law_pick : Stmt := top 39
abbrev N__law_pick : List Str := [(Str.ofString "_law_hand_here"), (Str.ofString "_law_things")]
abbrev s__law_parents : Stmt := top 45
abbrev N__law_parents : List Str := [(Str.ofString "_law_hand_here"), (Str.ofString "_law_size"), (Str.ofString "_law_order"), (Str.ofString "_law_k"), (Str.ofString "_law_found"), (Str.ofString "_law_shape"), (Str.ofString "_law_at")]
abbrev s__law_value : Stmt := top 44
abbrev N__law_value : List Str := [(Str.ofString "_law_hand_here")]
abbrev s__law_plain : Stmt := top 46
abbrev N__law_plain : List Str := [(Str.ofString "_law_hand_here"), (Str.ofString "_law_sizes"), (Str.ofString "_law_size"), (Str.ofString "_law_k")]
abbrev s__law_same : Stmt := top 42
abbrev N__law_same : List Str := [(Str.ofString "_law_actual"), (Str.ofString "_law_due"), (Str.ofString "_law_one"), (Str.ofString "_law_other")]
abbrev s__law_odd : Stmt := top 43
abbrev N__law_odd : List Str := [(Str.ofString "_law_hand_here"), (Str.ofString "_law_turn")]
abbrev s__law_bent : Stmt := top 57
abbrev N__law_bent : List Str := [(Str.ofString "_law_hand_here"), (Str.ofString "_law_thing"), (Str.ofString "_law_turn"), (Str.ofString "_law_at"), (Str.ofString "_law_menu")]
abbrev s__law_deed : Stmt := top 56
abbrev N__law_deed : List Str := [(Str.ofString "_law_hand_here"), (Str.ofString "_law_plain_here"), (Str.ofString "_law_parents_here"), (Str.ofString "_law_size"), (Str.ofString "_law_house"), (Str.ofString "_law_other"), (Str.ofString "_law_turn"), (Str.ofString "_law_base")]
abbrev s__law_some : Stmt := top 60
abbrev N__law_some : List Str := [(Str.ofString "_law_hand_here"), (Str.ofString "_law_plain_here"), (Str.ofString "_law_many"), (Str.ofString "_law_deed_here"), (Str.ofString "_law_turn"), (Str.ofString "_law_one"), (Str.ofString "_law_other")]
abbrev s_behind : Stmt := top 34
abbrev N_behind : List Str := [(Str.ofString "forest"), (Str.ofString "deed")]
abbrev s__law_told : Stmt := top 58
abbrev N__law_told : List Str := [(Str.ofString "_law_forest"), (Str.ofString "_law_thing"), (Str.ofString "_law_found")]
abbrev s_law : Stmt := top 61
abbrev N_law : List Str := [(Str.ofString "_law_script"), (Str.ofString "_law_hand_here"), (Str.ofString "_law_plain_here"), (Str.ofString "_law_forest"), (Str.ofString "_law_begin"), (Str.ofString "_law_first"), (Str.ofString "_law_deeds"), (Str.ofString "_law_k"), (Str.ofString "_law_due"), (Str.ofString "_law_at"), (Str.ofString "_law_half"), (Str.ofString "_law_deed_here"), (Str.ofString "_law_odd_here"), (Str.ofString "_law_thing"), (Str.ofString "_law_can_here"), (Str.ofString "_law_here")]
abbrev s_BadDeeds___init__ : Stmt := inClass (top 4) 0
abbrev N_BadDeeds___init__ : List Str := [(Str.ofString "self"), (Str.ofString "index")]
def EXM : List (Str × Str × Bool) := [((Str.ofString "NoDeed"), (Str.ofString "NoDeed"), true), ((Str.ofString "BadDeeds"), (Str.ofString "BadDeeds"), true)]
structure Tx (w : World) (K : PySem.W.Frag) (mg : Str → Option Value) : Prop where
  f_isinstance : mg (Str.ofString "isinstance") = none
  f_int : mg (Str.ofString "int") = none
  isf : IsF K OC
  f_bool : mg (Str.ofString "bool") = none
  g_is_integer : mg (Str.ofString "is_integer") = some (.ref (ga K (Str.ofString "is_integer")))
  g_is_within : mg (Str.ofString "is_within") = some (.ref (ga K (Str.ofString "is_within")))
  f_tuple : mg (Str.ofString "tuple") = none
  f_len : mg (Str.ofString "len") = none
  f_list : mg (Str.ofString "list") = none
  f_range : mg (Str.ofString "range") = none
  i_MOST_HOUSES : ∃ t, mg (Str.ofString "MOST_HOUSES") = some (.int 64 t)
  g_is_sized : mg (Str.ofString "is_sized") = some (.ref (ga K (Str.ofString "is_sized")))
  g_is_below : mg (Str.ofString "is_below") = some (.ref (ga K (Str.ofString "is_below")))
  f_all : mg (Str.ofString "all") = none
  g_comes_to_none : mg (Str.ofString "comes_to_none") = some (.ref (ga K (Str.ofString "comes_to_none")))
  g_are_parents : mg (Str.ofString "are_parents") = some (.ref (ga K (Str.ofString "are_parents")))
  c_Forest : Cls K (ga K (Str.ofString "Forest"))
  n_Forest_parents : NoAttr K (ga K (Str.ofString "Forest")) (Str.ofString "parents")
  n_Forest_worths : NoAttr K (ga K (Str.ofString "Forest")) (Str.ofString "worths")
  g_up_from : mg (Str.ofString "up_from") = some (.ref (ga K (Str.ofString "up_from")))
  f_dict : mg (Str.ofString "dict") = none
  g_common_of : mg (Str.ofString "common_of") = some (.ref (ga K (Str.ofString "common_of")))
  f_str : mg (Str.ofString "str") = none
  g_SIZES : mg (Str.ofString "SIZES") = some (.ref (ga K (Str.ofString "SIZES")))
  tb_SIZES : TabF K w (ga K (Str.ofString "SIZES")) [((Str.ofString "link"), 3), ((Str.ofString "cut"), 2), ((Str.ofString "turn"), 2), ((Str.ofString "put"), 3), ((Str.ofString "add"), 4)]
  g_HOUSES : mg (Str.ofString "HOUSES") = some (.ref (ga K (Str.ofString "HOUSES")))
  tb_HOUSES : TabF K w (ga K (Str.ofString "HOUSES")) [((Str.ofString "link"), 2), ((Str.ofString "cut"), 1), ((Str.ofString "turn"), 1), ((Str.ofString "put"), 1), ((Str.ofString "add"), 2)]
  s_LINK : ∃ t, mg (Str.ofString "LINK") = some (.str (Str.ofString "link") t)
  s_CUT : ∃ t, mg (Str.ofString "CUT") = some (.str (Str.ofString "cut") t)
  s_ADD : ∃ t, mg (Str.ofString "ADD") = some (.str (Str.ofString "add") t)
  g_has_form : mg (Str.ofString "has_form") = some (.ref (ga K (Str.ofString "has_form")))
  g_is_possible : mg (Str.ofString "is_possible") = some (.ref (ga K (Str.ofString "is_possible")))
  f_zip : mg (Str.ofString "zip") = none
  g_way_of : mg (Str.ofString "way_of") = some (.ref (ga K (Str.ofString "way_of")))
  f_enumerate : mg (Str.ofString "enumerate") = none
  g_replaced : mg (Str.ofString "replaced") = some (.ref (ga K (Str.ofString "replaced")))
  g_Forest : mg (Str.ofString "Forest") = some (.ref (ga K (Str.ofString "Forest")))
  m_Forest : Mk K (ga K (Str.ofString "Forest")) (He.ma K (ga K (Str.ofString "Forest")) "__init__")
  s_TURN : ∃ t, mg (Str.ofString "TURN") = some (.str (Str.ofString "turn") t)
  g_turned_parents : mg (Str.ofString "turned_parents") = some (.ref (ga K (Str.ofString "turned_parents")))
  s_PUT : ∃ t, mg (Str.ofString "PUT") = some (.str (Str.ofString "put") t)
  g_added_values : mg (Str.ofString "added_values") = some (.ref (ga K (Str.ofString "added_values")))
  g_is_deed : mg (Str.ofString "is_deed") = some (.ref (ga K (Str.ofString "is_deed")))
  x_NoDeed : ExcF K (Str.ofString "NoDeed")
  g_NoDeed : mg (Str.ofString "NoDeed") = some (.ref (ga K (Str.ofString "NoDeed")))
  g_after_deed : mg (Str.ofString "after_deed") = some (.ref (ga K (Str.ofString "after_deed")))
  g_is_listed : mg (Str.ofString "is_listed") = some (.ref (ga K (Str.ofString "is_listed")))
  xf_BadDeeds : ExfF K (Str.ofString "BadDeeds") (Str.ofString "index")
  g_BadDeeds : mg (Str.ofString "BadDeeds") = some (.ref (ga K (Str.ofString "BadDeeds")))
  g__law_take : mg (Str.ofString "_law_take") = some (.ref (ga K (Str.ofString "_law_take")))
  g__law_is_integer : mg (Str.ofString "_law_is_integer") = some (.ref (ga K (Str.ofString "_law_is_integer")))
  g__law_same : mg (Str.ofString "_law_same") = some (.ref (ga K (Str.ofString "_law_same")))
  g__law_pick : mg (Str.ofString "_law_pick") = some (.ref (ga K (Str.ofString "_law_pick")))
  f_max : mg (Str.ofString "max") = none
  g__law_value : mg (Str.ofString "_law_value") = some (.ref (ga K (Str.ofString "_law_value")))
  g__law_parents : mg (Str.ofString "_law_parents") = some (.ref (ga K (Str.ofString "_law_parents")))
  g__law_up : mg (Str.ofString "_law_up") = some (.ref (ga K (Str.ofString "_law_up")))
  g__law_common : mg (Str.ofString "_law_common") = some (.ref (ga K (Str.ofString "_law_common")))
  g__law_is_within : mg (Str.ofString "_law_is_within") = some (.ref (ga K (Str.ofString "_law_is_within")))
  g__law_are_houses : mg (Str.ofString "_law_are_houses") = some (.ref (ga K (Str.ofString "_law_are_houses")))
  g__law_deed_form : mg (Str.ofString "_law_deed_form") = some (.ref (ga K (Str.ofString "_law_deed_form")))
  g__law_root : mg (Str.ofString "_law_root") = some (.ref (ga K (Str.ofString "_law_root")))
  g__law_way : mg (Str.ofString "_law_way") = some (.ref (ga K (Str.ofString "_law_way")))
  g__law_odd : mg (Str.ofString "_law_odd") = some (.ref (ga K (Str.ofString "_law_odd")))
  g_behind : mg (Str.ofString "behind") = some (.ref (ga K (Str.ofString "behind")))
  exm : ExmF K (exmOf EXM)
  g_led : mg (Str.ofString "led") = some (.ref (ga K (Str.ofString "led")))
  g__law_deed : mg (Str.ofString "_law_deed") = some (.ref (ga K (Str.ofString "_law_deed")))
  g__law_bent : mg (Str.ofString "_law_bent") = some (.ref (ga K (Str.ofString "_law_bent")))
  g__law_hand : mg (Str.ofString "_law_hand") = some (.ref (ga K (Str.ofString "_law_hand")))
  g__law_plain : mg (Str.ofString "_law_plain") = some (.ref (ga K (Str.ofString "_law_plain")))
  g__law_forest_of : mg (Str.ofString "_law_forest_of") = some (.ref (ga K (Str.ofString "_law_forest_of")))
  g__law_some : mg (Str.ofString "_law_some") = some (.ref (ga K (Str.ofString "_law_some")))
  g__law_can : mg (Str.ofString "_law_can") = some (.ref (ga K (Str.ofString "_law_can")))
  g__law_behind : mg (Str.ofString "_law_behind") = some (.ref (ga K (Str.ofString "_law_behind")))
  g__law_told : mg (Str.ofString "_law_told") = some (.ref (ga K (Str.ofString "_law_told")))
  g__law_led_told : mg (Str.ofString "_law_led_told") = some (.ref (ga K (Str.ofString "_law_led_told")))
  g_law : mg (Str.ofString "law") = some (.ref (ga K (Str.ofString "law")))
  d__law_up : ∃ fd, FunD K (Str.ofString "_law_up") (Str.ofString "_law_up") (defArgs s__law_up) (defBody s__law_up) (defScope s__law_up) [] [] (He.fAd K ((Str.ofString "_law_up"), none)) fd
  d__law_common : ∃ fd, FunD K (Str.ofString "_law_common") (Str.ofString "_law_common") (defArgs s__law_common) (defBody s__law_common) (defScope s__law_common) [] [] (He.fAd K ((Str.ofString "_law_common"), none)) fd
  d__law_way : ∃ fd, FunD K (Str.ofString "_law_way") (Str.ofString "_law_way") (defArgs s__law_way) (defBody s__law_way) (defScope s__law_way) [] [] (He.fAd K ((Str.ofString "_law_way"), none)) fd
  d__law_behind : ∃ fd, FunD K (Str.ofString "_law_behind") (Str.ofString "_law_behind") (defArgs s__law_behind) (defBody s__law_behind) (defScope s__law_behind) [] [] (He.fAd K ((Str.ofString "_law_behind"), none)) fd
  d__law_is_integer : ∃ fd, FunD K (Str.ofString "_law_is_integer") (Str.ofString "_law_is_integer") (defArgs s__law_is_integer) (defBody s__law_is_integer) (defScope s__law_is_integer) [] [] (He.fAd K ((Str.ofString "_law_is_integer"), none)) fd
  d__law_is_within : ∃ fd, FunD K (Str.ofString "_law_is_within") (Str.ofString "_law_is_within") (defArgs s__law_is_within) (defBody s__law_is_within) (defScope s__law_is_within) [] [] (He.fAd K ((Str.ofString "_law_is_within"), none)) fd
  d__law_are_houses : ∃ fd, FunD K (Str.ofString "_law_are_houses") (Str.ofString "_law_are_houses") (defArgs s__law_are_houses) (defBody s__law_are_houses) (defScope s__law_are_houses) [] [] (He.fAd K ((Str.ofString "_law_are_houses"), none)) fd
  d__law_deed_form : ∃ fd, FunD K (Str.ofString "_law_deed_form") (Str.ofString "_law_deed_form") (defArgs s__law_deed_form) (defBody s__law_deed_form) (defScope s__law_deed_form) [] [] (He.fAd K ((Str.ofString "_law_deed_form"), none)) fd
  d__law_root : ∃ fd, FunD K (Str.ofString "_law_root") (Str.ofString "_law_root") (defArgs s__law_root) (defBody s__law_root) (defScope s__law_root) [] [] (He.fAd K ((Str.ofString "_law_root"), none)) fd
  d__law_can : ∃ fd, FunD K (Str.ofString "_law_can") (Str.ofString "_law_can") (defArgs s__law_can) (defBody s__law_can) (defScope s__law_can) [] [] (He.fAd K ((Str.ofString "_law_can"), none)) fd
  d_comes_to_none : ∃ fd, FunD K (Str.ofString "comes_to_none") (Str.ofString "comes_to_none") (defArgs s_comes_to_none) (defBody s_comes_to_none) (defScope s_comes_to_none) [] [] (He.fAd K ((Str.ofString "comes_to_none"), none)) fd
  d_is_integer : ∃ fd, FunD K (Str.ofString "is_integer") (Str.ofString "is_integer") (defArgs s_is_integer) (defBody s_is_integer) (defScope s_is_integer) [] [] (He.fAd K ((Str.ofString "is_integer"), none)) fd
  d_is_within : ∃ fd, FunD K (Str.ofString "is_within") (Str.ofString "is_within") (defArgs s_is_within) (defBody s_is_within) (defScope s_is_within) [] [] (He.fAd K ((Str.ofString "is_within"), none)) fd
  d_is_below : ∃ fd, FunD K (Str.ofString "is_below") (Str.ofString "is_below") (defArgs s_is_below) (defBody s_is_below) (defScope s_is_below) [] [] (He.fAd K ((Str.ofString "is_below"), none)) fd
  d_is_sized : ∃ fd, FunD K (Str.ofString "is_sized") (Str.ofString "is_sized") (defArgs s_is_sized) (defBody s_is_sized) (defScope s_is_sized) [] [] (He.fAd K ((Str.ofString "is_sized"), none)) fd
  d_are_parents : ∃ fd, FunD K (Str.ofString "are_parents") (Str.ofString "are_parents") (defArgs s_are_parents) (defBody s_are_parents) (defScope s_are_parents) [] [] (He.fAd K ((Str.ofString "are_parents"), none)) fd
  d_Forest___init__ : ∃ fd, FunD K (Str.ofString "__init__") (Str.ofString "Forest.__init__") (defArgs s_Forest___init__) (defBody s_Forest___init__) (defScope s_Forest___init__) [] [] (He.fAd K ((Str.ofString "Forest"), some (Str.ofString "__init__"))) fd
  d__law_forest_of : ∃ fd, FunD K (Str.ofString "_law_forest_of") (Str.ofString "_law_forest_of") (defArgs s__law_forest_of) (defBody s__law_forest_of) (defScope s__law_forest_of) [] [] (He.fAd K ((Str.ofString "_law_forest_of"), none)) fd
  d__law_hand : ∃ fd, FunD K (Str.ofString "_law_hand") (Str.ofString "_law_hand") (defArgs s__law_hand) (defBody s__law_hand) (defScope s__law_hand) [] [] (He.fAd K ((Str.ofString "_law_hand"), none)) fd
  d_up_from : ∃ fd, FunD K (Str.ofString "up_from") (Str.ofString "up_from") (defArgs s_up_from) (defBody s_up_from) (defScope s_up_from) [] [] (He.fAd K ((Str.ofString "up_from"), none)) fd
  d_common_of : ∃ fd, FunD K (Str.ofString "common_of") (Str.ofString "common_of") (defArgs s_common_of) (defBody s_common_of) (defScope s_common_of) [] [] (He.fAd K ((Str.ofString "common_of"), none)) fd
  d_way_of : ∃ fd, FunD K (Str.ofString "way_of") (Str.ofString "way_of") (defArgs s_way_of) (defBody s_way_of) (defScope s_way_of) [] [] (He.fAd K ((Str.ofString "way_of"), none)) fd
  d_added_values : ∃ fd, FunD K (Str.ofString "added_values") (Str.ofString "added_values") (defArgs s_added_values) (defBody s_added_values) (defScope s_added_values) [] [] (He.fAd K ((Str.ofString "added_values"), none)) fd
  d_replaced : ∃ fd, FunD K (Str.ofString "replaced") (Str.ofString "replaced") (defArgs s_replaced) (defBody s_replaced) (defScope s_replaced) [] [] (He.fAd K ((Str.ofString "replaced"), none)) fd
  d_turned_parents : ∃ fd, FunD K (Str.ofString "turned_parents") (Str.ofString "turned_parents") (defArgs s_turned_parents) (defBody s_turned_parents) (defScope s_turned_parents) [] [] (He.fAd K ((Str.ofString "turned_parents"), none)) fd
  d_after_deed : ∃ fd, FunD K (Str.ofString "after_deed") (Str.ofString "after_deed") (defArgs s_after_deed) (defBody s_after_deed) (defScope s_after_deed) [] [] (He.fAd K ((Str.ofString "after_deed"), none)) fd
  d_has_form : ∃ fd, FunD K (Str.ofString "has_form") (Str.ofString "has_form") (defArgs s_has_form) (defBody s_has_form) (defScope s_has_form) [] [] (He.fAd K ((Str.ofString "has_form"), none)) fd
  d_is_possible : ∃ fd, FunD K (Str.ofString "is_possible") (Str.ofString "is_possible") (defArgs s_is_possible) (defBody s_is_possible) (defScope s_is_possible) [] [] (He.fAd K ((Str.ofString "is_possible"), none)) fd
  d_is_deed : ∃ fd, FunD K (Str.ofString "is_deed") (Str.ofString "is_deed") (defArgs s_is_deed) (defBody s_is_deed) (defScope s_is_deed) [] [] (He.fAd K ((Str.ofString "is_deed"), none)) fd
  d_is_listed : ∃ fd, FunD K (Str.ofString "is_listed") (Str.ofString "is_listed") (defArgs s_is_listed) (defBody s_is_listed) (defScope s_is_listed) [] [] (He.fAd K ((Str.ofString "is_listed"), none)) fd
  d_led : ∃ fd, FunD K (Str.ofString "led") (Str.ofString "led") (defArgs s_led) (defBody s_led) (defScope s_led) [] [] (He.fAd K ((Str.ofString "led"), none)) fd
  d__law_led_told : ∃ fd, FunD K (Str.ofString "_law_led_told") (Str.ofString "_law_led_told") (defArgs s__law_led_told) (defBody s__law_led_told) (defScope s__law_led_told) [] [] (He.fAd K ((Str.ofString "_law_led_told"), none)) fd
  d__law_take : ∃ fd, FunD K (Str.ofString "_law_take") (Str.ofString "_law_take") (defArgs s__law_take) (defBody s__law_take) (defScope s__law_take) [] [] (He.fAd K ((Str.ofString "_law_take"), none)) fd
  d__law_pick : ∃ fd, FunD K (Str.ofString "_law_pick") (Str.ofString "_law_pick") (defArgs s__law_pick) (defBody s__law_pick) (defScope s__law_pick) [] [] (He.fAd K ((Str.ofString "_law_pick"), none)) fd
  d__law_parents : ∃ fd, FunD K (Str.ofString "_law_parents") (Str.ofString "_law_parents") (defArgs s__law_parents) (defBody s__law_parents) (defScope s__law_parents) [] [] (He.fAd K ((Str.ofString "_law_parents"), none)) fd
  d__law_value : ∃ fd, FunD K (Str.ofString "_law_value") (Str.ofString "_law_value") (defArgs s__law_value) (defBody s__law_value) (defScope s__law_value) [] [] (He.fAd K ((Str.ofString "_law_value"), none)) fd
  d__law_plain : ∃ fd, FunD K (Str.ofString "_law_plain") (Str.ofString "_law_plain") (defArgs s__law_plain) (defBody s__law_plain) (defScope s__law_plain) [] [] (He.fAd K ((Str.ofString "_law_plain"), none)) fd
  d__law_same : ∃ fd, FunD K (Str.ofString "_law_same") (Str.ofString "_law_same") (defArgs s__law_same) (defBody s__law_same) (defScope s__law_same) [] [] (He.fAd K ((Str.ofString "_law_same"), none)) fd
  d__law_odd : ∃ fd, FunD K (Str.ofString "_law_odd") (Str.ofString "_law_odd") (defArgs s__law_odd) (defBody s__law_odd) (defScope s__law_odd) [] [] (He.fAd K ((Str.ofString "_law_odd"), none)) fd
  d__law_bent : ∃ fd, FunD K (Str.ofString "_law_bent") (Str.ofString "_law_bent") (defArgs s__law_bent) (defBody s__law_bent) (defScope s__law_bent) [] [] (He.fAd K ((Str.ofString "_law_bent"), none)) fd
  d__law_deed : ∃ fd, FunD K (Str.ofString "_law_deed") (Str.ofString "_law_deed") (defArgs s__law_deed) (defBody s__law_deed) (defScope s__law_deed) [] [] (He.fAd K ((Str.ofString "_law_deed"), none)) fd
  d__law_some : ∃ fd, FunD K (Str.ofString "_law_some") (Str.ofString "_law_some") (defArgs s__law_some) (defBody s__law_some) (defScope s__law_some) [] [] (He.fAd K ((Str.ofString "_law_some"), none)) fd
  d_behind : ∃ fd, FunD K (Str.ofString "behind") (Str.ofString "behind") (defArgs s_behind) (defBody s_behind) (defScope s_behind) [] [] (He.fAd K ((Str.ofString "behind"), none)) fd
  d__law_told : ∃ fd, FunD K (Str.ofString "_law_told") (Str.ofString "_law_told") (defArgs s__law_told) (defBody s__law_told) (defScope s__law_told) [] [] (He.fAd K ((Str.ofString "_law_told"), none)) fd
  d_law : ∃ fd, FunD K (Str.ofString "law") (Str.ofString "law") (defArgs s_law) (defBody s_law) (defScope s_law) [] [] (He.fAd K ((Str.ofString "law"), none)) fd
  d_BadDeeds___init__ : ∃ fd, FunD K (Str.ofString "__init__") (Str.ofString "BadDeeds.__init__") (defArgs s_BadDeeds___init__) (defBody s_BadDeeds___init__) (defScope s_BadDeeds___init__) [] [] (He.fAd K ((Str.ofString "BadDeeds"), some (Str.ofString "__init__"))) fd
/-! ### the plain part -/

def hnd (cs : List D) (i c s t : Int) : GO := .lst [.fl cs, .int i, .int c, .int s, .int t]
structure HOk (cs : List D) (i c : Int) : Prop where
  nums : ∀ x ∈ cs, ∃ n : Int, x = .int n
  i0 : 0 ≤ i
  c0 : 0 ≤ c
theorem snext_eq {D : Ends3} {σ : St3} {G : Gp} (h : D.nx σ G) : snext D σ G := h
theorem nof {P : Prop} (h : false = true) : P := by cases h
theorem iteT {A B : Prop} (h : A) : if true = true then A else B := h
theorem iteF {A B : Prop} (h : B) : if false = true then A else B := h
def isI : D → Bool
  | .int _ => true
  | _ => false
theorem isI_eq (x : D) : (isiD .int x && !isiD .bl x) = isI x := by cases x <;> rfl
theorem isI_of {x : D} (h : isI x = true) : ∃ i, x = .int i := by cases x <;> first | exact ⟨_, rfl⟩ | cases h
theorem isT_of {x : D} (h : isiD .tup x = true) : ∃ xs, x = .tup xs := by cases x <;> first | exact ⟨_, rfl⟩ | (simp [isiD] at h)
def wiI (a b : Int) : D → Bool
  | .int i => decide (a ≤ i) && decide (i ≤ b)
  | _ => false
def nuI : D → Bool
  | .int i => decide (0 ≤ i)
  | _ => false
def siI (a b : Int) : D → Bool
  | .tup xs => decide (a ≤ (xs.length : Int)) && decide ((xs.length : Int) ≤ b)
  | _ => false

/-! ### forests -/
def pl : Option Nat → D
  | none => .non
  | some i => .int i
def okp (n : Nat) (o : Option Nat) : Prop := ∀ i, o = some i → i < n
theorem pl_inj {o p : Option Nat} (h : pl o = pl p) : o = p := by
  cases o <;> cases p <;> simp [pl] at h ⊢; omega
theorem kp (o : Option Nat) : kn OC (pl o) = true := by cases o <;> rfl
theorem pl_isN {o : Option Nat} : isN (pl o) = true ↔ o = none := by cases o <;> simp [pl, isN]
def wkr : D → Bool
  | .tup xs => xs.all (kn OC)
  | x => kn OC x
theorem wkr_kn {x : D} (h : wkr x = true) : kn OC x = true := by cases x <;> first | rfl | exact h
/-- a place: None, or a number below n -/
def plB (n : Int) : D → Bool
  | .non => true
  | x => wiI 0 (n - 1) x
theorem plB_ok {n : Nat} {x : D} : plB n x = true ↔ ∃ o, x = pl o ∧ okp n o := by
  constructor
  · intro h
    cases x with
    | non => exact ⟨none, rfl, fun i e => by cases e⟩
    | int i =>
      have h : (decide (0 ≤ i) && decide (i ≤ (n : Int) - 1)) = true := h
      rw [Bool.and_eq_true, decide_eq_true_eq, decide_eq_true_eq] at h
      refine ⟨some i.toNat, ?_, fun j e => ?_⟩
      · show D.int i = D.int (i.toNat : Int)
        rw [Int.toNat_of_nonneg h.1]
      · cases e; omega
    | _ => cases h
  · rintro ⟨o, rfl, h⟩
    cases o with
    | none => rfl
    | some i =>
      have := h i rfl
      show (decide ((0 : Int) ≤ (i : Int)) && decide ((i : Int) ≤ (n : Int) - 1)) = true
      rw [Bool.and_eq_true, decide_eq_true_eq, decide_eq_true_eq]; omega
theorem siI_of {a b : Int} {x : D} (h : siI a b x = true) : ∃ xs, x = .tup xs ∧ a ≤ xs.length ∧ (xs.length : Int) ≤ b := by
  cases x with
  | tup xs =>
    have h : (decide (a ≤ (xs.length : Int)) && decide ((xs.length : Int) ≤ b)) = true := h
    rw [Bool.and_eq_true, decide_eq_true_eq, decide_eq_true_eq] at h
    exact ⟨xs, rfl, h.1, h.2⟩
  | _ => cases h
theorem siI_tup {a b : Int} {xs : List D} : siI a b (.tup xs) = true ↔ a ≤ xs.length ∧ (xs.length : Int) ≤ b := by
  show (decide (a ≤ (xs.length : Int)) && decide ((xs.length : Int) ≤ b)) = true ↔ _
  rw [Bool.and_eq_true, decide_eq_true_eq, decide_eq_true_eq]
def pD (ps : List (Option Nat)) : D := .tup (ps.map pl)
def wD (ws : List Int) : D := .tup (ws.map D.int)
/-- going up from h comes to a root within k looks -/
def goP (ps : List (Option Nat)) : Nat → Nat → Bool
  | 0, _ => false
  | k + 1, h => match ps[h]? with
    | some (some p) => goP ps k p
    | some none => true
    | none => false
theorem goP_succ {ps : List (Option Nat)} {k h : Nat} {o : Option Nat} (e : ps[h]? = some o) : goP ps (k + 1) h = o.elim true (goP ps k) := by
  cases o <;> simp [goP, e]
structure ParR (ps : List (Option Nat)) : Prop where
  n1 : 1 ≤ ps.length
  n64 : ps.length ≤ 64
  ok : ∀ o ∈ ps, okp ps.length o
  go : ∀ h, h < ps.length → goP ps ps.length h = true
def ParP (x : D) : Prop := ∃ ps, x = pD ps ∧ ParR ps
def WorP (n : Nat) (y : D) : Prop := ∃ ws : List Int, y = wD ws ∧ ws.length = n
theorem pls_inj : ∀ {ps qs : List (Option Nat)}, ps.map pl = qs.map pl → ps = qs
  | [], [], _ => rfl
  | [], _ :: _, h => by simp at h
  | _ :: _, [], h => by simp at h
  | r :: rs, q :: qs, h => by
    simp only [List.map_cons, List.cons.injEq] at h
    rw [pl_inj h.1, pls_inj h.2]
theorem par_pls {ps : List (Option Nat)} : ParP (.tup (ps.map pl)) ↔ ParR ps := by
  constructor
  · rintro ⟨qs, e, h⟩
    injection e with e
    rw [pls_inj e]; exact h
  · exact fun h => ⟨ps, rfl, h⟩
theorem pls_all : ∀ {n : Nat} {xs : List D}, (∀ x ∈ xs, plB n x = true) → ∃ ps : List (Option Nat), xs = ps.map pl ∧ ∀ o ∈ ps, okp n o
  | _, [], _ => ⟨[], rfl, by simp⟩
  | n, x :: xs, h => by
    obtain ⟨o, e, ok⟩ := plB_ok.mp (h x (by simp))
    obtain ⟨ps, e2, ok2⟩ := pls_all (n := n) (xs := xs) fun y hy => h y (by simp [hy])
    refine ⟨o :: ps, by rw [e, e2]; rfl, fun q hq => ?_⟩
    rcases List.mem_cons.mp hq with rfl | hq
    · exact ok
    · exact ok2 q hq
theorem ints_all : ∀ {xs : List D}, (∀ x ∈ xs, isI x = true) → ∃ ws : List Int, xs = ws.map D.int
  | [], _ => ⟨[], rfl⟩
  | x :: xs, h => by
    obtain ⟨i, e⟩ := isI_of (h x (by simp))
    obtain ⟨ws, e2⟩ := ints_all (xs := xs) fun y hy => h y (by simp [hy])
    exact ⟨i :: ws, by rw [e, e2]; rfl⟩
theorem wors_inj : ∀ {ps qs : List Int}, ps.map D.int = qs.map D.int → ps = qs
  | [], [], _ => rfl
  | [], _ :: _, h => by simp at h
  | _ :: _, [], h => by simp at h
  | r :: rs, q :: qs, h => by
    simp only [List.map_cons, List.cons.injEq, D.int.injEq] at h
    rw [h.1, wors_inj h.2]
theorem at_pl {ps : List (Option Nat)} {h : Nat} {o : Option Nat} (e : ps[h]? = some o) : atI (ps.map pl) (h : Int) = some (pl o) := at_get (by omega) (by simp [e])
theorem eqD_pls : ∀ (ps qs : List (Option Nat)), eqL (ps.map pl) (qs.map pl) = decide (ps = qs)
  | [], [] => rfl
  | [], _ :: _ => rfl
  | _ :: _, [] => rfl
  | r :: rs, q :: qs => by
    have e : eqD (pl r) (pl q) = decide (r = q) := by
      cases r <;> cases q <;> simp [pl, eqD]
      rw [Bool.eq_iff_iff]; simp; omega
    simp only [List.map_cons, eqL, e, eqD_pls rs qs]
    rw [Bool.eq_iff_iff]; simp
theorem eqD_ws : ∀ (ps qs : List Int), eqL (ps.map D.int) (qs.map D.int) = decide (ps = qs)
  | [], [] => rfl
  | [], _ :: _ => rfl
  | _ :: _, [] => rfl
  | r :: rs, q :: qs => by
    simp only [List.map_cons, eqL, eqD, eqD_ws rs qs]
    rw [Bool.eq_iff_iff]; simp
theorem shL_all : ∀ {n : Nat} {xs : List D}, (∀ x ∈ xs, sh n x = true) → shL n xs = true
  | _, [], _ => rfl
  | n, x :: xs, h => by
    have h1 := h x (by simp)
    have h2 := shL_all (n := n) (xs := xs) fun y hy => h y (by simp [hy])
    simp [shL, h1, h2]
theorem sh_pl (n : Nat) (ps : List (Option Nat)) : shL n (ps.map pl) = true := shL_all fun x hx => by
  obtain ⟨o, _, rfl⟩ := List.mem_map.mp hx
  cases o <;> cases n <;> rfl
theorem sh_ws (n : Nat) (ws : List Int) : shL n (ws.map D.int) = true := shL_all fun x hx => by
  obtain ⟨o, _, rfl⟩ := List.mem_map.mp hx
  cases n <;> rfl
theorem sh_pair (ps : List (Option Nat)) (ws : List Int) : sh 64 (.tup [pD ps, wD ws]) = true := by
  simp [sh, shL, pD, wD, sh_pl, sh_ws]
theorem eq_pair (ps qs : List (Option Nat)) (ws vs : List Int) : eqD (.tup [pD ps, wD ws]) (.tup [pD qs, wD vs]) = decide (ps = qs ∧ ws = vs) := by
  simp only [eqD, eqL, pD, wD, eqD_pls, eqD_ws]
  rw [Bool.eq_iff_iff]; simp
/-- a forest object -/
def fo (ps : List (Option Nat)) (ws : List Int) : D := .ob (Str.ofString "Forest") [Str.ofString "parents", Str.ofString "worths"] [pD ps, wD ws]
theorem oc : OC.contains (Str.ofString "Forest") = true := by decide +kernel
theorem nep : ¬ ((Str.ofString "worths") = (Str.ofString "parents")) := by decide +kernel
theorem bp : ((Str.ofString "worths") == (Str.ofString "parents")) = false := by decide +kernel
theorem bp2 : ((Str.ofString "parents") == (Str.ofString "parents")) = true := by decide +kernel
theorem bp3 : ((Str.ofString "worths") == (Str.ofString "worths")) = true := by decide +kernel
theorem fo_p {G : Gp} {ps ws} : fldD (Str.ofString "Forest") (Str.ofString "parents") G (fo ps ws) = some (pD ps) := by
  unfold fldD fo; simp [List.lookup_cons]
theorem fo_w {G : Gp} {ps ws} : fldD (Str.ofString "Forest") (Str.ofString "worths") G (fo ps ws) = some (wD ws) := by
  unfold fldD fo; simp [List.lookup_cons, bp]

/-- plain data, at most n deep -/
def pln : Nat → D → Bool
  | 0, _ => false
  | _ + 1, .non => true
  | _ + 1, .bl _ => true
  | _ + 1, .int _ => true
  | _ + 1, .str _ => true
  | n + 1, .tup xs => xs.all (pln n)
  | _ + 1, _ => false

/-! ### going up, as the law goes -/
def upP (ps : List (Option Nat)) : Nat → Nat → List Nat
  | 0, h => [h]
  | k + 1, h => h :: (match ps[h]? with
    | some (some p) => upP ps k p
    | _ => [])
def stepP (ps : List (Option Nat)) (h : Nat) : Option Nat := match ps[h]? with
  | some o => o
  | none => none
/-- where one stands at the end -/
def topP (ps : List (Option Nat)) : Nat → Nat → Nat
  | 0, h => h
  | k + 1, h => match stepP ps h with
    | some p => topP ps k p
    | none => h
theorem upP_ne (ps : List (Option Nat)) : ∀ k h, upP ps k h ≠ []
  | 0, _ => by simp [upP]
  | _ + 1, _ => by simp [upP]
theorem upP_in (ps : List (Option Nat)) : ∀ k h, h ∈ upP ps k h
  | 0, _ => by simp [upP]
  | _ + 1, _ => by simp [upP]
theorem upP_len (ps : List (Option Nat)) : ∀ k h, (upP ps k h).length ≤ k + 1
  | 0, _ => by simp [upP]
  | k + 1, h => by
    unfold upP
    cases e : ps[h]? with
    | none => simp
    | some o =>
      cases o with
      | none => simp
      | some p => have := upP_len ps k p; simp; omega
theorem upP_top (ps : List (Option Nat)) : ∀ k h, (upP ps k h).getLast? = some (topP ps k h)
  | 0, _ => by simp [upP, topP]
  | k + 1, h => by
    unfold upP topP stepP
    cases e : ps[h]? with
    | none => simp
    | some o =>
      cases o with
      | none => simp
      | some p =>
        have := upP_top ps k p
        simp only [List.getLast?_cons, this]
        simp
theorem topP_lt {ps : List (Option Nat)} (ok : ∀ o ∈ ps, okp ps.length o) : ∀ k h, h < ps.length → topP ps k h < ps.length
  | 0, _, hl => hl
  | k + 1, h, hl => by
    unfold topP stepP
    have e : ps[h]? = some ps[h] := by simp [hl]
    rw [e]
    cases z : ps[h] with
    | none => exact hl
    | some p => exact topP_lt ok k p (ok ps[h] (by simp) p z)
/-- pigeons -/
theorem pigeon : ∀ (n : Nat) (f : Nat → Nat), (∀ i, i ≤ n → f i < n) → ∃ i j, i < j ∧ j ≤ n ∧ f i = f j
  | 0, f, h => absurd (h 0 (Nat.le_refl 0)) (by omega)
  | n + 1, f, h => by
    by_cases e : ∃ i, i < n + 1 ∧ f i = f (n + 1)
    · obtain ⟨i, h1, h2⟩ := e
      exact ⟨i, n + 1, h1, Nat.le_refl _, h2⟩
    · have e : ∀ i, i < n + 1 → f i ≠ f (n + 1) := fun i hi z => e ⟨i, hi, z⟩
      obtain ⟨i, j, h1, h2, h3⟩ := pigeon n (fun i => if f i = n then f (n + 1) else f i) fun i hi => by
        by_cases z : f i = n
        · simp only [z, if_true]
          have := h (n + 1) (Nat.le_refl _)
          have := e i (by omega)
          omega
        · simp only [z, if_false]
          have := h i (by omega)
          omega
      refine ⟨i, j, h1, by omega, ?_⟩
      by_cases zi : f i = n
      · by_cases zj : f j = n
        · rw [zi, zj]
        · simp only [zi, zj, if_true, if_false] at h3
          exact absurd h3.symm (e j (by omega))
      · by_cases zj : f j = n
        · simp only [zi, zj, if_true, if_false] at h3
          exact absurd h3 (e i (by omega))
        · simp only [zi, zj, if_false] at h3
          exact h3
/-- the k-th house on the way up, if one never comes to a root -/
def itP (ps : List (Option Nat)) (h : Nat) : Nat → Nat
  | 0 => h
  | k + 1 => (stepP ps (itP ps h k)).getD 0
theorem itP_shift (ps : List (Option Nat)) (h : Nat) : ∀ k p, stepP ps h = some p → itP ps h (k + 1) = itP ps p k
  | 0, p, e => by simp [itP, e]
  | k + 1, p, e => by
    show (stepP ps (itP ps h (k + 1))).getD 0 = (stepP ps (itP ps p k)).getD 0
    rw [itP_shift ps h k p e]
theorem goP_it {ps : List (Option Nat)} (ok : ∀ o ∈ ps, okp ps.length o) : ∀ k h, h < ps.length → goP ps k h = false → (∀ i, i < k → (stepP ps (itP ps h i)).isSome = true) ∧ topP ps k h = itP ps h k ∧ ∀ i, i ≤ k → itP ps h i < ps.length
  | 0, h, hl, _ => ⟨fun i hi => by omega, rfl, fun i hi => by
    have : i = 0 := by omega
    subst this; exact hl⟩
  | k + 1, h, hl, g => by
    have e : ps[h]? = some ps[h] := by simp [hl]
    rw [goP_succ e] at g
    cases z : ps[h] with
    | none => rw [z] at g; cases g
    | some p =>
      rw [z] at g
      have st : stepP ps h = some p := by unfold stepP; rw [e, z]
      obtain ⟨h1, h2, h3⟩ := goP_it ok k p (ok ps[h] (by simp) p z) g
      refine ⟨fun i hi => ?_, ?_, fun i hi => ?_⟩
      · cases i with
        | zero => show (stepP ps h).isSome = true; rw [st]; rfl
        | succ i => rw [itP_shift ps h i p st]; exact h1 i (by omega)
      · unfold topP
        rw [st, itP_shift ps h k p st]; exact h2
      · cases i with
        | zero => exact hl
        | succ i => rw [itP_shift ps h i p st]; exact h3 i (by omega)
theorem goP_top {ps : List (Option Nat)} (ok : ∀ o ∈ ps, okp ps.length o) : ∀ k h, h < ps.length → goP ps k h = true → stepP ps (topP ps k h) = none
  | 0, h, _, g => by cases g
  | k + 1, h, hl, g => by
    have e : ps[h]? = some ps[h] := by simp [hl]
    rw [goP_succ e] at g
    unfold topP
    cases z : ps[h] with
    | none =>
      have st : stepP ps h = none := by unfold stepP; rw [e, z]
      rw [st]; exact st
    | some p =>
      rw [z] at g
      have st : stepP ps h = some p := by unfold stepP; rw [e, z]
      rw [st]
      exact goP_top ok k p (ok ps[h] (by simp) p z) g
/-- the root that is come to has no parent just where one comes out -/
theorem root_iff {ps : List (Option Nat)} (ok : ∀ o ∈ ps, okp ps.length o) {h : Nat} (hl : h < ps.length) : stepP ps (topP ps ps.length h) = none ↔ goP ps ps.length h = true := by
  constructor
  · intro e
    cases g : goP ps ps.length h with
    | true => rfl
    | false =>
      obtain ⟨h1, h2, h3⟩ := goP_it ok ps.length h hl g
      obtain ⟨i, j, hij, hj, ef⟩ := pigeon ps.length (itP ps h) h3
      have per : ∀ d, itP ps h (i + d) = itP ps h (j + d) := by
        intro d
        induction d with
        | zero => exact ef
        | succ d ih => show (stepP ps (itP ps h (i + d))).getD 0 = (stepP ps (itP ps h (j + d))).getD 0; rw [ih]
      have p := per (ps.length - j)
      rw [show j + (ps.length - j) = ps.length by omega] at p
      rw [h2, ← p] at e
      have := h1 (i + (ps.length - j)) (by omega)
      rw [e] at this; cases this
  · exact goP_top ok _ _ hl

structure Ord (m : Nat) (o : Nat → Nat) : Prop where
  lt : ∀ i, i < m → o i < m
  inj : ∀ i j, i < m → j < m → o i = o j → i = j
  sur : ∀ q, q < m → ∃ i, i < m ∧ o i = q
theorem ord_of {m : Nat} {l : List Nat} (p : l.Perm (List.range m)) : Ord m (fun i => l.getD i 0) := by
  have len : l.length = m := by simpa using p.length_eq
  have nd : l.Nodup := p.nodup_iff.mpr List.nodup_range
  have g : ∀ i (h : i < m), l.getD i 0 = l[i]'(by omega) := fun i h => by simp [List.getD, len, h]
  refine ⟨fun i hi => ?_, fun i j hi hj e => ?_, fun q hq => ?_⟩
  · simp only [g i hi]
    exact List.mem_range.mp (p.mem_iff.mp (List.getElem_mem _))
  · simp only [g i hi, g j hj] at e
    have pw := List.pairwise_iff_getElem.mp nd
    rcases Nat.lt_trichotomy i j with h | h | h
    · exact absurd e (pw i j (by omega) (by omega) h)
    · exact h
    · exact absurd e.symm (pw j i (by omega) (by omega) h)
  · obtain ⟨i, hi, e⟩ := List.mem_iff_getElem.mp (p.mem_iff.mpr (List.mem_range.mpr hq))
    exact ⟨i, by omega, by simp only [g i (by omega)]; exact e⟩
theorem rep_non : ∀ m : Nat, (List.replicate m [D.non]).flatten = List.replicate m D.non
  | 0 => rfl
  | n + 1 => by rw [List.replicate_succ, List.flatten_cons, rep_non n, List.replicate_succ]; rfl
/-- parents while they grow -/
structure PGrow (m : Nat) (o : Nat → Nat) (k : Nat) (ps : List (Option Nat)) : Prop where
  len : ps.length = m
  a : ∀ i, k ≤ i → i < m → ps[o i]? = some none
  b : ∀ i, i < k → i < m → ps[o i]? = some none ∨ ∃ j, j < i ∧ ps[o i]? = some (some (o j))
theorem PGrow.next {m k : Nat} {o : Nat → Nat} {ps : List (Option Nat)} (g : PGrow m o k ps) : PGrow m o (k + 1) ps :=
  ⟨g.len, fun i a b => g.a i (by omega) b, fun i a b => by
    by_cases e : i = k
    · subst e; exact .inl (g.a i (Nat.le_refl _) b)
    · exact g.b i (by omega) b⟩
theorem PGrow.set {m k j : Nat} {o : Nat → Nat} {ps : List (Option Nat)} (O : Ord m o) (g : PGrow m o k ps) (hk : k < m) (hj : j < k) : PGrow m o (k + 1) (ps.set (o k) (some (o j))) := by
  have ne : ∀ i, i < m → i ≠ k → o k ≠ o i := fun i hi h e => h (O.inj i k hi hk e.symm)
  refine ⟨by simp [g.len], fun i a b => ?_, fun i a b => ?_⟩
  · rw [List.getElem?_set_ne (ne i b (by omega))]; exact g.a i (by omega) b
  · by_cases e : i = k
    · subst e
      exact .inr ⟨j, hj, List.getElem?_set_self (by rw [g.len]; exact O.lt i hk)⟩
    · rw [List.getElem?_set_ne (ne i b e)]; exact g.b i (by omega) b
theorem PGrow.clear {m k : Nat} {o : Nat → Nat} {ps : List (Option Nat)} (O : Ord m o) (g : PGrow m o (k + 1) ps) (hk : k < m) : PGrow m o (k + 1) (ps.set (o k) none) := by
  have ne : ∀ i, i < m → i ≠ k → o k ≠ o i := fun i hi h e => h (O.inj i k hi hk e.symm)
  refine ⟨by simp [g.len], fun i a b => ?_, fun i a b => ?_⟩
  · rw [List.getElem?_set_ne (ne i b (by omega))]; exact g.a i a b
  · by_cases e : i = k
    · subst e
      exact .inl (List.getElem?_set_self (by rw [g.len]; exact O.lt i hk))
    · rw [List.getElem?_set_ne (ne i b e)]; exact g.b i a b
theorem PGrow.par {m k : Nat} {o : Nat → Nat} {ps : List (Option Nat)} (O : Ord m o) (m1 : 1 ≤ m) (m2 : m ≤ 64) (g : PGrow m o m ps) : ParR ps := by
  refine ⟨by rw [g.len]; exact m1, by rw [g.len]; exact m2, fun q hq => ?_, fun h hh => ?_⟩
  · obtain ⟨i, hi, e⟩ := List.mem_iff_getElem.mp hq
    rw [g.len] at hi ⊢
    obtain ⟨j, hj, rfl⟩ := O.sur i hi
    have e1 : ps[o j]? = some q := by rw [← e]; simp [g.len, hi]
    intro p ep
    rcases g.b j hj hj with z | ⟨l, hl, z⟩
    · rw [z] at e1; cases e1; cases ep
    · rw [z] at e1; cases e1; cases ep; exact O.lt l (by omega)
  · rw [g.len] at hh ⊢
    have key : ∀ (i k : Nat), i < k → i < m → goP ps k (o i) = true := by
      intro i
      induction i using Nat.strongRecOn with
      | ind i ih =>
        intro k hk hi
        obtain ⟨k, rfl⟩ : ∃ k', k = k' + 1 := ⟨k - 1, by omega⟩
        rcases g.b i hi hi with z | ⟨j, hj, z⟩
        · rw [goP_succ z]; rfl
        · rw [goP_succ z]; exact ih j hj k (by omega) (by omega)
    obtain ⟨i, hi, rfl⟩ := O.sur h hh
    exact key i m hi hi

theorem par_one : ParP (.tup [.non]) := ⟨[none], rfl, by decide, by decide, fun o ho => by
  have : o = none := by simpa using ho
  subst this; exact fun i e => (by cases e), fun h hh => by
  have : h = 0 := by have : h < 1 := hh; omega
  subst this; rfl⟩
theorem len_one {ps : List (Option Nat)} (e : D.tup [.non] = pD ps) : ps.length = 1 := by
  injection e with e
  have := congrArg List.length e
  rw [List.length_map] at this
  exact this.symm
theorem wk_fo {ns xs} : wkr (.ob (Str.ofString "Forest") ns xs) = true := oc
theorem kn_fo {ns xs} : kn OC (.ob (Str.ofString "Forest") ns xs) = true := oc
theorem wk_pls (ps : List (Option Nat)) : wkr (.tup (ps.map pl)) = true := List.all_eq_true.mpr fun y hy => by
  obtain ⟨o, _, rfl⟩ := List.mem_map.mp hy
  exact kp o
theorem wk_ws (ws : List Int) : wkr (.tup (ws.map D.int)) = true := List.all_eq_true.mpr fun y hy => by
  obtain ⟨o, _, rfl⟩ := List.mem_map.mp hy
  rfl
theorem wk_cat {xs ys zs : List D} {o : D} (h1 : wkr (.tup xs) = true) (ho : kn OC o = true) (h2 : wkr (.tup zs) = true) (s1 : ∀ y ∈ ys, y ∈ xs) (ls : List D) (s2 : ∀ y ∈ ls, y ∈ zs) : wkr (.tup (ys ++ [o] ++ ls)) = true := List.all_eq_true.mpr fun y hy => by
  rw [List.mem_append, List.mem_append, List.mem_singleton] at hy
  rcases hy with (hy | rfl) | hy
  · exact List.all_eq_true.mp h1 y (s1 y hy)
  · exact ho
  · exact List.all_eq_true.mp h2 y (s2 y hy)
theorem wk_rep (n : Nat) : wkr (.tup (List.replicate n [D.non]).flatten) = true := List.all_eq_true.mpr fun y hy => by
  rw [rep_non] at hy
  rw [List.eq_of_mem_replicate hy]; rfl

theorem pln_pls (n : Nat) (ps : List (Option Nat)) : pln (n + 2) (pD ps) = true := List.all_eq_true.mpr fun y hy => by
  obtain ⟨o, _, rfl⟩ := List.mem_map.mp hy
  cases o <;> rfl
theorem pln_ws (n : Nat) (ws : List Int) : pln (n + 2) (wD ws) = true := List.all_eq_true.mpr fun y hy => by
  obtain ⟨o, _, rfl⟩ := List.mem_map.mp hy
  rfl
theorem pln_pair (ps : List (Option Nat)) (ws : List Int) : pln 4 (.tup [pD ps, wD ws]) = true := by
  show ([pD ps, wD ws].all (pln 3)) = true
  simp [pln_pls 1, pln_ws 1]
theorem pln_told (ps : List (Option Nat)) (ws : List Int) : pln 4 (.tup [.str (Str.ofString "told"), pD ps, wD ws]) = true := by
  show ([D.str (Str.ofString "told"), pD ps, wD ws].all (pln 3)) = true
  simp [pln_pls 1, pln_ws 1, pln]

/-! ### ways up in a right forest -/
def U (ps : List (Option Nat)) (h : Nat) : List Nat := upP ps ps.length h
theorem up_fuel {ps : List (Option Nat)} : ∀ (k m h : Nat), goP ps k h = true → goP ps m h = true → upP ps k h = upP ps m h
  | 0, _, _, a, _ => by cases a
  | _ + 1, 0, _, _, b => by cases b
  | k + 1, m + 1, h, a, b => by
    unfold upP
    unfold goP at a b
    cases e : ps[h]? with
    | none => rfl
    | some o =>
      cases o with
      | none => rfl
      | some p =>
        rw [e] at a b
        simp only at a b
        simp only [up_fuel k m p a b]
section
variable {ps : List (Option Nat)} (pr : ParR ps)
include pr
theorem up_get {h : Nat} (hh : h < ps.length) : ∃ o, ps[h]? = some o ∧ okp ps.length o := ⟨ps[h], by simp [hh], pr.ok _ (by simp)⟩
theorem U_cons {h p : Nat} (hh : h < ps.length) (e : ps[h]? = some (some p)) : U ps h = h :: U ps p := by
  have g := pr.go h hh
  have hp : p < ps.length := pr.ok _ (List.mem_of_getElem? e) p rfl
  have n1 := pr.n1
  unfold U
  obtain ⟨n, en⟩ : ∃ n, ps.length = n + 1 := ⟨ps.length - 1, by omega⟩
  have g2 : goP ps n p = true := by
    rw [en, goP_succ e] at g; exact g
  have g3 := pr.go p hp
  rw [up_fuel ps.length n p g3 g2, en]
  show upP ps (n + 1) h = _
  conv => lhs; unfold upP
  rw [e]
theorem U_nil {h : Nat} (e : ps[h]? = some none) : U ps h = [h] := by
  have n1 := pr.n1
  unfold U
  obtain ⟨n, en⟩ : ∃ n, ps.length = n + 1 := ⟨ps.length - 1, by omega⟩
  rw [en]
  unfold upP
  rw [e]
theorem U_ind (P : Nat → Prop) (top : ∀ h, h < ps.length → ps[h]? = some none → P h) (step : ∀ h p, h < ps.length → p < ps.length → ps[h]? = some (some p) → P p → P h) : ∀ h, h < ps.length → P h := by
  have key : ∀ k h, h < ps.length → goP ps k h = true → P h := by
    intro k
    induction k with
    | zero => intro h _ g; cases g
    | succ k ih =>
      intro h hh g
      obtain ⟨o, e, oo⟩ := up_get pr hh
      rw [goP_succ e] at g
      cases o with
      | none => exact top h hh e
      | some p => exact step h p hh (oo p rfl) e (ih p (oo p rfl) g)
  exact fun h hh => key ps.length h hh (pr.go h hh)
theorem U_head {h : Nat} (hh : h < ps.length) : ∃ t, U ps h = h :: t := by
  obtain ⟨o, e, oo⟩ := up_get pr hh
  cases o with
  | none => exact ⟨[], U_nil pr e⟩
  | some p => exact ⟨_, U_cons pr hh e⟩
theorem U_lt : ∀ h, h < ps.length → ∀ x ∈ U ps h, x < ps.length := U_ind pr _ (fun h hh e x hx => by
  rw [U_nil pr e, List.mem_singleton] at hx; omega) fun h p hh hp e ih x hx => by
  rw [U_cons pr hh e, List.mem_cons] at hx
  rcases hx with rfl | hx
  · exact hh
  · exact ih x hx
/-- what stands behind a house on the way up is its own way up -/
theorem U_tail : ∀ h, h < ps.length → ∀ A x B, U ps h = A ++ x :: B → x :: B = U ps x := U_ind pr _ (fun h hh e A x B q => by
  rw [U_nil pr e] at q
  cases A with
  | nil =>
    injection q with q1 q2
    subst q1 q2
    exact (U_nil pr e).symm
  | cons a A =>
    injection q with q1 q2
    have := congrArg List.length q2
    simp at this) fun h p hh hp e ih A x B q => by
  rw [U_cons pr hh e] at q
  cases A with
  | nil =>
    injection q with q1 q2
    subst q1 q2
    exact (U_cons pr hh e).symm
  | cons a A =>
    injection q with q1 q2
    exact ih A x B q2
theorem U_anti {x y : Nat} (hx : x < ps.length) (hy : y < ps.length) (a : x ∈ U ps y) (b : y ∈ U ps x) : x = y := by
  obtain ⟨A, B, e⟩ := List.append_of_mem a
  obtain ⟨C, D', f⟩ := List.append_of_mem b
  have e2 := U_tail pr y hy A x B e
  have f2 := U_tail pr x hx C y D' f
  rw [e2] at e
  rw [f2] at f
  have l1 := congrArg List.length e
  have l2 := congrArg List.length f
  rw [List.length_append] at l1 l2
  have : A = [] := List.eq_nil_of_length_eq_zero (by omega)
  subst this
  obtain ⟨t, h1⟩ := U_head pr hx
  obtain ⟨t2, h2⟩ := U_head pr hy
  rw [List.nil_append, h1, h2] at e
  injection e with e _
  exact e.symm
/-- the first common house, from either side -/
theorem first_common {a b : Nat} (ha : a < ps.length) (hb : b < ps.length) : (U ps b).find? (fun y => decide (y ∈ U ps a)) = (U ps a).find? (fun y => decide (y ∈ U ps b)) := by
  have one : ∀ {a b x : Nat}, a < ps.length → b < ps.length → (U ps a).find? (fun y => decide (y ∈ U ps b)) = some x → x ∈ U ps a ∧ x ∈ U ps b ∧ ∀ y, y ∈ U ps a → y ∈ U ps b → y ∈ U ps x := fun {a b x} ha hb e => by
    obtain ⟨hx, A, B, q, no⟩ := List.find?_eq_some_iff_append.mp e
    refine ⟨by rw [q]; simp, of_decide_eq_true hx, fun y y1 y2 => ?_⟩
    rw [← U_tail pr a ha A x B q]
    rw [q, List.mem_append] at y1
    rcases y1 with y1 | y1
    · have := no y y1
      simp at this
      exact absurd y2 this
    · exact y1
  cases e1 : (U ps b).find? (fun y => decide (y ∈ U ps a)) with
  | none =>
    cases e2 : (U ps a).find? (fun y => decide (y ∈ U ps b)) with
    | none => rfl
    | some x =>
      obtain ⟨h1, h2, _⟩ := one ha hb e2
      have := List.find?_eq_none.mp e1 x h2
      simp at this
      exact absurd h1 this
  | some y =>
    obtain ⟨y1, y2, y3⟩ := one hb ha e1
    cases e2 : (U ps a).find? (fun y => decide (y ∈ U ps b)) with
    | none =>
      have := List.find?_eq_none.mp e2 y y2
      simp at this
      exact absurd y1 this
    | some x =>
      obtain ⟨x1, x2, x3⟩ := one ha hb e2
      congr 1
      exact U_anti pr (U_lt pr b hb y y1) (U_lt pr a ha x x1) (x3 y y2 y1) (y3 x x2 x1)
end
theorem inD_nat (x : Nat) (l : List Nat) : inD (.int x) (l.map fun (j : Nat) => D.int j) = decide (x ∈ l) := by
  unfold inD
  rw [Bool.eq_iff_iff]
  simp only [List.any_eq_true, decide_eq_true_eq]
  constructor
  · rintro ⟨y, hy, e⟩
    obtain ⟨j, hj, rfl⟩ := List.mem_map.mp hy
    have : j = x := by simp [eqD] at e; omega
    subst this; exact hj
  · exact fun h => ⟨_, List.mem_map_of_mem h, by simp [eqD]⟩
theorem flat_nat (l : List Nat) : (l.map fun (j : Nat) => D.int j).all flD = true := List.all_eq_true.mpr fun y hy => by
  obtain ⟨j, _, rfl⟩ := List.mem_map.mp hy; rfl

theorem at_last {ps : List (Option Nat)} {h : Nat} : atI ((U ps h).map fun (j : Nat) => D.int j) (-1) = some (.int (topP ps ps.length h : Nat)) := by
  have ne := upP_ne ps ps.length h
  have top := upP_top ps ps.length h
  unfold U
  generalize upP ps ps.length h = l at ne top
  rw [List.getLast?_eq_getElem?] at top
  have hl0 : 0 < l.length := by cases l with
    | nil => exact absurd rfl ne
    | cons a b => simp
  unfold atI
  have e : ixN (l.map fun (j : Nat) => D.int j).length (-1) = some (l.length - 1) := by
    unfold ixN
    rw [if_neg (by decide), if_pos (by rw [List.length_map]; omega)]
    congr 1
    rw [List.length_map]; omega
  rw [e]
  simp [top]
def belowL (ps : List (Option Nat)) (h : Nat) : List Nat := (List.range ps.length).filter fun i => decide (h ∈ U ps i)
theorem fm_range (p : Nat → Bool) (f : D → Option D) (hf : ∀ i : Nat, f (.int i) = if p i then some (.int i) else none) : ∀ l : List Nat, (l.map fun (i : Nat) => D.int i).filterMap f = (l.filter p).map fun (i : Nat) => D.int i
  | [] => rfl
  | i :: l => by
    rw [List.map_cons, List.filterMap_cons, hf, List.filter_cons]
    cases p i with
    | true => simp [fm_range p f hf l]
    | false => simp [fm_range p f hf l]
theorem U_len (ps : List (Option Nat)) (h : Nat) : (U ps h).length ≤ ps.length + 1 := upP_len ps ps.length h

theorem any_put (kvs : List (Key × D)) (k k2 : Key) (v : D) : anyD (putA kvs k v) k2 = (anyD kvs k2 || decide (k = k2)) := by
  unfold anyD putA
  split
  · rename_i h
    have e : (kvs.map fun kv => if kv.1 = k then (kv.1, v) else kv).any (fun kv => decide (kv.1 = k2)) = kvs.any fun kv => decide (kv.1 = k2) := by
      rw [List.any_map]
      congr 1
      funext kv
      show decide ((if kv.1 = k then (kv.1, v) else kv).1 = k2) = _
      split <;> rfl
    rw [e]
    by_cases q : k = k2
    · subst q
      rw [h]; rfl
    · simp [q]
  · rw [List.any_append]
    simp
theorem any_fold (k2 : Key) : ∀ (l acc : List (Key × D)), anyD (l.foldl (fun acc kv => putA acc kv.1 kv.2) acc) k2 = (anyD acc k2 || anyD l k2)
  | [], acc => by simp [anyD]
  | kv :: l, acc => by
    rw [List.foldl_cons, any_fold k2 l, any_put, Bool.or_assoc]
    rfl
theorem any_nat (l : List Nat) (x : Nat) : anyD (mergeD (l.map fun (j : Nat) => ((.inl j : Key), D.bl true))) (.inl x) = decide (x ∈ l) := by
  unfold mergeD
  rw [any_fold]
  induction l with
  | nil => rfl
  | cons a l ih =>
    have ih : anyD (l.map fun (j : Nat) => ((.inl j : Key), D.bl true)) (.inl x) = decide (x ∈ l) := ih
    show (decide ((.inl a : Key) = .inl x) || anyD (l.map fun (j : Nat) => ((.inl j : Key), D.bl true)) (.inl x)) = _
    rw [ih]
    by_cases e : x = a
    · subst e; simp
    · have : ¬ ((Sum.inl (a : Int) : Key) = Sum.inl (x : Int)) := fun h => e (by injection h with h; omega)
      simp [e, this]

def wayL (ps : List (Option Nat)) (a b t : Nat) : List Nat := (U ps a).take ((U ps a).idxOf t + 1) ++ ((U ps b).take ((U ps b).idxOf t)).reverse
def wayD (mk : List D → D) (ps : List (Option Nat)) (a b : Nat) : D := match (U ps a).find? (fun y => decide (y ∈ U ps b)) with
  | some t => mk ((wayL ps a b t).map fun (j : Nat) => D.int j)
  | none => .non
theorem idx_lt {t : Nat} : ∀ {l : List Nat} {m : Nat}, m < l.idxOf t → ∀ (h : m < l.length), l[m] ≠ t
  | [], m, _, h => by cases h
  | a :: l, m, hm, h => by
    rw [List.idxOf_cons] at hm
    by_cases e : a = t
    · subst e; simp at hm
    · have e2 : (a == t) = false := by simp [e]
      rw [e2] at hm
      cases m with
      | zero => exact e
      | succ m =>
        have hm : m + 1 < l.idxOf t + 1 := hm
        exact idx_lt (l := l) (m := m) (by omega) (by simpa using h)
theorem idx_ok {l : List Nat} {t : Nat} (h : t ∈ l) {G : Gp} {Q : QK} (hq : Q (.int (l.idxOf t : Nat)) G) : mIndex (.fl (l.map fun (j : Nat) => D.int j)) [.int t] G Q := by
  have hl := List.idxOf_lt_length_iff.mpr h
  refine ⟨_, l.idxOf t, .int t, rfl, rfl, flat_nat l, ?_, ?_, fun m z hm ez => ?_, hq⟩
  · rw [List.getElem?_map, List.getElem?_eq_getElem hl, List.getElem_idxOf hl]; rfl
  · show decide ((t : Int) = t) = true
    simp
  · rw [List.getElem?_map] at ez
    have hm' : m < l.length := by omega
    rw [List.getElem?_eq_getElem hm'] at ez
    cases ez
    show decide ((l[m] : Int) = t) = false
    have := idx_lt hm hm'
    simp only [decide_eq_false_iff_not]
    omega
theorem cut_take (l : List Nat) (k : Nat) : L3.cutD (l.map fun (j : Nat) => D.int j) none (some (k : Int)) = (l.take k).map fun (j : Nat) => D.int j := by
  unfold L3.cutD
  rw [HT.sIx_none, HT.sIx_nat, List.drop_zero, Nat.sub_zero, List.map_take, List.length_map]
  exact List.take_eq_take_iff.mpr (by rw [List.length_map]; omega)

def fR (l : List Nat) : D → Option D := fun y => match y with | .int i => some (.int (l.getD (l.length - 1 - i.toNat) 0 : Nat)) | _ => none
theorem cut_take1 (l : List Nat) (k : Nat) : L3.cutD (l.map fun (j : Nat) => D.int j) none (some ((k : Int) + 1)) = (l.take (k + 1)).map fun (j : Nat) => D.int j := cut_take l (k + 1)
theorem rev_comp (l : List Nat) : ((List.range l.length).map fun (i : Nat) => D.int i).filterMap (fR l) = l.reverse.map fun (j : Nat) => D.int j := by
  rw [List.filterMap_map]
  have e : (fR l ∘ fun (i : Nat) => D.int i) = fun i : Nat => some (D.int (l.getD (l.length - 1 - i) 0 : Nat)) := by
    funext i
    show some (D.int (l.getD (l.length - 1 - (i : Int).toNat) 0 : Nat)) = _
    rw [Int.toNat_natCast]
  rw [e, ← List.filterMap_eq_map'] 
  apply List.ext_getElem?
  intro i
  by_cases h : i < l.length
  · have h2 : l.length - 1 - i < l.length := by omega
    simp [h, h2]
  · simp [h]

theorem pln_nats (n : Nat) (l : List Nat) : pln (n + 2) (.tup (l.map fun (j : Nat) => D.int j)) = true := List.all_eq_true.mpr fun y hy => by
  obtain ⟨o, _, rfl⟩ := List.mem_map.mp hy
  rfl
theorem pln_way (ps : List (Option Nat)) (a b : Nat) : pln 4 (wayD .tup ps a b) = true := by
  unfold wayD
  split
  · exact pln_nats 2 _
  · rfl
theorem pln_pl (o : Option Nat) : pln 4 (pl o) = true := by cases o <;> rfl
theorem top_in (ps : List (Option Nat)) (h : Nat) : topP ps ps.length h ∈ U ps h := List.mem_of_getLast? (upP_top ps ps.length h)
theorem below_in {ps : List (Option Nat)} {h j : Nat} : j ∈ belowL ps h ↔ j < ps.length ∧ h ∈ U ps j := by
  unfold belowL
  simp

/-! ### refusals -/
theorem wi_nat {n : Nat} {x : D} (h : wiI 0 ((n : Int) - 1) x = true) : ∃ j : Nat, x = .int j ∧ j < n := by
  cases x with
  | int i =>
    have h : (decide (0 ≤ i) && decide (i ≤ (n : Int) - 1)) = true := h
    rw [Bool.and_eq_true, decide_eq_true_eq, decide_eq_true_eq] at h
    refine ⟨i.toNat, ?_, by omega⟩
    show D.int i = D.int (i.toNat : Int)
    rw [Int.toNat_of_nonneg h.1]
  | _ => cases h
def W1 : List D := [.str (Str.ofString "root"), .str (Str.ofString "depth"), .str (Str.ofString "below"), .str (Str.ofString "whole")]
def W2 : List D := [.str (Str.ofString "joined"), .str (Str.ofString "common"), .str (Str.ofString "way")]
def W3 : List D := [.str (Str.ofString "where"), .str (Str.ofString "at"), .str (Str.ofString "reach")]
def W4 : List D := [.str (Str.ofString "least"), .str (Str.ofString "greatest")]
/-- what stands behind the houses of an ask of two and more -/
def moreD (w : Str) (x : D) : Bool := if eqD (.str w) (.str (Str.ofString "where")) = true then isiD .str x && inD x W4 else if eqD (.str w) (.str (Str.ofString "at")) = true then nuI x else isI x
def form2 (n : Int) (w : Str) : List D → Bool
  | [a, b] => inD (.str w) W2 && (wiI 0 (n - 1) a && wiI 0 (n - 1) b)
  | [a, b, c] => !inD (.str w) W2 && (inD (.str w) W3 && (wiI 0 (n - 1) a && (wiI 0 (n - 1) b && moreD w c)))
  | _ => false
def formD (n : Int) : D → Bool
  | .tup (.str w :: xs) => if inD (.str w) W1 = true then decide (xs.length = 1) && xs.all (wiI 0 (n - 1)) else form2 n w xs
  | _ => false
theorem form_short {n : Int} : ∀ {xs : List D}, xs.length < 2 → formD n (.tup xs) = false
  | [], _ => rfl
  | [a], _ => by cases a <;> simp [formD, form2]
  | a :: b :: r, h => absurd h (by simp)
theorem inD_app (x : D) (xs ys : List D) : inD x (xs ++ ys) = (inD x xs || inD x ys) := by unfold inD; exact List.any_append
theorem cut_1 (x : D) (xs : List D) : L3.cutD (x :: xs) (some 1) none = xs := by
  unfold L3.cutD
  rw [HT.sIx_none, show (1 : Int) = ((1 : Nat) : Int) from rfl, HT.sIx_nat, List.length_cons, Nat.min_eq_left (by omega)]
  simp
theorem cut_13 (x b c : D) (r : List D) : L3.cutD (x :: b :: c :: r) (some 1) (some 3) = [b, c] := by
  unfold L3.cutD
  rw [show (1 : Int) = ((1 : Nat) : Int) from rfl, show (3 : Int) = ((3 : Nat) : Int) from rfl, HT.sIx_nat, HT.sIx_nat, List.length_cons, List.length_cons, List.length_cons, Nat.min_eq_left (by omega), Nat.min_eq_left (by omega)]
  simp
theorem form2_no {n : Int} {w : Str} (h2 : inD (.str w) W2 = false) (h3 : inD (.str w) W3 = false) : ∀ xs, form2 n w xs = false
  | [] => rfl
  | [_] => rfl
  | [a, b] => by simp [form2, h2]
  | [a, b, c] => by simp [form2, h2, h3]
  | _ :: _ :: _ :: _ :: _ => rfl
theorem form2_two {n : Int} {w : Str} (h2 : inD (.str w) W2 = true) : ∀ xs, xs.length ≠ 2 → form2 n w xs = false
  | [], _ => rfl
  | [_], _ => rfl
  | [a, b], h => absurd rfl h
  | [a, b, c], _ => by simp [form2, h2]
  | _ :: _ :: _ :: _ :: _, _ => rfl
theorem form2_more {n : Int} {w : Str} (h2 : inD (.str w) W2 = false) : ∀ xs, xs.length ≠ 3 → form2 n w xs = false
  | [], _ => rfl
  | [_], _ => rfl
  | [a, b], _ => by simp [form2, h2]
  | [a, b, c], h => absurd rfl h
  | _ :: _ :: _ :: _ :: _, _ => rfl
theorem str_at {w : Str} (h3 : inD (.str w) W3 = true) (a : eqD (.str w) (.str (Str.ofString "where")) = false) (b : eqD (.str w) (.str (Str.ofString "reach")) = false) : eqD (.str w) (.str (Str.ofString "at")) = true := by
  simp only [inD, W3, List.any_cons, List.any_nil, eqD, Bool.or_eq_true, beq_iff_eq, beq_eq_false_iff_ne, Bool.false_eq_true, or_false] at h3 a b ⊢
  rcases h3 with h | h | h
  · exact absurd h.symm a
  · exact h.symm
  · exact absurd h.symm b
theorem str_reach {w : Str} (b : eqD (.str w) (.str (Str.ofString "reach")) = true) : eqD (.str w) (.str (Str.ofString "at")) = false := by
  simp only [eqD, beq_iff_eq] at b
  subst b
  decide +kernel
theorem isS_of {x : D} (h : isiD .str x = true) : ∃ w, x = .str w := by cases x <;> first | exact ⟨_, rfl⟩ | (simp [isiD] at h)

/-! ### asks and their answers -/
theorem noT {b : Bool} {P : Prop} (z : b = true) (h : b = false) : P := by rw [h] at z; cases z
theorem noF {b : Bool} {P : Prop} (z : b = false) (h : b = true) : P := by rw [h] at z; cases z
inductive Aq where
  | root (a : Nat) | depth (a : Nat) | below (a : Nat) | whole (a : Nat)
  | joined (a b : Nat) | common (a b : Nat) | way (a b : Nat)
  | least (a b : Nat) | great (a b : Nat) | at_ (a b i : Nat) | reach (a b : Nat) (v : Int)
def Aq.d : Aq → D
  | .root a => .tup [.str (Str.ofString "root"), .int a]
  | .depth a => .tup [.str (Str.ofString "depth"), .int a]
  | .below a => .tup [.str (Str.ofString "below"), .int a]
  | .whole a => .tup [.str (Str.ofString "whole"), .int a]
  | .joined a b => .tup [.str (Str.ofString "joined"), .int a, .int b]
  | .common a b => .tup [.str (Str.ofString "common"), .int a, .int b]
  | .way a b => .tup [.str (Str.ofString "way"), .int a, .int b]
  | .least a b => .tup [.str (Str.ofString "where"), .int a, .int b, .str (Str.ofString "least")]
  | .great a b => .tup [.str (Str.ofString "where"), .int a, .int b, .str (Str.ofString "greatest")]
  | .at_ a b i => .tup [.str (Str.ofString "at"), .int a, .int b, .int i]
  | .reach a b v => .tup [.str (Str.ofString "reach"), .int a, .int b, .int v]
def Aq.ok (n : Nat) : Aq → Prop
  | .root a => a < n
  | .depth a => a < n
  | .below a => a < n
  | .whole a => a < n
  | .joined a b => a < n ∧ b < n
  | .common a b => a < n ∧ b < n
  | .way a b => a < n ∧ b < n
  | .least a b => a < n ∧ b < n
  | .great a b => a < n ∧ b < n
  | .at_ a b _ => a < n ∧ b < n
  | .reach a b _ => a < n ∧ b < n
def Aq.one : Aq → Bool
  | .root _ => true
  | .depth _ => true
  | .below _ => true
  | .whole _ => true
  | _ => false
def Aq.more : Aq → Bool
  | .least _ _ => true
  | .great _ _ => true
  | .at_ _ _ _ => true
  | .reach _ _ _ => true
  | _ => false
def Aq.on : Aq → Bool
  | .way _ _ => true
  | q => q.more
def mnI : List Int → Int
  | [] => 0
  | [a] => a
  | a :: b :: r => if mnI (b :: r) < a then mnI (b :: r) else a
def mxI : List Int → Int
  | [] => 0
  | [a] => a
  | a :: b :: r => if mxI (b :: r) > a then mxI (b :: r) else a
theorem mnI_in : ∀ {l : List Int}, 1 ≤ l.length → mnI l ∈ l ∧ ∀ y ∈ l, mnI l ≤ y
  | [], h => absurd h (by simp)
  | [a], _ => by simp [mnI]
  | a :: b :: r, _ => by
    obtain ⟨h1, h2⟩ := mnI_in (l := b :: r) (by simp)
    unfold mnI
    split
    · rename_i z
      refine ⟨List.mem_cons_of_mem _ h1, fun y hy => ?_⟩
      rcases List.mem_cons.mp hy with rfl | hy
      · omega
      · exact h2 y hy
    · rename_i z
      refine ⟨by simp, fun y hy => ?_⟩
      rcases List.mem_cons.mp hy with rfl | hy
      · omega
      · have := h2 y hy; omega
theorem mxI_in : ∀ {l : List Int}, 1 ≤ l.length → mxI l ∈ l ∧ ∀ y ∈ l, y ≤ mxI l
  | [], h => absurd h (by simp)
  | [a], _ => by simp [mxI]
  | a :: b :: r, _ => by
    obtain ⟨h1, h2⟩ := mxI_in (l := b :: r) (by simp)
    unfold mxI
    split
    · rename_i z
      refine ⟨List.mem_cons_of_mem _ h1, fun y hy => ?_⟩
      rcases List.mem_cons.mp hy with rfl | hy
      · omega
      · exact h2 y hy
    · rename_i z
      refine ⟨by simp, fun y hy => ?_⟩
      rcases List.mem_cons.mp hy with rfl | hy
      · omega
      · have := h2 y hy; omega
theorem mn_uniq {l : List Int} (h : 1 ≤ l.length) {m : Int} (hm : m ∈ l) (hl : ∀ y, y ∈ l → m ≤ y) : m = mnI l := by
  have := hl _ (mnI_in h).1
  have := (mnI_in h).2 m hm
  omega
theorem mx_uniq {l : List Int} (h : 1 ≤ l.length) {m : Int} (hm : m ∈ l) (hl : ∀ y, y ∈ l → y ≤ m) : m = mxI l := by
  have := hl _ (mxI_in h).1
  have := (mxI_in h).2 m hm
  omega
theorem ints_map : ∀ l : List Int, intsD (l.map D.int) = some l
  | [] => rfl
  | a :: l => by simp [intsD, ints_map l]
theorem idx_ltI {t : Int} : ∀ {l : List Int} {m : Nat}, m < l.idxOf t → ∀ (h : m < l.length), l[m] ≠ t
  | [], m, _, h => by cases h
  | a :: l, m, hm, h => by
    rw [List.idxOf_cons] at hm
    by_cases e : a = t
    · subst e; simp at hm
    · have e2 : (a == t) = false := by simp [e]
      rw [e2] at hm
      cases m with
      | zero => exact e
      | succ m =>
        have hm : m + 1 < l.idxOf t + 1 := hm
        exact idx_ltI (l := l) (m := m) (by omega) (by simpa using h)
theorem flat_int (l : List Int) : (l.map D.int).all flD = true := List.all_eq_true.mpr fun y hy => by
  obtain ⟨j, _, rfl⟩ := List.mem_map.mp hy; rfl
theorem idx_okI {l : List Int} {t : Int} (h : t ∈ l) {G : Gp} {Q : QK} (hq : Q (.int (l.idxOf t : Nat)) G) : mIndex (.fl (l.map D.int)) [.int t] G Q := by
  have hl := List.idxOf_lt_length_iff.mpr h
  refine ⟨_, l.idxOf t, .int t, rfl, rfl, flat_int l, ?_, ?_, fun m z hm ez => ?_, hq⟩
  · rw [List.getElem?_map, List.getElem?_eq_getElem hl, List.getElem_idxOf hl]; rfl
  · show decide ((t : Int) = t) = true
    simp
  · rw [List.getElem?_map] at ez
    have hm' : m < l.length := by omega
    rw [List.getElem?_eq_getElem hm'] at ez
    cases ez
    show decide ((l[m] : Int) = t) = false
    have := idx_ltI hm hm'
    simp only [decide_eq_false_iff_not]
    omega
def wv (ws : List Int) (h : Nat) : Int := ws.getD h 0
def fW (ws : List Int) : D → Option D := fun y => match y with | .int i => some (.int (wv ws i.toNat)) | _ => none
theorem fW_map (ws : List Int) (hs : List Nat) : (hs.map fun (j : Nat) => D.int j).filterMap (fW ws) = (hs.map (wv ws)).map D.int := by
  rw [List.filterMap_map]
  have e : (fW ws ∘ fun (i : Nat) => D.int i) = fun i : Nat => some (D.int (wv ws i)) := by
    funext i
    show some (D.int (wv ws (i : Int).toNat)) = _
    rw [Int.toNat_natCast]
  rw [e, List.map_map]
  exact congrFun List.filterMap_eq_map' hs
theorem at_w {ws : List Int} {h : Nat} (e : h < ws.length) : atI (ws.map D.int) (h : Int) = some (.int (wv ws h)) := at_get (by omega) (by simp [wv, e])
theorem at_h {hs : List Nat} {k : Nat} (e : k < hs.length) : atI (hs.map fun (j : Nat) => D.int j) (k : Int) = some (.int (hs.getD k 0 : Nat)) := at_get (by omega) (by simp [e])
theorem at_v {vs : List Int} {k : Nat} (e : k < vs.length) : atI (vs.map D.int) (k : Int) = some (.int (vs.getD k 0)) := at_get (by omega) (by simp [e])
def cm (ps : List (Option Nat)) (a b : Nat) : Option Nat := (U ps a).find? fun y => decide (y ∈ U ps b)
def sumA (ws : List Int) (hs : List Nat) : D := .tup [.int hs.length, .int (hs.map (wv ws)).sum]
def toldA (vs : List Int) : D := .tup [.int vs.length, .int vs.sum, .int (mnI vs), .int (mxI vs)]
def placeA (vs : List Int) : Aq → Option Nat
  | .least _ _ => some (vs.idxOf (mnI vs))
  | .great _ _ => some (vs.idxOf (mxI vs))
  | .at_ _ _ i => if i < vs.length then some i else none
  | .reach _ _ v => vs.findIdx? fun x => decide (x ≤ v)
  | _ => none
def housA (hs : List Nat) : Option Nat → D
  | none => .non
  | some k => .int (hs.getD k 0 : Nat)
def onA (hs : List Nat) (vs : List Int) : Aq → D
  | .way _ _ => toldA vs
  | q => housA hs (placeA vs q)
def wayA (ps : List (Option Nat)) (a b : Nat) (f : List Nat → D) : D := match cm ps a b with
  | some t => f (wayL ps a b t)
  | none => .non
def ansA (ps : List (Option Nat)) (ws : List Int) (q : Aq) : D := match q with
  | .root a => .int (topP ps ps.length a : Nat)
  | .depth a => .int (((U ps a).map fun (j : Nat) => D.int j).length - 1)
  | .below a => sumA ws (belowL ps a)
  | .whole a => sumA ws (belowL ps (topP ps ps.length a))
  | .joined a b => .bl (!isN (pl (cm ps a b)))
  | .common a b => pl (cm ps a b)
  | .way a b => wayA ps a b fun hs => onA hs (hs.map (wv ws)) q
  | .least a b => wayA ps a b fun hs => onA hs (hs.map (wv ws)) q
  | .great a b => wayA ps a b fun hs => onA hs (hs.map (wv ws)) q
  | .at_ a b _ => wayA ps a b fun hs => onA hs (hs.map (wv ws)) q
  | .reach a b _ => wayA ps a b fun hs => onA hs (hs.map (wv ws)) q
theorem way_lt {ps : List (Option Nat)} (pr : ParR ps) {a b t : Nat} (ha : a < ps.length) (hb : b < ps.length) : ∀ h ∈ wayL ps a b t, h < ps.length := fun h m => by
  unfold wayL at m
  rw [List.mem_append, List.mem_reverse] at m
  rcases m with m | m
  · exact U_lt pr a ha h (List.mem_of_mem_take m)
  · exact U_lt pr b hb h (List.mem_of_mem_take m)
theorem way_len {ps : List (Option Nat)} {a b t : Nat} (pr : ParR ps) (ha : a < ps.length) : 1 ≤ (wayL ps a b t).length ∧ (wayL ps a b t).length ≤ 200 := by
  have la := U_len ps a
  have lb := U_len ps b
  have n64 := pr.n64
  obtain ⟨t2, e⟩ := U_head pr ha
  have l1 : 1 ≤ (U ps a).length := by rw [e]; simp
  unfold wayL
  rw [List.length_append, List.length_reverse, List.length_take, List.length_take]
  omega
theorem way_gt {ps : List (Option Nat)} {a b : Nat} {mk : List D → D} (e : cm ps a b = none) : wayD mk ps a b = .non := by
  unfold wayD
  rw [show (U ps a).find? (fun y => decide (y ∈ U ps b)) = none from e]
theorem way_gs {ps : List (Option Nat)} {a b t : Nat} {mk : List D → D} (e : cm ps a b = some t) : wayD mk ps a b = mk ((wayL ps a b t).map fun (j : Nat) => D.int j) := by
  unfold wayD
  rw [show (U ps a).find? (fun y => decide (y ∈ U ps b)) = some t from e]
def fP (v : Int) : D → Option D
  | .tup [.int k, .int x] => if decide (x ≤ v) = true then some (.int k) else none
  | _ => none
theorem places_head (v : Int) : ∀ (vs : List Int) (k : Nat), (((vs.map D.int).mapIdx fun i x => D.tup [.int ((i + k : Nat) : Int), x]).filterMap (fP v)).head? = (vs.findIdx? fun x => decide (x ≤ v)).map fun (j : Nat) => D.int ((j + k : Nat) : Int)
  | [], k => rfl
  | a :: vs, k => by
    have ih := places_head v vs (k + 1)
    rw [List.map_cons, List.mapIdx_cons, List.filterMap_cons, List.findIdx?_cons]
    have e : (fun (i : Nat) (x : D) => D.tup [.int ((i + 1 + k : Nat) : Int), x]) = fun i x => D.tup [.int ((i + (k + 1) : Nat) : Int), x] := by
      funext i x
      rw [Nat.add_assoc, Nat.add_comm 1 k]
    rw [show fP v (D.tup [.int ((0 + k : Nat) : Int), .int a]) = if decide (a ≤ v) = true then some (.int ((0 + k : Nat) : Int)) else none from rfl]
    cases z : decide (a ≤ v) with
    | true => simp
    | false =>
      simp only [Bool.false_eq_true, if_false]
      rw [e, ih, Option.map_map]
      congr 1
      funext j
      show D.int ((j + (k + 1) : Nat) : Int) = D.int (((j + 1) + k : Nat) : Int)
      congr 2
      omega
theorem w1_of {w : Str} (h : inD (.str w) W1 = true) : w = Str.ofString "root" ∨ w = Str.ofString "depth" ∨ w = Str.ofString "below" ∨ w = Str.ofString "whole" := by
  simp only [inD, W1, List.any_cons, List.any_nil, eqD, Bool.or_eq_true, beq_iff_eq, Bool.false_eq_true, or_false] at h
  rcases h with h | h | h | h <;> simp [← h]
theorem w2_of {w : Str} (h : inD (.str w) W2 = true) : w = Str.ofString "joined" ∨ w = Str.ofString "common" ∨ w = Str.ofString "way" := by
  simp only [inD, W2, List.any_cons, List.any_nil, eqD, Bool.or_eq_true, beq_iff_eq, Bool.false_eq_true, or_false] at h
  rcases h with h | h | h <;> simp [← h]
theorem w3_of {w : Str} (h : inD (.str w) W3 = true) : w = Str.ofString "where" ∨ w = Str.ofString "at" ∨ w = Str.ofString "reach" := by
  simp only [inD, W3, List.any_cons, List.any_nil, eqD, Bool.or_eq_true, beq_iff_eq, Bool.false_eq_true, or_false] at h
  rcases h with h | h | h <;> simp [← h]
theorem w4_of {x : D} (h : (isiD .str x && inD x W4) = true) : x = .str (Str.ofString "least") ∨ x = .str (Str.ofString "greatest") := by
  rw [Bool.and_eq_true] at h
  obtain ⟨w, rfl⟩ := isS_of h.1
  have h := h.2
  simp only [inD, W4, List.any_cons, List.any_nil, eqD, Bool.or_eq_true, beq_iff_eq, Bool.false_eq_true, or_false] at h
  rcases h with h | h <;> simp [← h]
theorem form_aq {n : Nat} {x : D} (h : formD n x = true) : ∃ q : Aq, x = q.d ∧ q.ok n := by
  cases x with
  | tup xs =>
    cases xs with
    | nil => cases h
    | cons y xs =>
      cases y with
      | str w =>
        have h : (if inD (.str w) W1 = true then decide (xs.length = 1) && xs.all (wiI 0 ((n : Int) - 1)) else form2 n w xs) = true := h
        cases o1 : inD (.str w) W1 with
        | true =>
          rw [o1, if_pos rfl, Bool.and_eq_true, decide_eq_true_eq] at h
          obtain ⟨y, rfl⟩ : ∃ y, xs = [y] := by
            match xs, h.1 with
            | [y], _ => exact ⟨y, rfl⟩
          obtain ⟨a, rfl, ha⟩ := wi_nat (x := y) (by simpa using h.2)
          rcases w1_of o1 with rfl | rfl | rfl | rfl
          · exact ⟨.root a, rfl, ha⟩
          · exact ⟨.depth a, rfl, ha⟩
          · exact ⟨.below a, rfl, ha⟩
          · exact ⟨.whole a, rfl, ha⟩
        | false =>
          rw [o1, if_neg (by decide)] at h
          match xs, h with
          | [x, y], h =>
            have h : (inD (.str w) W2 && (wiI 0 ((n : Int) - 1) x && wiI 0 ((n : Int) - 1) y)) = true := h
            rw [Bool.and_eq_true, Bool.and_eq_true] at h
            obtain ⟨a, rfl, ha⟩ := wi_nat h.2.1
            obtain ⟨b, rfl, hb⟩ := wi_nat h.2.2
            rcases w2_of h.1 with rfl | rfl | rfl
            · exact ⟨.joined a b, rfl, ha, hb⟩
            · exact ⟨.common a b, rfl, ha, hb⟩
            · exact ⟨.way a b, rfl, ha, hb⟩
          | [x, y, z], h =>
            have h : (!inD (.str w) W2 && (inD (.str w) W3 && (wiI 0 ((n : Int) - 1) x && (wiI 0 ((n : Int) - 1) y && moreD w z)))) = true := h
            rw [Bool.and_eq_true, Bool.and_eq_true, Bool.and_eq_true, Bool.and_eq_true] at h
            obtain ⟨_, h3, hx, hy, hm⟩ := h
            obtain ⟨a, rfl, ha⟩ := wi_nat hx
            obtain ⟨b, rfl, hb⟩ := wi_nat hy
            unfold moreD at hm
            rcases w3_of h3 with rfl | rfl | rfl
            · rw [if_pos (by decide +kernel)] at hm
              rcases w4_of hm with rfl | rfl
              · exact ⟨.least a b, rfl, ha, hb⟩
              · exact ⟨.great a b, rfl, ha, hb⟩
            · rw [if_neg (by decide +kernel), if_pos (by decide +kernel)] at hm
              cases z with
              | int i =>
                have hm : decide (0 ≤ i) = true := hm
                have i0 := of_decide_eq_true hm
                obtain ⟨j, rfl⟩ := Int.eq_ofNat_of_zero_le i0
                exact ⟨.at_ a b j, rfl, ha, hb⟩
              | _ => cases hm
            · rw [if_neg (by decide +kernel), if_neg (by decide +kernel)] at hm
              obtain ⟨v, rfl⟩ := isI_of hm
              exact ⟨.reach a b v, rfl, ha, hb⟩
      | _ => cases h
  | _ => cases h

theorem pln_ans (ps : List (Option Nat)) (ws : List Int) (q : Aq) : pln 3 (ansA ps ws q) = true := by
  have h : ∀ hs o, pln 3 (housA hs o) = true := fun hs o => by cases o <;> rfl
  have t : ∀ vs, pln 3 (toldA vs) = true := fun vs => rfl
  have w : ∀ a b f, (∀ hs, pln 3 (f hs) = true) → pln 3 (wayA ps a b f) = true := fun a b f hf => by
    unfold wayA
    split
    · exact hf _
    · rfl
  cases q with
  | way a b => exact w a b _ fun hs => t _
  | least a b => exact w a b (fun hs => onA hs (hs.map (wv ws)) (.least a b)) fun hs => show pln 3 (housA hs (placeA (hs.map (wv ws)) (.least a b))) = true from h _ _
  | great a b => exact w a b (fun hs => onA hs (hs.map (wv ws)) (.great a b)) fun hs => show pln 3 (housA hs (placeA (hs.map (wv ws)) (.great a b))) = true from h _ _
  | at_ a b i => exact w a b (fun hs => onA hs (hs.map (wv ws)) (.at_ a b i)) fun hs => h _ _
  | reach a b v => exact w a b (fun hs => onA hs (hs.map (wv ws)) (.reach a b v)) fun hs => h _ _
  | common a b =>
    show pln 3 (pl (cm ps a b)) = true
    cases cm ps a b <;> rfl
  | _ => rfl
theorem pln_told2 (ps : List (Option Nat)) (ws : List Int) (q : Aq) : pln 4 (.tup [.str (Str.ofString "told"), ansA ps ws q]) = true := by
  show ([D.str (Str.ofString "told"), ansA ps ws q].all (pln 3)) = true
  simp [pln_ans ps ws q]
  rfl
def strsne : Bool := [Str.ofString "root", Str.ofString "depth", Str.ofString "below", Str.ofString "whole", Str.ofString "joined", Str.ofString "common", Str.ofString "way", Str.ofString "where", Str.ofString "at", Str.ofString "reach", Str.ofString "least", Str.ofString "greatest"].Nodup
theorem aq_inj {q r : Aq} (h : q.d = r.d) : q = r := by
  have ne : [Str.ofString "root", Str.ofString "depth", Str.ofString "below", Str.ofString "whole", Str.ofString "joined", Str.ofString "common", Str.ofString "way", Str.ofString "where", Str.ofString "at", Str.ofString "reach", Str.ofString "least", Str.ofString "greatest"].Nodup := by decide +kernel
  simp only [List.nodup_cons, List.mem_cons, List.not_mem_nil, or_false, not_or, List.nodup_nil, and_true, not_false_eq_true] at ne
  cases q <;> cases r <;> simp [Aq.d] at h ⊢ <;> first | omega | (exact absurd h.1 (by simp [ne])) | simp_all

/-! ### lists asked by sq -/
theorem bLen_sq {L : D} {xs : List D} {G : Gp} {R : QK} (h : sq G L = some xs) (z : R (.int xs.length) G) : bLen [L] G R := by
  unfold bLen
  split
  · rename_i e; injection e with e1 e2; subst e1; cases h
  · rename_i e; injection e with e1 e2; subst e1; exact ⟨xs, h, z⟩
  · rename_i n1 n2; exact absurd rfl (n2 L)
theorem ix3_sq {L : D} {xs : List D} {G : Gp} {R : QK} {i : Int} {d : D} (h : sq G L = some xs) (e : atI xs i = some d) (z : R d G) : ix3 L (.int i) G R := by
  unfold ix3
  split
  · cases h
  · rename_i e1 e2; cases e2; exact ⟨xs, d, h, e, z⟩
  · rename_i n1 n2; first | exact absurd rfl (n1 _) | exact absurd rfl (n2 _)
theorem sq_up {L : D} {xs : List D} {G : Gp} {p : Addr} {o : GO} (n : G p = none) (h : sq G L = some xs) : sq (up G p o) L = some xs := by
  cases L with
  | ref q =>
    have ne : q ≠ p := fun z => by
      rw [z] at h
      unfold sq at h
      simp only at h
      rw [n] at h; cases h
    unfold sq at h ⊢
    simp only at h ⊢
    rw [up_ne ne]; exact h
  | _ => exact h
/-! ### right forests by ranks -/
theorem par_rank {ps : List (Option Nat)} (n1 : 1 ≤ ps.length) (n64 : ps.length ≤ 64) (ok : ∀ o ∈ ps, okp ps.length o) (r : Nat → Nat) (hr : ∀ h p, ps[h]? = some (some p) → r p < r h) : ParR ps := by
  refine ⟨n1, n64, ok, fun h hl => ?_⟩
  cases g : goP ps ps.length h with
  | true => rfl
  | false =>
    obtain ⟨h1, h2, h3⟩ := goP_it ok ps.length h hl g
    obtain ⟨i, j, hij, hj, ef⟩ := pigeon ps.length (itP ps h) h3
    have dec : ∀ d, i + d ≤ ps.length → 1 ≤ d → r (itP ps h (i + d)) < r (itP ps h i) := by
      intro d
      induction d with
      | zero => intro _ z; omega
      | succ d ih =>
        intro hd _
        have s := h1 (i + d) (by omega)
        have e : stepP ps (itP ps h (i + d)) = some (itP ps h (i + d + 1)) := by
          show _ = some ((stepP ps (itP ps h (i + d))).getD 0)
          cases z : stepP ps (itP ps h (i + d)) with
          | none => rw [z] at s; cases s
          | some p => rfl
        have e2 : ps[itP ps h (i + d)]? = some (some (itP ps h (i + d + 1))) := by
          unfold stepP at e
          cases z : ps[itP ps h (i + d)]? with
          | none => rw [z] at e; cases e
          | some o => rw [z] at e; simp only at e; rw [e]
        have lt := hr _ _ e2
        by_cases z : d = 0
        · subst z; exact lt
        · have := ih (by omega) (by omega)
          show r (itP ps h (i + d + 1)) < _
          omega
    have := dec (j - i) (by omega) (by omega)
    rw [show i + (j - i) = j by omega, ← ef] at this
    omega
theorem step_get {ps : List (Option Nat)} {h : Nat} (hh : h < ps.length) : ps[h]? = some (stepP ps h) := by
  unfold stepP
  have e : ps[h]? = some ps[h] := by simp [hh]
  rw [e]
section
variable {ps : List (Option Nat)} (pr : ParR ps)
include pr
theorem get_lt {h p : Nat} (e : ps[h]? = some (some p)) : h < ps.length ∧ p < ps.length := ⟨(List.getElem?_eq_some_iff.mp e).1, pr.ok _ (List.mem_of_getElem? e) p rfl⟩
theorem U_edge {h p : Nat} (e : ps[h]? = some (some p)) : U ps h = h :: U ps p := U_cons pr (get_lt pr e).1 e
theorem U_len_in {h x : Nat} (hh : h < ps.length) (m : x ∈ U ps h) : (U ps x).length ≤ (U ps h).length := by
  obtain ⟨A, B, e⟩ := List.append_of_mem m
  rw [← U_tail pr h hh A x B e, e, List.length_append]
  omega
theorem U_notin {h p : Nat} (e : ps[h]? = some (some p)) : h ∉ U ps p := fun m => by
  have := U_len_in pr (get_lt pr e).2 m
  rw [U_edge pr e, List.length_cons] at this
  omega
theorem U_nodup : ∀ h, h < ps.length → (U ps h).Nodup := U_ind pr _ (fun h hh e => by rw [U_nil pr e]; simp) fun h p hh hp e ih => by
  rw [U_cons pr hh e, List.nodup_cons]
  exact ⟨U_notin pr e, ih⟩
theorem top_eq {h x : Nat} (hh : h < ps.length) (m : x ∈ U ps h) : topP ps ps.length h = topP ps ps.length x := by
  obtain ⟨A, B, e⟩ := List.append_of_mem m
  have e2 := U_tail pr h hh A x B e
  have t1 := upP_top ps ps.length h
  have t2 := upP_top ps ps.length x
  have t1 : (U ps h).getLast? = some (topP ps ps.length h) := t1
  have t2 : (U ps x).getLast? = some (topP ps ps.length x) := t2
  rw [e, e2] at t1
  have ne : U ps x ≠ [] := upP_ne ps _ x
  rw [List.getLast?_append, t2] at t1
  simpa using t1.symm
theorem top_root {h : Nat} (hh : h < ps.length) : stepP ps (topP ps ps.length h) = none := (root_iff pr.ok hh).mpr (pr.go h hh)
theorem top_of_root {a : Nat} (e : ps[a]? = some none) : topP ps ps.length a = a := by
  have t := upP_top ps ps.length a
  have t : (U ps a).getLast? = some (topP ps ps.length a) := t
  rw [U_nil pr e] at t
  simpa using t.symm
theorem same_root {a b : Nat} (ha : a < ps.length) (hb : b < ps.length) : (!isN (pl (cm ps a b))) = decide (((topP ps ps.length a : Nat) : Int) = ((topP ps ps.length b : Nat) : Int)) := by
  cases e : cm ps a b with
  | none =>
    have e : (U ps a).find? (fun y => decide (y ∈ U ps b)) = none := e
    rw [List.find?_eq_none] at e
    have := e _ (top_in ps a)
    rw [eq_comm]
    show decide _ = false
    rw [decide_eq_false_iff_not]
    intro z
    have z : topP ps ps.length a = topP ps ps.length b := by omega
    apply this
    rw [z]
    simpa using top_in ps b
  | some t =>
    have e : (U ps a).find? (fun y => decide (y ∈ U ps b)) = some t := e
    have m1 := List.mem_of_find?_eq_some e
    have m2 : t ∈ U ps b := by have := List.find?_some e; simpa using this
    have q1 := top_eq pr ha m1
    have q2 := top_eq pr hb m2
    rw [q1, q2]
    simp [pl, isN]
end
/-! ### deeds -/
theorem set_ok {ps : List (Option Nat)} {a : Nat} {o : Option Nat} (ok : ∀ o ∈ ps, okp ps.length o) (h : okp ps.length o) : ∀ q ∈ ps.set a o, okp (ps.set a o).length q := fun q hq => by
  rw [List.length_set]
  rcases List.mem_or_eq_of_mem_set hq with m | rfl
  · exact ok q m
  · exact h
theorem set_edge {ps : List (Option Nat)} {a h p : Nat} {o : Option Nat} (e : (ps.set a o)[h]? = some (some p)) : (h = a ∧ o = some p) ∨ (h ≠ a ∧ ps[h]? = some (some p)) := by
  by_cases z : a = h
  · subst z
    left
    rw [List.getElem?_set_self'] at e
    refine ⟨rfl, ?_⟩
    cases q : ps[a]? with
    | none => rw [q] at e; cases e
    | some u => rw [q] at e; simpa using e
  · right
    rw [List.getElem?_set_ne z] at e
    exact ⟨fun y => z y.symm, e⟩
theorem par_cut {ps : List (Option Nat)} (pr : ParR ps) (a : Nat) : ParR (ps.set a none) := by
  refine par_rank (by rw [List.length_set]; exact pr.n1) (by rw [List.length_set]; exact pr.n64) (set_ok pr.ok (fun i e => by cases e)) (fun h => (U ps h).length) fun h p e => ?_
  rcases set_edge e with ⟨_, z⟩ | ⟨_, e⟩
  · cases z
  · rw [U_edge pr e]; simp
theorem par_link {ps : List (Option Nat)} (pr : ParR ps) {a b : Nat} (ha : ps[a]? = some none) (hb : b < ps.length) (ht : topP ps ps.length b ≠ a) : ParR (ps.set a (some b)) := by
  have al : a < ps.length := (List.getElem?_eq_some_iff.mp ha).1
  have nb : a ∉ U ps b := fun m => ht (by rw [top_eq pr hb m, top_of_root pr ha])
  refine par_rank (by rw [List.length_set]; exact pr.n1) (by rw [List.length_set]; exact pr.n64) (set_ok pr.ok (fun i e => by cases e; exact hb)) (fun h => (U ps h).length + if a ∈ U ps h then (U ps b).length + 1 else 0) fun h p e => ?_
  rcases set_edge e with ⟨rfl, z⟩ | ⟨ne, e⟩
  · cases z
    show (U ps b).length + (if h ∈ U ps b then (U ps b).length + 1 else 0) < (U ps h).length + (if h ∈ U ps h then (U ps b).length + 1 else 0)
    rw [if_neg nb, if_pos (by rw [U_nil pr ha]; simp)]
    omega
  · show (U ps p).length + (if a ∈ U ps p then (U ps b).length + 1 else 0) < (U ps h).length + (if a ∈ U ps h then (U ps b).length + 1 else 0)
    rw [U_edge pr e, List.length_cons]
    by_cases z : a ∈ U ps p
    · rw [if_pos z, if_pos (List.mem_cons_of_mem _ z)]; omega
    · rw [if_neg z, if_neg (by rw [List.mem_cons]; rintro (rfl | y); exact ne rfl; exact z y)]; omega
/-- turning: the parents along a way, one behind the other -/
def trn (L : List (Nat × Nat)) (ps : List (Option Nat)) : List (Option Nat) := L.foldl (fun s q => s.set q.2 (some q.1)) ps
theorem trn_len : ∀ (L : List (Nat × Nat)) (ps : List (Option Nat)), (trn L ps).length = ps.length
  | [], _ => rfl
  | q :: L, ps => by
    show (trn L (ps.set q.2 (some q.1))).length = _
    rw [trn_len L, List.length_set]
theorem trn_edge : ∀ (L : List (Nat × Nat)) (ps : List (Option Nat)) {h p : Nat}, (trn L ps)[h]? = some (some p) → (ps[h]? = some (some p) ∧ ∀ q ∈ L, q.2 ≠ h) ∨ (p, h) ∈ L
  | [], _, _, _, e => .inl ⟨e, by simp⟩
  | q :: L, ps, h, p, e => by
    rcases trn_edge L (ps.set q.2 (some q.1)) e with ⟨e, no⟩ | m
    · rcases set_edge e with ⟨z1, z2⟩ | ⟨z1, z2⟩
      · right
        cases z2
        rw [z1]
        exact List.mem_cons_self ..
      · left
        refine ⟨z2, fun x hx => ?_⟩
        rcases List.mem_cons.mp hx with rfl | hx
        · exact fun y => z1 y.symm
        · exact no x hx
    · exact .inr (List.mem_cons_of_mem _ m)
theorem trn_none : ∀ (L : List (Nat × Nat)) (ps : List (Option Nat)) (h : Nat), (∀ q ∈ L, q.2 ≠ h) → trn L (ps.set h none) = (trn L ps).set h none
  | [], _, _, _ => rfl
  | q :: L, ps, h, no => by
    show trn L ((ps.set h none).set q.2 (some q.1)) = (trn L (ps.set q.2 (some q.1))).set h none
    rw [List.set_comm _ _ (fun z => no q (by simp) z.symm)]
    exact trn_none L _ h fun x hx => no x (List.mem_cons_of_mem _ hx)
theorem zip_adj : ∀ {l : List Nat} {p z : Nat}, (p, z) ∈ l.zip l.tail → ∃ A B, l = A ++ p :: z :: B
  | [], _, _, m => by cases m
  | [x], _, _, m => by cases m
  | x :: y :: r, p, z, m => by
    have m : (p, z) ∈ (x, y) :: (y :: r).zip r := m
    rcases List.mem_cons.mp m with e | m
    · cases e; exact ⟨[], r, rfl⟩
    · obtain ⟨A, B, e⟩ := zip_adj (l := y :: r) m
      exact ⟨x :: A, B, by rw [e]; rfl⟩
theorem zip_snd {l : List Nat} {q : Nat × Nat} (m : q ∈ l.zip l.tail) : q.2 ∈ l.tail := (List.of_mem_zip (a := q.1) (b := q.2) m).2
def turnP (ps : List (Option Nat)) (h : Nat) : List (Option Nat) := (trn ((U ps h).zip (U ps h).tail) ps).set h none
section
variable {ps : List (Option Nat)} (pr : ParR ps)
include pr
theorem tail_not {h : Nat} (hh : h < ps.length) : ∀ q ∈ (U ps h).zip (U ps h).tail, q.2 ≠ h := fun q m z => by
  have n := U_nodup pr h hh
  obtain ⟨t, e⟩ := U_head pr hh
  have m := zip_snd m
  rw [e] at n m
  rw [z] at m
  exact (List.nodup_cons.mp n).1 m
theorem par_turn {h : Nat} (hh : h < ps.length) : ParR (turnP ps h) := by
  have lt := U_lt pr h hh
  have adj : ∀ {p z}, (p, z) ∈ (U ps h).zip (U ps h).tail → p ∈ U ps h ∧ z ∈ U ps h ∧ U ps p = p :: U ps z := fun {p z} m => by
    obtain ⟨A, B, e⟩ := zip_adj m
    have e1 := U_tail pr h hh A p (z :: B) e
    have e2 := U_tail pr h hh (A ++ [p]) z B (by rw [e]; simp)
    refine ⟨by rw [e]; simp, by rw [e]; simp, ?_⟩
    rw [← e1, e2]
  have ml : ∀ {z}, z ∈ U ps h → z ≠ h → z ∈ (U ps h).tail := fun {z} m ne => by
    obtain ⟨t, e⟩ := U_head pr hh
    rw [e] at m ⊢
    rcases List.mem_cons.mp m with rfl | m
    · exact absurd rfl ne
    · exact m
  have sn : ∀ {l : List Nat} {z}, z ∈ l.tail → ∃ q ∈ l.zip l.tail, q.2 = z := fun {l z} m => by
    obtain ⟨i, hi, e⟩ := List.getElem_of_mem m
    have hi2 : i < l.length := by rw [List.length_tail] at hi; omega
    refine ⟨(l[i], l.tail[i]), ?_, e⟩
    rw [List.mem_iff_getElem]
    exact ⟨i, by rw [List.length_zip, List.length_tail] at *; omega, by simp⟩
  have len : (turnP ps h).length = ps.length := by unfold turnP; rw [List.length_set, trn_len]
  have edge : ∀ {x p}, (turnP ps h)[x]? = some (some p) → (x ∉ U ps h ∧ ps[x]? = some (some p)) ∨ ((p, x) ∈ (U ps h).zip (U ps h).tail) := fun {x p} e => by
    rcases set_edge e with ⟨_, z⟩ | ⟨ne, e⟩
    · cases z
    · rcases trn_edge _ _ e with ⟨e, no⟩ | m
      · refine .inl ⟨fun m => ?_, e⟩
        obtain ⟨q, m1, m2⟩ := sn (ml m ne)
        exact no q m1 m2
      · exact .inr m
  refine par_rank (by rw [len]; exact pr.n1) (by rw [len]; exact pr.n64) (fun o ho i ei => ?_) (fun x => if x ∈ U ps h then (U ps h).length - (U ps x).length else 100 + (U ps x).length) fun x p e => ?_
  · subst ei
    rw [len]
    obtain ⟨x, hx⟩ := List.getElem?_of_mem ho
    rcases edge hx with ⟨_, e⟩ | m
    · exact (get_lt pr e).2
    · exact lt _ (adj m).1
  · show (if p ∈ U ps h then (U ps h).length - (U ps p).length else 100 + (U ps p).length) < (if x ∈ U ps h then (U ps h).length - (U ps x).length else 100 + (U ps x).length)
    rcases edge e with ⟨nx, e⟩ | m
    · rw [if_neg nx, U_edge pr e, List.length_cons]
      have := U_len ps h
      have := pr.n64
      split <;> omega
    · obtain ⟨m1, m2, e3⟩ := adj m
      rw [if_pos m1, if_pos m2, e3, List.length_cons]
      have := U_len_in pr hh m1
      rw [e3, List.length_cons] at this
      omega
theorem way_nodup {a b t : Nat} (ha : a < ps.length) (hb : b < ps.length) (e : cm ps a b = some t) : (wayL ps a b t).Nodup := by
  have e2 : (U ps b).find? (fun y => decide (y ∈ U ps a)) = some t := (first_common pr ha hb).trans e
  obtain ⟨_, A, B, q, no⟩ := List.find?_eq_some_iff_append.mp e2
  have nb := U_nodup pr b hb
  have na := U_nodup pr a ha
  have nt : t ∉ A := fun m => by
    rw [q] at nb
    exact (List.nodup_append.mp nb).2.2 t m t (by simp) rfl
  have ti : (U ps b).take ((U ps b).idxOf t) = A := by
    rw [q, List.idxOf_append, if_neg nt]
    simp
  unfold wayL
  rw [ti, List.nodup_append]
  refine ⟨List.Sublist.nodup (List.take_sublist _ _) na, ?_, fun x mx y my z => ?_⟩
  · refine (List.reverse_perm A).nodup_iff.mpr ?_
    rw [q] at nb
    exact (List.nodup_append.mp nb).1
  · subst z
    have := no x (List.mem_reverse.mp my)
    simp at this
    exact this (List.mem_of_mem_take mx)
end
/-- adding along houses -/
def addH (hs : List Nat) (v : Int) (ws : List Int) : List Int := hs.foldl (fun s h => s.set h (s.getD h 0 + v)) ws
theorem addH_len : ∀ (hs : List Nat) (v : Int) (ws : List Int), (addH hs v ws).length = ws.length
  | [], _, _ => rfl
  | h :: hs, v, ws => by
    show (addH hs v (ws.set h _)).length = _
    rw [addH_len hs, List.length_set]
theorem addH_get (v : Int) : ∀ (hs : List Nat) (ws : List Int) (j : Nat), hs.Nodup → j < ws.length → (addH hs v ws).getD j 0 = ws.getD j 0 + (if j ∈ hs then v else 0)
  | [], ws, j, _, _ => by simp [addH]
  | h :: hs, ws, j, nd, hj => by
    obtain ⟨n1, n2⟩ := List.nodup_cons.mp nd
    show (addH hs v (ws.set h (ws.getD h 0 + v))).getD j 0 = _
    rw [addH_get v hs _ j n2 (by rw [List.length_set]; exact hj)]
    by_cases z : j = h
    · subst z
      rw [if_neg n1, if_pos (by simp)]
      simp [hj]
    · rw [List.getD_eq_getElem?_getD, List.getElem?_set_ne (fun y => z y.symm), ← List.getD_eq_getElem?_getD]
      by_cases y : j ∈ hs
      · rw [if_pos y, if_pos (List.mem_cons_of_mem _ y)]
      · rw [if_neg y, if_neg (by rw [List.mem_cons]; rintro (k | k); exact z k; exact y k)]
inductive Dq where
  | link (a b : Nat) | cut (a : Nat) | turn (a : Nat) | put (a : Nat) (v : Int) | add (a b : Nat) (v : Int)
def Dq.d : Dq → D
  | .link a b => .tup [.str (Str.ofString "link"), .int a, .int b]
  | .cut a => .tup [.str (Str.ofString "cut"), .int a]
  | .turn a => .tup [.str (Str.ofString "turn"), .int a]
  | .put a v => .tup [.str (Str.ofString "put"), .int a, .int v]
  | .add a b v => .tup [.str (Str.ofString "add"), .int a, .int b, .int v]
def Dq.ok (n : Nat) : Dq → Prop
  | .link a b => a < n ∧ b < n
  | .cut a => a < n
  | .turn a => a < n
  | .put a _ => a < n
  | .add a b _ => a < n ∧ b < n
def natD : D → Nat
  | .int i => i.toNat
  | _ => 0
def intV : D → Int
  | .int i => i
  | _ => 0
def pLink (n : Nat) : List D → Option Dq
  | [x, y] => if (wiI 0 ((n : Int) - 1) x && wiI 0 ((n : Int) - 1) y) = true then some (.link (natD x) (natD y)) else none
  | _ => none
def pCut (n : Nat) : List D → Option Dq
  | [x] => if wiI 0 ((n : Int) - 1) x = true then some (.cut (natD x)) else none
  | _ => none
def pTurn (n : Nat) : List D → Option Dq
  | [x] => if wiI 0 ((n : Int) - 1) x = true then some (.turn (natD x)) else none
  | _ => none
def pPut (n : Nat) : List D → Option Dq
  | [x, y] => if (wiI 0 ((n : Int) - 1) x && isI y) = true then some (.put (natD x) (intV y)) else none
  | _ => none
def pAdd (n : Nat) : List D → Option Dq
  | [x, y, z] => if (wiI 0 ((n : Int) - 1) x && (wiI 0 ((n : Int) - 1) y && isI z)) = true then some (.add (natD x) (natD y) (intV z)) else none
  | _ => none
def prsW (n : Nat) (w : Str) (xs : List D) : Option Dq :=
  if w = Str.ofString "link" then pLink n xs else if w = Str.ofString "cut" then pCut n xs else if w = Str.ofString "turn" then pTurn n xs else if w = Str.ofString "put" then pPut n xs else if w = Str.ofString "add" then pAdd n xs else none
def prs (n : Nat) : D → Option Dq
  | .tup (.str w :: xs) => prsW n w xs
  | _ => none
theorem prs_link (n : Nat) (xs : List D) : prsW n (Str.ofString "link") xs = pLink n xs := if_pos rfl
theorem prs_cut (n : Nat) (xs : List D) : prsW n (Str.ofString "cut") xs = pCut n xs := by
  unfold prsW; rw [if_neg (by decide +kernel), if_pos rfl]
theorem prs_turn (n : Nat) (xs : List D) : prsW n (Str.ofString "turn") xs = pTurn n xs := by
  unfold prsW; rw [if_neg (by decide +kernel), if_neg (by decide +kernel), if_pos rfl]
theorem prs_put (n : Nat) (xs : List D) : prsW n (Str.ofString "put") xs = pPut n xs := by
  unfold prsW; rw [if_neg (by decide +kernel), if_neg (by decide +kernel), if_neg (by decide +kernel), if_pos rfl]
theorem prs_add (n : Nat) (xs : List D) : prsW n (Str.ofString "add") xs = pAdd n xs := by
  unfold prsW; rw [if_neg (by decide +kernel), if_neg (by decide +kernel), if_neg (by decide +kernel), if_neg (by decide +kernel), if_pos rfl]
theorem w_cases {P : Str → Prop} (w : Str) (h1 : P (Str.ofString "link")) (h2 : P (Str.ofString "cut")) (h3 : P (Str.ofString "turn")) (h4 : P (Str.ofString "put")) (h5 : P (Str.ofString "add"))
    (h6 : w ≠ Str.ofString "link" → w ≠ Str.ofString "cut" → w ≠ Str.ofString "turn" → w ≠ Str.ofString "put" → w ≠ Str.ofString "add" → P w) : P w := by
  by_cases e1 : w = Str.ofString "link"
  · subst e1; exact h1
  by_cases e2 : w = Str.ofString "cut"
  · subst e2; exact h2
  by_cases e3 : w = Str.ofString "turn"
  · subst e3; exact h3
  by_cases e4 : w = Str.ofString "put"
  · subst e4; exact h4
  by_cases e5 : w = Str.ofString "add"
  · subst e5; exact h5
  exact h6 e1 e2 e3 e4 e5
theorem prs_no {n : Nat} {w : Str} {xs : List D} (e1 : w ≠ Str.ofString "link") (e2 : w ≠ Str.ofString "cut") (e3 : w ≠ Str.ofString "turn") (e4 : w ≠ Str.ofString "put") (e5 : w ≠ Str.ofString "add") : prsW n w xs = none := by
  unfold prsW; rw [if_neg e1, if_neg e2, if_neg e3, if_neg e4, if_neg e5]
theorem nat_int {n : Nat} {x : D} (h : wiI 0 ((n : Int) - 1) x = true) : x = .int (natD x : Nat) ∧ natD x < n := by
  obtain ⟨j, rfl, hj⟩ := wi_nat h
  exact ⟨rfl, hj⟩
theorem int_int {x : D} (h : isI x = true) : x = .int (intV x) := by
  obtain ⟨i, rfl⟩ := isI_of h
  rfl
theorem prs_d {n : Nat} {x : D} {q : Dq} (h : prs n x = some q) : x = q.d ∧ q.ok n := by
  cases x with
  | tup xs =>
    cases xs with
    | nil => cases h
    | cons y xs =>
      cases y with
      | str w =>
        have h : prsW n w xs = some q := h
        revert h
        refine w_cases (P := fun w => prsW n w xs = some q → D.tup (.str w :: xs) = q.d ∧ q.ok n) w ?_ ?_ ?_ ?_ ?_ ?_
        · rw [prs_link]
          intro h
          match xs, h with
          | [x, y], h =>
            have h : (if (wiI 0 ((n : Int) - 1) x && wiI 0 ((n : Int) - 1) y) = true then some (Dq.link (natD x) (natD y)) else none) = some q := h
            by_cases z : (wiI 0 ((n : Int) - 1) x && wiI 0 ((n : Int) - 1) y) = true
            · rw [if_pos z] at h
              cases h
              rw [Bool.and_eq_true] at z
              obtain ⟨ex, hx⟩ := nat_int z.1
              obtain ⟨ey, hy⟩ := nat_int z.2
              exact ⟨by rw [ex, ey]; rfl, hx, hy⟩
            · rw [if_neg z] at h; cases h
        · rw [prs_cut]
          intro h
          match xs, h with
          | [x], h =>
            have h : (if wiI 0 ((n : Int) - 1) x = true then some (Dq.cut (natD x)) else none) = some q := h
            by_cases z : wiI 0 ((n : Int) - 1) x = true
            · rw [if_pos z] at h
              cases h
              obtain ⟨ex, hx⟩ := nat_int z
              exact ⟨by rw [ex]; rfl, hx⟩
            · rw [if_neg z] at h; cases h
        · rw [prs_turn]
          intro h
          match xs, h with
          | [x], h =>
            have h : (if wiI 0 ((n : Int) - 1) x = true then some (Dq.turn (natD x)) else none) = some q := h
            by_cases z : wiI 0 ((n : Int) - 1) x = true
            · rw [if_pos z] at h
              cases h
              obtain ⟨ex, hx⟩ := nat_int z
              exact ⟨by rw [ex]; rfl, hx⟩
            · rw [if_neg z] at h; cases h
        · rw [prs_put]
          intro h
          match xs, h with
          | [x, y], h =>
            have h : (if (wiI 0 ((n : Int) - 1) x && isI y) = true then some (Dq.put (natD x) (intV y)) else none) = some q := h
            by_cases z : (wiI 0 ((n : Int) - 1) x && isI y) = true
            · rw [if_pos z] at h
              cases h
              rw [Bool.and_eq_true] at z
              obtain ⟨ex, hx⟩ := nat_int z.1
              have ey := int_int z.2
              refine ⟨?_, hx⟩
              show D.tup [.str (Str.ofString "put"), x, y] = D.tup [.str (Str.ofString "put"), .int (natD x : Nat), .int (intV y)]
              rw [← ex, ← ey]
            · rw [if_neg z] at h; cases h
        · rw [prs_add]
          intro h
          match xs, h with
          | [x, y, z], h =>
            have h : (if (wiI 0 ((n : Int) - 1) x && (wiI 0 ((n : Int) - 1) y && isI z)) = true then some (Dq.add (natD x) (natD y) (intV z)) else none) = some q := h
            by_cases k : (wiI 0 ((n : Int) - 1) x && (wiI 0 ((n : Int) - 1) y && isI z)) = true
            · rw [if_pos k] at h
              cases h
              rw [Bool.and_eq_true, Bool.and_eq_true] at k
              obtain ⟨ex, hx⟩ := nat_int k.1
              obtain ⟨ey, hy⟩ := nat_int k.2.1
              have ez := int_int k.2.2
              refine ⟨?_, hx, hy⟩
              show D.tup [.str (Str.ofString "add"), x, y, z] = D.tup [.str (Str.ofString "add"), .int (natD x : Nat), .int (natD y : Nat), .int (intV z)]
              rw [← ex, ← ey, ← ez]
            · rw [if_neg k] at h; cases h
        · intro e1 e2 e3 e4 e5 h
          rw [prs_no e1 e2 e3 e4 e5] at h
          cases h
      | _ => cases h
  | _ => cases h
abbrev SZ : List (Str × Int) := [((Str.ofString "link"), 3), ((Str.ofString "cut"), 2), ((Str.ofString "turn"), 2), ((Str.ofString "put"), 3), ((Str.ofString "add"), 4)]
abbrev HZ : List (Str × Int) := [((Str.ofString "link"), 2), ((Str.ofString "cut"), 1), ((Str.ofString "turn"), 1), ((Str.ofString "put"), 1), ((Str.ofString "add"), 2)]
theorem sz_cases (n : Nat) (w : Str) (xs : List D) : (lkI SZ w = none ∧ prsW n w xs = none) ∨ ∃ k m : Nat, lkI SZ w = some (k : Int) ∧ lkI HZ w = some (m : Int) ∧ 2 ≤ k ∧
    (prsW n w xs).isSome = (decide (xs.length + 1 = k) && ((xs.take m).all (wiI 0 ((n : Int) - 1)) && (xs.drop m).all isI)) := by
  refine w_cases (P := fun w => (lkI SZ w = none ∧ prsW n w xs = none) ∨ ∃ k m : Nat, lkI SZ w = some (k : Int) ∧ lkI HZ w = some (m : Int) ∧ 2 ≤ k ∧ (prsW n w xs).isSome = (decide (xs.length + 1 = k) && ((xs.take m).all (wiI 0 ((n : Int) - 1)) && (xs.drop m).all isI))) w ?_ ?_ ?_ ?_ ?_ ?_
  · refine .inr ⟨3, 2, by decide +kernel, by decide +kernel, by decide, ?_⟩
    rw [prs_link]
    match xs with
    | [] => rfl
    | [x] => rfl
    | [x, y] =>
      show (if (wiI 0 ((n : Int) - 1) x && wiI 0 ((n : Int) - 1) y) = true then some (Dq.link (natD x) (natD y)) else none).isSome = _
      by_cases h1 : wiI 0 ((n : Int) - 1) x = true <;> by_cases h2 : wiI 0 ((n : Int) - 1) y = true <;> simp [h1, h2]
    | x :: y :: z :: r => simp [pLink]
  · refine .inr ⟨2, 1, by decide +kernel, by decide +kernel, by decide, ?_⟩
    rw [prs_cut]
    match xs with
    | [] => rfl
    | [x] =>
      show (if wiI 0 ((n : Int) - 1) x = true then some (Dq.cut (natD x)) else none).isSome = _
      by_cases h1 : wiI 0 ((n : Int) - 1) x = true <;> simp [h1]
    | x :: y :: r => simp [pCut]
  · refine .inr ⟨2, 1, by decide +kernel, by decide +kernel, by decide, ?_⟩
    rw [prs_turn]
    match xs with
    | [] => rfl
    | [x] =>
      show (if wiI 0 ((n : Int) - 1) x = true then some (Dq.turn (natD x)) else none).isSome = _
      by_cases h1 : wiI 0 ((n : Int) - 1) x = true <;> simp [h1]
    | x :: y :: r => simp [pTurn]
  · refine .inr ⟨3, 1, by decide +kernel, by decide +kernel, by decide, ?_⟩
    rw [prs_put]
    match xs with
    | [] => rfl
    | [x] => simp [pPut]
    | [x, y] =>
      show (if (wiI 0 ((n : Int) - 1) x && isI y) = true then some (Dq.put (natD x) (intV y)) else none).isSome = _
      by_cases h1 : wiI 0 ((n : Int) - 1) x = true <;> by_cases h2 : isI y = true <;> simp [h1, h2]
    | x :: y :: z :: r => simp [pPut]
  · refine .inr ⟨4, 2, by decide +kernel, by decide +kernel, by decide, ?_⟩
    rw [prs_add]
    match xs with
    | [] => rfl
    | [x] => rfl
    | [x, y] => simp [pAdd]
    | [x, y, z] =>
      show (if (wiI 0 ((n : Int) - 1) x && (wiI 0 ((n : Int) - 1) y && isI z)) = true then some (Dq.add (natD x) (natD y) (intV z)) else none).isSome = _
      by_cases h1 : wiI 0 ((n : Int) - 1) x = true <;> by_cases h2 : wiI 0 ((n : Int) - 1) y = true <;> by_cases h3 : isI z = true <;> simp [h1, h2, h3]
    | x :: y :: z :: u :: r => simp [pAdd]
  · intro e1 e2 e3 e4 e5
    refine .inl ⟨?_, prs_no e1 e2 e3 e4 e5⟩
    have b : ∀ {k : Str}, w ≠ k → (k == w) = false := fun {k} h => by rw [beq_eq_false_iff_ne]; exact fun z => h z.symm
    simp [lkI, b e1, b e2, b e3, b e4, b e5]
theorem cut_a (x : D) (xs : List D) (m : Nat) : L3.cutD (x :: xs) (some 1) (some (1 + (m : Int))) = xs.take m := by
  unfold L3.cutD
  rw [show (1 : Int) = ((1 : Nat) : Int) from rfl, show ((1 : Nat) : Int) + (m : Int) = ((1 + m : Nat) : Int) by omega, HT.sIx_nat, HT.sIx_nat, List.length_cons, show min 1 (xs.length + 1) = 1 by omega]
  rw [List.drop_succ_cons, List.drop_zero]
  apply List.take_eq_take_iff.mpr
  omega
theorem cut_b (x : D) (xs : List D) (m : Nat) : L3.cutD (x :: xs) (some (1 + (m : Int))) none = xs.drop m := by
  unfold L3.cutD
  rw [HT.sIx_none, show (1 : Int) + (m : Int) = ((1 + m : Nat) : Int) by omega, HT.sIx_nat, List.length_cons]
  by_cases h : m ≤ xs.length
  · rw [Nat.min_eq_left (by omega), Nat.add_comm 1 m, List.drop_succ_cons]
    exact List.take_of_length_le (by rw [List.length_drop]; omega)
  · rw [Nat.min_eq_right (by omega), List.drop_succ_cons, List.drop_eq_nil_of_le (as := xs) (i := m) (by omega)]
    simp
theorem cut_set (xs : List D) (j : Nat) (x : D) (h : j < xs.length) : L3.cutD xs none (some (j : Int)) ++ [x] ++ L3.cutD xs (some ((j : Int) + 1)) none = xs.set j x := by
  unfold L3.cutD
  rw [HT.sIx_none, HT.sIx_none, show (j : Int) + 1 = ((j + 1 : Nat) : Int) by omega, HT.sIx_nat, HT.sIx_nat, List.drop_zero, Nat.sub_zero, Nat.min_eq_left (by omega), Nat.min_eq_left (by omega)]
  rw [List.take_of_length_le (l := xs.drop (j + 1)) (by rw [List.length_drop]; omega), List.set_eq_take_append_cons_drop, if_pos h]
  simp
theorem cut_2 (x y : D) (r : List D) : L3.cutD (x :: y :: r) none (some 2) = [x, y] := by
  unfold L3.cutD
  rw [HT.sIx_none, show (2 : Int) = ((2 : Nat) : Int) from rfl, HT.sIx_nat, List.length_cons, List.length_cons, Nat.min_eq_left (by omega)]
  simp
def canQ (ps : List (Option Nat)) : Dq → Bool
  | .link a b => isN (pl (stepP ps a)) && !decide (((topP ps ps.length b : Nat) : Int) = (a : Int))
  | .cut a => !isN (pl (stepP ps a))
  | .turn _ => true
  | .put _ _ => true
  | .add a b _ => decide (((topP ps ps.length a : Nat) : Int) = ((topP ps ps.length b : Nat) : Int))
def doP (ps : List (Option Nat)) : Dq → List (Option Nat)
  | .link a b => ps.set a (some b)
  | .cut a => ps.set a none
  | .turn a => turnP ps a
  | .put _ _ => ps
  | .add _ _ _ => ps
def doW (ps : List (Option Nat)) (ws : List Int) : Dq → List Int
  | .put a v => ws.set a v
  | .add a b v => (match cm ps a b with
    | some t => addH (wayL ps a b t) v ws
    | none => ws)
  | _ => ws
theorem do_par {ps : List (Option Nat)} (pr : ParR ps) {q : Dq} (hok : q.ok ps.length) (hc : canQ ps q = true) : ParR (doP ps q) ∧ (doP ps q).length = ps.length := by
  cases q with
  | link a b =>
    have hc : (isN (pl (stepP ps a)) && !decide (((topP ps ps.length b : Nat) : Int) = (a : Int))) = true := hc
    rw [Bool.and_eq_true, Bool.not_eq_true', decide_eq_false_iff_not] at hc
    have e := step_get hok.1
    rw [pl_isN.mp hc.1] at e
    exact ⟨par_link pr e hok.2 (by have := hc.2; omega), List.length_set⟩
  | cut a => exact ⟨par_cut pr a, List.length_set⟩
  | turn a => exact ⟨par_turn pr hok, by show (turnP ps a).length = _; unfold turnP; rw [List.length_set, trn_len]⟩
  | put a v => exact ⟨pr, rfl⟩
  | add a b v => exact ⟨pr, rfl⟩
theorem doW_len (ps : List (Option Nat)) (ws : List Int) (q : Dq) : (doW ps ws q).length = ws.length := by
  cases q with
  | put a v => exact List.length_set
  | add a b v =>
    show (match cm ps a b with | some t => addH (wayL ps a b t) v ws | none => ws).length = _
    cases cm ps a b with
    | none => rfl
    | some t => exact addH_len _ _ _
  | _ => rfl
/-- can the thing be done -/
def canD (ps : List (Option Nat)) (x : D) : Bool := match prs ps.length x with
  | some q => canQ ps q
  | none => false
structure Fs where
  ps : List (Option Nat)
  ws : List Int
structure Fs.ok (s : Fs) : Prop where
  pr : ParR s.ps
  wl : s.ws.length = s.ps.length
def Fs.go (s : Fs) (x : D) : Fs := match prs s.ps.length x with
  | some q => ⟨doP s.ps q, doW s.ps s.ws q⟩
  | none => s
theorem can_q {ps : List (Option Nat)} {x : D} (h : canD ps x = true) : ∃ q, prs ps.length x = some q ∧ x = q.d ∧ q.ok ps.length ∧ canQ ps q = true := by
  unfold canD at h
  cases e : prs ps.length x with
  | none => rw [e] at h; cases h
  | some q =>
    rw [e] at h
    obtain ⟨h1, h2⟩ := prs_d e
    exact ⟨q, rfl, h1, h2, h⟩
theorem Fs.go_ok {s : Fs} (o : s.ok) {x : D} (h : canD s.ps x = true) : (s.go x).ok := by
  obtain ⟨q, e, _, hok, hc⟩ := can_q h
  unfold Fs.go
  rw [e]
  obtain ⟨h1, h2⟩ := do_par o.pr hok hc
  exact ⟨h1, by show (doW s.ps s.ws q).length = (doP s.ps q).length; rw [doW_len, h2, o.wl]⟩
/-- a row of deeds, all of which can be done, one behind the other -/
def Fs.row (s : Fs) : List D → Prop
  | [] => True
  | x :: r => canD s.ps x = true ∧ (s.go x).row r
def Fs.end_ (s : Fs) (xs : List D) : Fs := xs.foldl Fs.go s
theorem Fs.row_app : ∀ {xs : List D} {s : Fs} {x : D}, s.row (xs ++ [x]) ↔ s.row xs ∧ canD (s.end_ xs).ps x = true
  | [], s, x => by simp [Fs.row, Fs.end_]
  | y :: xs, s, x => by
    show (canD s.ps y = true ∧ (s.go y).row (xs ++ [x])) ↔ _
    rw [Fs.row_app]
    show _ ↔ (canD s.ps y = true ∧ (s.go y).row xs) ∧ canD ((s.go y).end_ xs).ps x = true
    rw [and_assoc]
theorem Fs.row_take : ∀ {xs : List D} {s : Fs} (k : Nat), s.row xs → s.row (xs.take k)
  | _, _, 0, _ => trivial
  | [], _, _ + 1, _ => trivial
  | y :: xs, s, k + 1, h => ⟨h.1, Fs.row_take k h.2⟩
theorem Fs.end_ok : ∀ {xs : List D} {s : Fs}, s.ok → s.row xs → (s.end_ xs).ok
  | [], _, o, _ => o
  | x :: xs, s, o, h => Fs.end_ok (xs := xs) (Fs.go_ok o h.1) h.2
theorem Fs.end_app (s : Fs) (xs ys : List D) : s.end_ (xs ++ ys) = (s.end_ xs).end_ ys := List.foldl_append
theorem Fs.row_at : ∀ {xs : List D} {s : Fs} {k : Nat} {x : D}, s.row xs → xs[k]? = some x → canD (s.end_ (xs.take k)).ps x = true ∧ s.end_ (xs.take (k + 1)) = (s.end_ (xs.take k)).go x
  | [], _, _, _, _, e => by cases e
  | y :: xs, s, 0, x, h, e => by cases e; exact ⟨h.1, rfl⟩
  | y :: xs, s, k + 1, x, h, e => Fs.row_at (xs := xs) (s := s.go y) h.2 (by simpa using e)

theorem sC (n : Nat) : ∀ xs, (pCut n xs).isSome = (decide (xs.length = 1) && xs.all (wiI 0 ((n : Int) - 1)))
  | [] => rfl
  | [x] => by
    show (if wiI 0 ((n : Int) - 1) x = true then some (Dq.cut (natD x)) else none).isSome = _
    by_cases h1 : wiI 0 ((n : Int) - 1) x = true <;> simp [h1]
  | x :: y :: r => by simp [pCut]
theorem sT (n : Nat) : ∀ xs, (pTurn n xs).isSome = (decide (xs.length = 1) && xs.all (wiI 0 ((n : Int) - 1)))
  | [] => rfl
  | [x] => by
    show (if wiI 0 ((n : Int) - 1) x = true then some (Dq.turn (natD x)) else none).isSome = _
    by_cases h1 : wiI 0 ((n : Int) - 1) x = true <;> simp [h1]
  | x :: y :: r => by simp [pTurn]
theorem sL (n : Nat) : ∀ xs, (pLink n xs).isSome = (decide (xs.length = 2) && xs.all (wiI 0 ((n : Int) - 1)))
  | [] => rfl
  | [x] => by simp [pLink]
  | [x, y] => by
    show (if (wiI 0 ((n : Int) - 1) x && wiI 0 ((n : Int) - 1) y) = true then some (Dq.link (natD x) (natD y)) else none).isSome = _
    by_cases h1 : wiI 0 ((n : Int) - 1) x = true <;> by_cases h2 : wiI 0 ((n : Int) - 1) y = true <;> simp [h1, h2]
  | x :: y :: z :: r => by simp [pLink]
theorem sP (n : Nat) : ∀ xs, (pPut n xs).isSome = (decide (xs.length = 2) && ((xs.take 1).all (wiI 0 ((n : Int) - 1)) && (xs.drop 1).all isI))
  | [] => rfl
  | [x] => by simp [pPut]
  | [x, y] => by
    show (if (wiI 0 ((n : Int) - 1) x && isI y) = true then some (Dq.put (natD x) (intV y)) else none).isSome = _
    by_cases h1 : wiI 0 ((n : Int) - 1) x = true <;> by_cases h2 : isI y = true <;> simp [h1, h2]
  | x :: y :: z :: r => by simp [pPut]
theorem sA (n : Nat) : ∀ xs, (pAdd n xs).isSome = (decide (xs.length = 3) && ((xs.take 2).all (wiI 0 ((n : Int) - 1)) && (xs.drop 2).all isI))
  | [] => rfl
  | [x] => by simp [pAdd]
  | [x, y] => by simp [pAdd]
  | [x, y, z] => by
    show (if (wiI 0 ((n : Int) - 1) x && (wiI 0 ((n : Int) - 1) y && isI z)) = true then some (Dq.add (natD x) (natD y) (intV z)) else none).isSome = _
    by_cases h1 : wiI 0 ((n : Int) - 1) x = true <;> by_cases h2 : wiI 0 ((n : Int) - 1) y = true <;> by_cases h3 : isI z = true <;> simp [h1, h2, h3]
  | x :: y :: z :: u :: r => by simp [pAdd]
theorem prs_short {n : Nat} : ∀ {xs : List D}, xs.length < 2 → prs n (.tup xs) = none
  | [], _ => rfl
  | [a], _ => by
    cases a with
    | str w =>
      show prsW n w [] = none
      rcases sz_cases n w [] with ⟨_, e⟩ | ⟨k, m, _, _, k2, e⟩
      · exact e
      · have : (prsW n w []).isSome = false := by
          rw [e, decide_eq_false (show ¬ ([] : List D).length + 1 = k by show ¬ (1 = k); omega), Bool.false_and]
        cases z : prsW n w [] with
        | none => rfl
        | some q => rw [z] at this; cases this
    | _ => rfl
  | a :: b :: r, h => absurd h (by simp)
theorem ct_of {w : Str} (h : inD (.str w) [.str (Str.ofString "cut"), .str (Str.ofString "turn")] = true) : w = Str.ofString "cut" ∨ w = Str.ofString "turn" := by
  simp only [inD, List.any_cons, List.any_nil, eqD, Bool.or_eq_true, beq_iff_eq, Bool.false_eq_true, or_false] at h
  rcases h with h | h <;> simp [← h]
theorem ct_no {w : Str} (h : inD (.str w) [.str (Str.ofString "cut"), .str (Str.ofString "turn")] = false) : w ≠ Str.ofString "cut" ∧ w ≠ Str.ofString "turn" := by
  constructor
  · rintro rfl
    exact absurd h (by decide +kernel)
  · rintro rfl
    exact absurd h (by decide +kernel)
/-- known things, not long -/
def wks : D → Bool
  | .tup xs => xs.all (kn OC) && decide (xs.length ≤ 1000)
  | x => kn OC x
theorem wks_wkr {x : D} (h : wks x = true) : wkr x = true := by
  cases x with
  | tup xs =>
    have h : (xs.all (kn OC) && decide (xs.length ≤ 1000)) = true := h
    rw [Bool.and_eq_true] at h
    exact h.1
  | _ => exact h
theorem wks_len {x : D} (h : wks x = true) : ∀ xs, x = .tup xs → xs.length ≤ 1000 := by
  rintro xs rfl
  have h : (xs.all (kn OC) && decide (xs.length ≤ 1000)) = true := h
  rw [Bool.and_eq_true] at h
  exact of_decide_eq_true h.2
theorem wks_tup {xs : List D} (h : ∀ y ∈ xs, kn OC y = true) (l : xs.length ≤ 1000) : wks (.tup xs) = true := by
  show (xs.all (kn OC) && decide (xs.length ≤ 1000)) = true
  rw [List.all_eq_true.mpr h, decide_eq_true l]; rfl
def fA (hs : List Nat) (v : Int) : D → Option D
  | .tup [.int k, .int x] => some (.int (x + if k.toNat ∈ hs then v else 0))
  | _ => none
theorem add_fm (hs : List Nat) (v : Int) : ∀ (ws : List Int) (k : Nat), ((ws.map D.int).mapIdx fun i x => D.tup [.int ((i + k : Nat) : Int), x]).filterMap (fA hs v) = (ws.mapIdx fun i x => x + if i + k ∈ hs then v else 0).map D.int
  | [], _ => rfl
  | a :: ws, k => by
    have ih := add_fm hs v ws (k + 1)
    rw [List.map_cons, List.mapIdx_cons, List.filterMap_cons, List.mapIdx_cons, List.map_cons]
    have e : (fun (i : Nat) (x : D) => D.tup [.int ((i + 1 + k : Nat) : Int), x]) = fun i x => D.tup [.int ((i + (k + 1) : Nat) : Int), x] := by
      funext i x
      rw [Nat.add_assoc, Nat.add_comm 1 k]
    have e2 : (fun (i : Nat) (x : Int) => x + if i + 1 + k ∈ hs then v else 0) = fun i x => x + if i + (k + 1) ∈ hs then v else 0 := by
      funext i x
      rw [Nat.add_assoc, Nat.add_comm 1 k]
    rw [show fA hs v (D.tup [.int ((0 + k : Nat) : Int), .int a]) = some (.int (a + if (((0 + k : Nat) : Int)).toNat ∈ hs then v else 0)) from rfl, Int.toNat_natCast]
    simp only
    rw [e, e2, ih]
theorem add_map {hs : List Nat} {v : Int} {ws : List Int} (nd : hs.Nodup) : (enD (ws.map D.int)).filterMap (fA hs v) = (addH hs v ws).map D.int := by
  have h := add_fm hs v ws 0
  have e0 : enD (ws.map D.int) = (ws.map D.int).mapIdx fun i x => D.tup [.int ((i + 0 : Nat) : Int), x] := rfl
  rw [e0, h]
  congr 1
  apply List.ext_getElem
  · rw [List.length_mapIdx, addH_len]
  · intro i h1 h2
    rw [List.length_mapIdx] at h1
    have g := addH_get v hs ws i nd h1
    have g1 : (addH hs v ws).getD i 0 = (addH hs v ws)[i] := by simp [h2]
    have g2 : ws.getD i 0 = ws[i] := by simp [h1]
    rw [g1, g2] at g
    rw [g]
    simp
theorem cut_tail (l : List Nat) : L3.cutD (l.map fun (j : Nat) => D.int j) (some 1) none = l.tail.map fun (j : Nat) => D.int j := by
  cases l with
  | nil => rfl
  | cons a r => exact cut_1 _ _
theorem zip_map : ∀ (l r : List Nat), List.zipWith (fun a b => D.tup [a, b]) (l.map fun (j : Nat) => D.int j) (r.map fun (j : Nat) => D.int j) = (l.zip r).map fun q => D.tup [.int q.1, .int q.2]
  | [], _ => rfl
  | _ :: _, [] => rfl
  | a :: l, b :: r => by
    exact congrArg (D.tup [.int a, .int b] :: ·) (zip_map l r)
theorem trn_snoc (L : List (Nat × Nat)) (q : Nat × Nat) (ps : List (Option Nat)) : trn (L ++ [q]) ps = (trn L ps).set q.2 (some q.1) := by
  unfold trn
  rw [List.foldl_append]; rfl
theorem take_snoc {α : Type} {l : List α} {k : Nat} {x : α} (e : l[k]? = some x) : l.take (k + 1) = l.take k ++ [x] := by
  rw [List.take_add_one, e]; rfl
theorem addH_snoc (hs : List Nat) (h : Nat) (v : Int) (ws : List Int) : addH (hs ++ [h]) v ws = (addH hs v ws).set h ((addH hs v ws).getD h 0 + v) := by
  unfold addH
  rw [List.foldl_append]; rfl
theorem cut_tk (xs : List D) (k : Nat) : L3.cutD xs none (some (k : Int)) = xs.take k := by
  unfold L3.cutD
  rw [HT.sIx_none, HT.sIx_nat, List.drop_zero, Nat.sub_zero]
  exact List.take_eq_take_iff.mpr (by omega)
theorem cut_dr (xs : List D) (k : Nat) : L3.cutD xs (some (k : Int)) none = xs.drop k := by
  unfold L3.cutD
  rw [HT.sIx_none, HT.sIx_nat]
  by_cases h : k ≤ xs.length
  · rw [Nat.min_eq_left h]
    exact List.take_of_length_le (by rw [List.length_drop]; omega)
  · rw [Nat.min_eq_right (by omega), List.drop_eq_nil_of_le (by omega), List.drop_eq_nil_of_le (by omega)]
    simp
theorem gd_sq {G : Gp} {L : D} {xs : List D} (h : sq G L = some xs) : gdOf L xs G := by
  cases L with
  | ref p =>
    unfold sq at h
    simp only at h
    show G p = some (.lst xs)
    cases e : G p with
    | none => rw [e] at h; cases h
    | some o =>
      rw [e] at h
      cases o with
      | lst ys => cases h; rfl
      | _ => cases h
  | _ => trivial
theorem sub2 {G X : Gp} {p r : Addr} (hp : G p = none) (hr : G r = none) (h : ∀ a, a ≠ p → a ≠ r → X a = G a) : L3.Sub G (dl (dl X p) r) := fun a o e => by
  have h1 : a ≠ r := fun z => by rw [z, hr] at e; cases e
  have h2 : a ≠ p := fun z => by rw [z, hp] at e; cases e
  rw [dl_ne h1, dl_ne h2, h a h2 h1]; exact e
theorem go_eq {s : Fs} {x : D} {q : Dq} (e : prs s.ps.length x = some q) : s.go x = ⟨doP s.ps q, doW s.ps s.ws q⟩ := by
  unfold Fs.go; rw [e]

theorem okN (i j : Int) : eqOk (.tup [.str (Str.ofString "BadDeeds"), .int i]) (.tup [.str (Str.ofString "BadDeeds"), .int j]) = true := by
  have h : PyData.strOk (Str.ofString "BadDeeds") = true := by decide +kernel
  simp [eqOk, sh, shL, h]
theorem pln_fs (s : Fs) : pln 4 (.tup [.str (Str.ofString "told"), pD s.ps, wD s.ws]) = true := pln_told s.ps s.ws
def plD (s : Fs) : D := .fl [.fl (s.ps.map pl), .fl (s.ws.map D.int)]
def toD (s : Fs) : D := .tup [.str (Str.ofString "told"), pD s.ps, wD s.ws]
theorem ins_at {xs : List D} {x : D} {n k : Nat} (hn : n ≤ xs.length) {y : D} (e : (xs.take n ++ [x] ++ xs.drop n)[k]? = some y) : (k < n ∧ xs[k]? = some y) ∨ (k = n ∧ y = x) ∨ n < k := by
  have lt : (xs.take n).length = n := by rw [List.length_take]; omega
  by_cases h1 : k < n
  · left
    rw [List.append_assoc, List.getElem?_append_left (by omega), List.getElem?_take_of_lt h1] at e
    exact ⟨h1, e⟩
  · by_cases h2 : k = n
    · right; left
      subst h2
      rw [List.append_assoc, List.getElem?_append_right (by omega), lt, Nat.sub_self] at e
      exact ⟨rfl, (Option.some.inj e).symm⟩
    · right; right; omega
theorem ins_take {xs : List D} {x : D} {n k : Nat} (hn : n ≤ xs.length) (h : k ≤ n) : (xs.take n ++ [x] ++ xs.drop n).take k = xs.take k := by
  have lt : (xs.take n).length = n := by rw [List.length_take]; omega
  rw [List.append_assoc, List.take_append_of_le_length (by omega), List.take_take, Nat.min_eq_left h]
theorem ins_bad {s : Fs} {xs : List D} {x : D} {n : Nat} (hn : n ≤ xs.length) (hr : s.row xs) (hx : canD (s.end_ (xs.take n)).ps x = false) :
    (∀ k y, (xs.take n ++ [x] ++ xs.drop n)[k]? = some y → s.row ((xs.take n ++ [x] ++ xs.drop n).take k) → canD (s.end_ ((xs.take n ++ [x] ++ xs.drop n).take k)).ps y = false → k = n) ∧ ¬ s.row (xs.take n ++ [x] ++ xs.drop n) := by
  have at_n : (xs.take n ++ [x] ++ xs.drop n)[n]? = some x := by
    have lt : (xs.take n).length = n := by rw [List.length_take]; omega
    rw [List.append_assoc, List.getElem?_append_right (by omega), lt, Nat.sub_self]; rfl
  constructor
  · intro k y e r c
    rcases ins_at hn e with ⟨h1, e⟩ | ⟨h1, _⟩ | h1
    · rw [ins_take hn (by omega)] at c
      have := (Fs.row_at hr e).1
      rw [this] at c; cases c
    · exact h1
    · have e2 : ((xs.take n ++ [x] ++ xs.drop n).take k)[n]? = some x := by rw [List.getElem?_take_of_lt h1]; exact at_n
      have := (Fs.row_at r e2).1
      rw [List.take_take, Nat.min_eq_left (by omega), ins_take hn (Nat.le_refl _), hx] at this
      cases this
  · intro r
    have := (Fs.row_at r at_n).1
    rw [ins_take hn (Nat.le_refl _), hx] at this
    cases this

/-! #### _law_up -/

def sp__law_up : Sp3 := fun ds G Q E => match ds with | [L, .int i] => ∃ (ps : List (Option Nat)) (h : Nat), sq G L = some (ps.map pl) ∧ i = h ∧ h < ps.length ∧ ps.length ≤ 64 ∧ (∀ o ∈ ps, okp ps.length o) ∧ Q (.fl ((upP ps ps.length h).map fun (j : Nat) => D.int j)) G | _ => False
def t__law_up : TS3 :=
    (sseq (sset 2 (tlst true (acons (tv 1) anil)))
    (sseq (sfor (irng1 (acons (tcb bLen (acons (tv 0) anil)) anil)) (.n 3) (sseq (sif (tb3 (t2 (is3 false) (t2 ix3 (tv 0) (t2 ix3 (tv 2) (tneg (tc (.int 1))))) (tc .non))) sbrk snext)
    (sdrop (tmeth isL mAppend (tv 2) (acons (t2 ix3 (tv 0) (t2 ix3 (tv 2) (tneg (tc (.int 1))))) anil)))))
    (sret (tfz (tv 2)))))
set_option maxHeartbeats 4000000 in
theorem vc__law_up (ds : List D) (G : Gp) (Q : QK) (E : EK) (h : sp__law_up ds G Q E) : t__law_up (fnEnds Q E) (start3 N__law_up ds) G := by
  unfold sp__law_up at h
  split at h
  case h_2 => exact h.elim
  rename_i L i
  obtain ⟨ps, h, hL, rfl, hl, l64, ok, hq⟩ := h
  refine ⟨_, rfl, Nat.le_of_ble_eq_true rfl, fun p np => ?_⟩
  refine ⟨_, rfl, ?_⟩
  have lenL : ∀ (o : GO) (R : QK), R (.int (ps.map pl).length) (up G p o) → bLen [L] (up G p o) R := fun o R z => bLen_sq (sq_up np hL) z
  have ixL : ∀ (u : GO) (R : QK) (q : Nat) (o : Option Nat), ps[q]? = some o → R (pl o) (up G p u) → ix3 L (.int q) (up G p u) R := fun u R q o e z => ix3_sq (sq_up np hL) (at_pl e) z
  dsimp only [acons, anil, tcb, tv]
  refine lenL _ _ ⟨_, rfl, (by rw [List.length_map]; omega), (by rw [List.length_map]; omega), ?_⟩
  rw [List.length_map]
  refine forL_inv (fun k σ G' => ∃ (acc : List Nat) (q : Nat) (y : Option D), q < ps.length ∧ k ≤ ps.length ∧ acc.length ≤ k ∧ acc ++ upP ps (ps.length - k) q = upP ps ps.length h ∧ G' = up G p (.lst ((acc ++ [q]).map fun (j : Nat) => D.int j)) ∧ σ = [some L, some (.int h), some (.ref p), y]) ?_ ?_ ⟨[], h, none, hl, by omega, by simp, by simp, rfl, rfl⟩
  · rintro k x σ G' N ex ⟨acc, q, y, hq', hk, hacc, e, rfl, rfl⟩ hN
    have hk2 : k < ps.length := by
      obtain ⟨h3, _⟩ := List.getElem?_eq_some_iff.mp ex
      simpa using h3
    obtain ⟨o, eo⟩ : ∃ o, ps[q]? = some o := ⟨ps[q], by simp [hq']⟩
    have oko := ok o (List.mem_of_getElem? eo)
    have last : ∀ (l : List D) (d : D), atI (l ++ [d]) (-1) = some d := fun l d => by
      unfold atI
      have e : ixN (l ++ [d]).length (-1) = some l.length := by
        unfold ixN
        rw [if_neg (by decide), if_pos (by rw [List.length_append, List.length_singleton]; omega)]
        congr 1
        rw [List.length_append, List.length_singleton]; omega
      rw [e]; simp
    have lst : atI ((acc ++ [q]).map fun (j : Nat) => D.int j) (-1) = some (.int q) := by rw [List.map_append]; exact last _ _
    rw [show ps.length - k = (ps.length - (k + 1)) + 1 by omega] at e
    have e2 : acc ++ (q :: (o.elim [] (upP ps (ps.length - (k + 1))))) = upP ps ps.length h := by
      rw [← e]
      show _ = acc ++ (q :: (match ps[q]? with | some (some p) => upP ps (ps.length - (k + 1)) p | _ => []))
      rw [eo]
      cases o <;> rfl
    refine ⟨trivial, _, rfl, _, rfl, _, rfl, _, _, sq_ref up_same, lst, ?_⟩
    refine ixL _ _ q o eo ?_
    refine ⟨_, rfl, ite_b (fun z => ?_) (fun z => ?_)⟩
    · have z : isN (pl o) = true := z
      have z := pl_isN.mp z
      subst z
      refine ⟨_, rfl, fz_lst up_same ?_⟩
      rw [dl_up np]
      refine dn_refl ?_
      rw [← e2] at hq
      exact hq
    · cases o with
      | none => cases z
      | some r =>
        refine ⟨_, rfl, isL_ref up_same, _, rfl, _, rfl, _, rfl, _, _, sq_ref up_same, lst, ?_⟩
        refine ixL _ _ q _ eo ⟨_, up_same, (by rw [List.length_map, List.length_append, List.length_singleton]; show _ < 16777216; omega), ?_⟩
        rw [up_up]
        refine hN _ _ ⟨acc ++ [q], r, _, oko r rfl, by omega, by rw [List.length_append, List.length_singleton]; omega, ?_, ?_, rfl⟩
        · rw [List.append_assoc]; exact e2
        · congr 2
          simp [pl]
  · rintro σ G' ⟨acc, q, y, hq', hk, hacc, e, rfl, rfl⟩
    have e : acc ++ upP ps (ps.length - ((List.range (ps.length : Int).toNat).map fun (i : Nat) => D.int i).length) q = upP ps ps.length h := e
    rw [List.length_map, List.length_range, Int.toNat_natCast, Nat.sub_self] at e
    refine ⟨trivial, _, rfl, fz_lst up_same ?_⟩
    rw [dl_up np]
    refine dn_refl ?_
    rw [← e] at hq
    exact hq
/-! #### _law_common -/

def sp__law_common : Sp3 := fun ds G Q E => match ds with | [L, .int i, .int j] => ∃ (ps : List (Option Nat)) (a b : Nat), sq G L = some (ps.map pl) ∧ i = a ∧ j = b ∧ a < ps.length ∧ b < ps.length ∧ ParR ps ∧ Q (pl (cm ps a b)) G | _ => False
def t__law_common : TS3 :=
    (sseq (sset 3 (tcall sp__law_up (acons (tv 0) (acons (tv 2) anil))))
    (sseq (sfor (iseq (tcall sp__law_up (acons (tv 0) (acons (tv 1) anil)))) (.n 4) (sif (tb3 (t2 (in3 false) (tv 4) (tv 3))) (sret (tv 4)) snext))
    (sret (tc .non))))
set_option maxHeartbeats 4000000 in
theorem vc__law_common (ds : List D) (G : Gp) (Q : QK) (E : EK) (h : sp__law_common ds G Q E) : t__law_common (fnEnds Q E) (start3 N__law_common ds) G := by
  unfold sp__law_common at h
  split at h
  case h_2 => exact h.elim
  rename_i L i j
  obtain ⟨ps, a, b, hL, rfl, rfl, ha, hb, pr, hq⟩ := h
  unfold cm at hq
  have n64 := pr.n64
  refine ⟨_, rfl, _, rfl, ps, b, hL, rfl, hb, n64, pr.ok, ?_⟩
  refine ⟨_, rfl, _, rfl, ps, a, hL, rfl, ha, n64, pr.ok, _, rfl, ?_⟩
  refine forL_inv (fun k σ G' => G' = G ∧ (U ps a).find? (fun y => decide (y ∈ U ps b)) = ((U ps a).drop k).find? (fun y => decide (y ∈ U ps b)) ∧ ∃ y4, σ = [some L, some (.int a), some (.int b), some (.fl ((U ps b).map fun (j : Nat) => D.int j)), y4]) ?_ ?_ ⟨rfl, rfl, none, rfl⟩
  · rintro k x σ G' N ex ⟨rfl, e, y4, rfl⟩ hN
    rw [List.getElem?_map] at ex
    cases e1 : (upP ps ps.length a)[k]? with
    | none => rw [e1] at ex; cases ex
    | some q =>
      rw [e1] at ex
      cases ex
      have dk : (U ps a).drop k = q :: (U ps a).drop (k + 1) := by
        obtain ⟨h1, h2⟩ := List.getElem?_eq_some_iff.mp e1
        rw [← h2]; exact List.drop_eq_getElem_cons h1
      rw [dk, List.find?_cons] at e
      refine ⟨trivial, _, rfl, _, rfl, _, rfl, rfl, flat_nat _, _, rfl, ite_b (fun z => ?_) (fun z => ?_)⟩
      · have z : inD (.int q) ((U ps b).map fun (j : Nat) => D.int j) = true := z
        rw [inD_nat] at z
        rw [z] at e
        rw [e] at hq
        exact ⟨_, rfl, dn_refl hq⟩
      · have z : inD (.int q) ((U ps b).map fun (j : Nat) => D.int j) = false := z
        rw [inD_nat] at z
        rw [z] at e
        exact hN _ _ ⟨rfl, e, _, rfl⟩
  · rintro σ G' ⟨rfl, e, y4, rfl⟩
    have e : (U ps a).find? (fun y => decide (y ∈ U ps b)) = ((U ps a).drop ((U ps a).map fun (j : Nat) => D.int j).length).find? (fun y => decide (y ∈ U ps b)) := e
    rw [List.length_map, List.drop_length] at e
    rw [e] at hq
    exact ⟨trivial, dn_refl hq⟩
/-! #### _law_way -/

def sp__law_way : Sp3 := fun ds G Q E => match ds with | [L, .int i, .int j] => ∃ (ps : List (Option Nat)) (a b : Nat), sq G L = some (ps.map pl) ∧ i = a ∧ j = b ∧ a < ps.length ∧ b < ps.length ∧ ParR ps ∧ Q (wayD .fl ps a b) G | _ => False
def t__law_way : TS3 :=
    (sseq (sset 3 (tcall sp__law_common (acons (tv 0) (acons (tv 1) (acons (tv 2) anil)))))
    (sseq (sif (tb3 (t2 (is3 false) (tv 3) (tc .non))) (sret (tc .non)) snext)
    (sseq (sset 4 (tcall sp__law_up (acons (tv 0) (acons (tv 1) anil))))
    (sseq (sset 5 (tcall sp__law_up (acons (tv 0) (acons (tv 2) anil))))
    (sseq (sset 6 (tsl false (tv 5) onone (osome (tmeth isL mIndex (tv 5) (acons (tv 3) anil)))))
    (sret (t2 (add3 false) (tsl false (tv 4) onone (osome (t2 (add3 false) (tmeth isL mIndex (tv 4) (acons (tv 3) anil)) (tc (.int 1))))) (tlc false (irng1 (acons (tcb bLen (acons (tv 6) anil)) anil)) (.n 7) Tyes (t2 ix3 (tv 6) (t2 sub3 (t2 sub3 (tcb bLen (acons (tv 6) anil)) (tc (.int 1))) (tv 7))) [7]))))))))
set_option maxHeartbeats 4000000 in
theorem vc__law_way (ds : List D) (G : Gp) (Q : QK) (E : EK) (h : sp__law_way ds G Q E) : t__law_way (fnEnds Q E) (start3 N__law_way ds) G := by
  unfold sp__law_way at h
  split at h
  case h_2 => exact h.elim
  rename_i L i j
  obtain ⟨ps, a, b, hL, rfl, rfl, ha, hb, pr, hq⟩ := h
  have n64 := pr.n64
  unfold wayD at hq
  refine ⟨_, rfl, _, rfl, _, rfl, ps, a, b, hL, rfl, rfl, ha, hb, pr, ?_⟩
  unfold cm
  cases e : (U ps a).find? (fun y => decide (y ∈ U ps b)) with
  | none =>
    rw [e] at hq
    exact ⟨_, rfl, _, rfl, ite_b (fun _ => dn_refl hq) (fun z => by cases z)⟩
  | some t =>
    rw [e] at hq
    have ta : t ∈ U ps a := List.mem_of_find?_eq_some e
    have tb : t ∈ U ps b := by have := List.find?_some e; simpa using this
    have la := U_len ps a
    have lb := U_len ps b
    refine ⟨_, rfl, _, rfl, ite_b (fun z => by cases z) (fun _ => ?_)⟩
    refine ⟨_, rfl, _, rfl, ps, a, hL, rfl, ha, n64, pr.ok, _, rfl, _, rfl, ps, b, hL, rfl, hb, n64, pr.ok, ?_⟩
    refine ⟨_, rfl, _, rfl, ⟨_, rfl⟩, _, rfl, ?_⟩
    dsimp only [anil, pl]
    refine idx_ok tb ?_
    refine ⟨_, rfl, _, rfl, ?_⟩
    have ct := cut_take (U ps b) ((U ps b).idxOf t)
    have lt : ((U ps b).take ((U ps b).idxOf t)).length ≤ 65 := by rw [List.length_take]; omega
    have la2 : (upP ps ps.length a).length ≤ ps.length + 1 := la
    have hq : Q (.fl ((wayL ps a b t).map fun (j : Nat) => D.int j)) G := hq
    unfold wayL at hq
    generalize (U ps b).take ((U ps b).idxOf t) = l at ct lt hq
    have ct : L3.cutD ((upP ps ps.length b).map fun (j : Nat) => D.int j) none (some (((U ps b).idxOf t : Nat) : Int)) = l.map fun (j : Nat) => D.int j := ct
    rw [ct]
    refine ⟨_, rfl, _, rfl, ⟨_, rfl⟩, _, rfl, ?_⟩
    dsimp only [anil, pl]
    refine idx_ok ta ?_
    refine ⟨_, rfl, _, rfl, _, rfl, _, rfl, _, rfl, (by rw [List.length_map]; omega), (by rw [List.length_map]; omega), lc_pure (fR l) (fun y my G'' _ R hR => ?_) (fun _ _ => trivial) (by rw [List.length_map, List.length_range, List.length_map]; show _ ≤ 16777216; omega) ?_⟩
    · obtain ⟨i, hi, rfl⟩ := List.mem_map.mp my
      rw [List.mem_range, List.length_map] at hi
      have hi : i < l.length := by omega
      have hR : R (some (D.int (l.getD (l.length - 1 - (i : Int).toNat) 0 : Nat))) G'' := hR
      rw [Int.toNat_natCast] at hR
      have ea : atI (l.map fun (j : Nat) => D.int j) (((l.map fun (j : Nat) => D.int j).length : Int) - 1 - (i : Int)) = some (D.int (l.getD (l.length - 1 - i) 0 : Nat)) := by
        have : (((l.map fun (j : Nat) => D.int j).length : Int) - 1 - (i : Int)) = ((l.length - 1 - i : Nat) : Int) := by rw [List.length_map]; omega
        rw [this]
        have hl : l.length - 1 - i < l.length := by omega
        exact at_get (by omega) (by simp [hl])
      exact ⟨_, rfl, _, rfl, _, rfl, _, rfl, _, _, rfl, ea, hR⟩
    have e0 : ((l.map fun (j : Nat) => D.int j).length : Int).toNat = l.length := by rw [List.length_map]; omega
    rw [e0, rev_comp]
    refine ⟨_, _, rfl, rfl, ?_, ?_⟩
    · rw [cut_take1, List.length_map, List.length_map, List.length_take, List.length_reverse]
      show _ ≤ 16777216
      omega
    · refine dn_refl ?_
      rw [cut_take1, ← List.map_append]
      exact hq
/-! #### _law_behind -/

def sp__law_behind : Sp3 := fun ds G Q E => match ds with | [.fl [.fl zs, .fl ys], x] => ∃ s : Fs, zs = s.ps.map pl ∧ ys = s.ws.map D.int ∧ s.ok ∧ canD s.ps x = true ∧ Q (.fl [.fl ((s.go x).ps.map pl), .fl ((s.go x).ws.map D.int)]) G | _ => False
def t__law_behind : TS3 :=
    (sseq (sset 2 (tcb (bList true) (acons (t2 ix3 (tv 0) (tc (.int 0))) anil)))
    (sseq (sset 3 (tcb (bList true) (acons (t2 ix3 (tv 0) (tc (.int 1))) anil)))
    (sseq (sif (tb3 (t2 eq3 (t2 ix3 (tv 1) (tc (.int 0))) (tc (.str (Str.ofString "link"))))) (ssub (tv 2) (t2 ix3 (tv 1) (tc (.int 1))) (t2 ix3 (tv 1) (tc (.int 2))) setL3) (sif (tb3 (t2 eq3 (t2 ix3 (tv 1) (tc (.int 0))) (tc (.str (Str.ofString "cut"))))) (ssub (tv 2) (t2 ix3 (tv 1) (tc (.int 1))) (tc .non) setL3) (sif (tb3 (t2 eq3 (t2 ix3 (tv 1) (tc (.int 0))) (tc (.str (Str.ofString "turn"))))) (sseq (sset 4 (tcall sp__law_up (acons (tv 2) (acons (t2 ix3 (tv 1) (tc (.int 1))) anil))))
    (sseq (ssub (tv 2) (t2 ix3 (tv 1) (tc (.int 1))) (tc .non) setL3)
    (sfor (irng1 (acons (t2 sub3 (tcb bLen (acons (tv 4) anil)) (tc (.int 1))) anil)) (.n 5) (ssub (tv 2) (t2 ix3 (tv 4) (t2 (add3 false) (tv 5) (tc (.int 1)))) (t2 ix3 (tv 4) (tv 5)) setL3)))) (sif (tb3 (t2 eq3 (t2 ix3 (tv 1) (tc (.int 0))) (tc (.str (Str.ofString "put"))))) (ssub (tv 3) (t2 ix3 (tv 1) (tc (.int 1))) (t2 ix3 (tv 1) (tc (.int 2))) setL3) (sfor (iseq (tcall sp__law_way (acons (tv 2) (acons (t2 ix3 (tv 1) (tc (.int 1))) (acons (t2 ix3 (tv 1) (tc (.int 2))) anil))))) (.n 6) (ssub (tv 3) (tv 6) (t2 (add3 false) (t2 ix3 (tv 3) (tv 6)) (t2 ix3 (tv 1) (tc (.int 3)))) setL3))))))
    (sret (tlst false (acons (tfz (tv 2)) (acons (tfz (tv 3)) anil)))))))
set_option maxHeartbeats 4000000 in
theorem vc__law_behind (ds : List D) (G : Gp) (Q : QK) (E : EK) (h : sp__law_behind ds G Q E) : t__law_behind (fnEnds Q E) (start3 N__law_behind ds) G := by
  unfold sp__law_behind at h
  split at h
  case h_2 => exact h.elim
  rename_i zs ys x
  obtain ⟨⟨ps, ws⟩, rfl, rfl, ⟨pr, wl⟩, hcan, hq⟩ := h
  obtain ⟨q, e, rfl, hok, hc⟩ := can_q hcan
  rw [go_eq e] at hq
  clear hcan e
  have hok : q.ok ps.length := hok
  have hc : canQ ps q = true := hc
  have pr : ParR ps := pr
  have wl : ws.length = ps.length := wl
  have hq : Q (.fl [.fl ((doP ps q).map pl), .fl ((doW ps ws q).map D.int)]) G := hq
  have n64 := pr.n64
  have mp : (ps.map pl).length = ps.length := List.length_map _
  have mw : (ws.map D.int).length = ps.length := by rw [List.length_map, wl]
  refine ⟨_, rfl, _, _, rfl, rfl, _, rfl, fun p np => ?_⟩
  refine ⟨_, rfl, _, _, rfl, rfl, _, rfl, fun r nr => ?_⟩
  have rp : r ≠ p := fun z => by rw [z, up_same] at nr; cases nr
  have pr' : p ≠ r := Ne.symm rp
  rw [up_ne rp] at nr
  have lp : ∀ (u v : GO), (up (up G p u) r v) p = some u := fun u v => by rw [up_ne pr', up_same]
  have cp : ∀ (u v w : GO), up (up (up G p u) r v) p w = up (up G p w) r v := fun u v w => by rw [up_comm pr', up_up]
  have cr : ∀ (u v w : GO), up (up (up G p u) r v) r w = up (up G p u) r w := fun u v w => up_up
  dsimp only
  refine sseq_cut (fun σ G' => G' = up (up G p (.lst ((doP ps q).map pl))) r (.lst ((doW ps ws q).map D.int)) ∧ ∃ y0 y1 y4 y5 y6, σ = [y0, y1, some (.ref p), some (.ref r), y4, y5, y6]) (fun N hN => ?_) ?_
  · cases q with
    | link a b =>
      refine ⟨_, rfl, _, _, rfl, rfl, rfl, _, rfl, ite_b (fun _ => ?_) (fun z => noF z (by decide +kernel))⟩
      refine ⟨_, rfl, _, _, rfl, rfl, _, rfl, _, rfl, _, _, rfl, rfl, _, _, lp _ _, ixn_ok a (by rw [mp]; exact hok.1), ?_⟩
      rw [cp, show (ps.map pl).set a (D.int b) = (ps.set a (some b)).map pl from (by rw [List.map_set]; rfl)]
      exact hN _ _ ⟨rfl, _, _, _, _, _, rfl⟩
    | cut a =>
      refine ⟨_, rfl, _, _, rfl, rfl, rfl, _, rfl, ite_b (fun z => noT z (by decide +kernel)) (fun _ => ?_)⟩
      refine ⟨_, rfl, _, _, rfl, rfl, rfl, _, rfl, ite_b (fun _ => ?_) (fun z => noF z (by decide +kernel))⟩
      refine ⟨_, rfl, _, rfl, _, _, rfl, rfl, _, _, lp _ _, ixn_ok a (by rw [mp]; exact hok), ?_⟩
      rw [cp, show (ps.map pl).set a D.non = (ps.set a none).map pl from (by rw [List.map_set]; rfl)]
      exact hN _ _ ⟨rfl, _, _, _, _, _, rfl⟩
    | turn a =>
      refine ⟨_, rfl, _, _, rfl, rfl, rfl, _, rfl, ite_b (fun z => noT z (by decide +kernel)) (fun _ => ?_)⟩
      refine ⟨_, rfl, _, _, rfl, rfl, rfl, _, rfl, ite_b (fun z => noT z (by decide +kernel)) (fun _ => ?_)⟩
      refine ⟨_, rfl, _, _, rfl, rfl, rfl, _, rfl, ite_b (fun _ => ?_) (fun z => noF z (by decide +kernel))⟩
      refine ⟨_, rfl, _, rfl, _, _, rfl, rfl, ps, a, sq_ref (lp _ _), rfl, hok, n64, pr.ok, ?_⟩
      refine ⟨_, rfl, _, rfl, _, _, rfl, rfl, _, _, lp _ _, ixn_ok a (by rw [mp]; exact hok), ?_⟩
      rw [cp, show (ps.map pl).set a D.non = (ps.set a none).map pl from (by rw [List.map_set]; rfl)]
      have hN : ∀ σ G', (G' = up (up G p (.lst ((turnP ps a).map pl))) r (.lst (ws.map D.int)) ∧ ∃ y0 y1 y4 y5 y6, σ = [y0, y1, some (.ref p), some (.ref r), y4, y5, y6]) → N σ G' := hN
      have tn := tail_not pr hok
      have lt := U_lt pr a hok
      have et : turnP ps a = trn ((U ps a).zip (U ps a).tail) (ps.set a none) := by rw [trn_none _ _ _ tn]; rfl
      rw [et] at hN
      have lu : 1 ≤ (U ps a).length ∧ (U ps a).length ≤ 65 := by
        have := U_len ps a
        obtain ⟨t, e⟩ := U_head pr hok
        rw [e] at this ⊢
        rw [List.length_cons] at this ⊢
        omega
      have lm : ((upP ps ps.length a).map fun (j : Nat) => D.int j).length = (U ps a).length := List.length_map _
      refine ⟨_, rfl, _, rfl, _, rfl, (by rw [lm]; omega), (by rw [lm]; omega), ?_⟩
      rw [lm]
      rw [show ((U ps a).length : Int) - 1 = (((U ps a).length - 1 : Nat) : Int) by omega, Int.toNat_natCast]
      have hl : (upP ps ps.length a) = U ps a := rfl
      rw [hl]
      generalize U ps a = l at lt hN lu
      refine forL_inv (fun k σ G' => G' = up (up G p (.lst ((trn ((l.zip l.tail).take k) (ps.set a none)).map pl))) r (.lst (ws.map D.int)) ∧ ∃ y5, σ = [some (.fl [.fl (ps.map pl), .fl (ws.map D.int)]), some (Dq.turn a).d, some (.ref p), some (.ref r), some (.fl (l.map fun (j : Nat) => D.int j)), y5, none]) ?_ ?_ ⟨rfl, none, rfl⟩
      · rintro k x σ G' N2 ex ⟨rfl, y5, rfl⟩ hN2
        have hk : k < l.length - 1 := by
          obtain ⟨h3, _⟩ := List.getElem?_eq_some_iff.mp ex
          simpa using h3
        obtain rfl : x = .int (k : Nat) := by
          rw [List.getElem?_map, List.getElem?_range (by omega)] at ex
          exact (Option.some.inj ex).symm
        have k1 : k < l.length := by omega
        have k2 : k + 1 < l.length := by omega
        have a1 : atI (l.map fun (j : Nat) => D.int j) ((k : Nat) : Int) = some (.int (l[k] : Nat)) := at_get (by omega) (by simp [k1])
        have a2 : atI (l.map fun (j : Nat) => D.int j) (((k : Nat) : Int) + 1) = some (.int (l[k + 1] : Nat)) := at_get (by omega) (by simp [show ((k : Int) + 1).toNat = k + 1 by omega, k2])
        have zk : (l.zip l.tail)[k]? = some (l[k], l[k + 1]) := by
          rw [List.getElem?_zip_eq_some]
          exact ⟨by simp [k1], by simp [k2]⟩
        refine ⟨trivial, _, rfl, _, rfl, _, _, rfl, a1, _, rfl, _, rfl, _, rfl, _, _, rfl, a2, _, _, lp _ _, ixn_ok (l[k + 1]) (by rw [List.length_map, trn_len, List.length_set]; exact lt _ (by simp)), ?_⟩
        rw [cp]
        refine hN2 _ _ ⟨?_, _, rfl⟩
        rw [take_snoc zk, trn_snoc, List.map_set]
        rfl
      · rintro σ G' ⟨rfl, y5, rfl⟩
        rw [List.length_map, List.length_range]
        refine ⟨trivial, hN _ _ ⟨?_, _, _, _, _, _, rfl⟩⟩
        rw [List.take_of_length_le (by rw [List.length_zip, List.length_tail]; omega)]
    | put a v =>
      refine ⟨_, rfl, _, _, rfl, rfl, rfl, _, rfl, ite_b (fun z => noT z (by decide +kernel)) (fun _ => ?_)⟩
      refine ⟨_, rfl, _, _, rfl, rfl, rfl, _, rfl, ite_b (fun z => noT z (by decide +kernel)) (fun _ => ?_)⟩
      refine ⟨_, rfl, _, _, rfl, rfl, rfl, _, rfl, ite_b (fun z => noT z (by decide +kernel)) (fun _ => ?_)⟩
      refine ⟨_, rfl, _, _, rfl, rfl, rfl, _, rfl, ite_b (fun _ => ?_) (fun z => noF z (by decide +kernel))⟩
      refine ⟨_, rfl, _, _, rfl, rfl, _, rfl, _, rfl, _, _, rfl, rfl, _, _, up_same, ixn_ok a (by rw [mw]; exact hok), ?_⟩
      rw [cr, show (ws.map D.int).set a (D.int v) = (ws.set a v).map D.int from (by rw [List.map_set])]
      exact hN _ _ ⟨rfl, _, _, _, _, _, rfl⟩
    | add a b v =>
      have hc : decide (((topP ps ps.length a : Nat) : Int) = ((topP ps ps.length b : Nat) : Int)) = true := hc
      rw [← same_root pr hok.1 hok.2] at hc
      obtain ⟨t, e⟩ : ∃ t, cm ps a b = some t := by
        cases e : cm ps a b with
        | none => rw [e] at hc; cases hc
        | some t => exact ⟨t, rfl⟩
      have ew : doW ps ws (.add a b v) = addH (wayL ps a b t) v ws := by
        show (match cm ps a b with | some t => addH (wayL ps a b t) v ws | none => ws) = _
        rw [e]
      rw [ew] at hN
      refine ⟨_, rfl, _, _, rfl, rfl, rfl, _, rfl, ite_b (fun z => noT z (by decide +kernel)) (fun _ => ?_)⟩
      refine ⟨_, rfl, _, _, rfl, rfl, rfl, _, rfl, ite_b (fun z => noT z (by decide +kernel)) (fun _ => ?_)⟩
      refine ⟨_, rfl, _, _, rfl, rfl, rfl, _, rfl, ite_b (fun z => noT z (by decide +kernel)) (fun _ => ?_)⟩
      refine ⟨_, rfl, _, _, rfl, rfl, rfl, _, rfl, ite_b (fun z => noT z (by decide +kernel)) (fun _ => ?_)⟩
      refine ⟨_, rfl, _, rfl, _, _, rfl, rfl, _, rfl, _, _, rfl, rfl, ps, a, b, sq_ref (lp _ _), rfl, rfl, hok.1, hok.2, pr, ?_⟩
      rw [way_gs e]
      have lt := way_lt pr (t := t) hok.1 hok.2
      have hN : ∀ σ G', (G' = up (up G p (.lst (ps.map pl))) r (.lst ((addH (wayL ps a b t) v ws).map D.int)) ∧ ∃ y0 y1 y4 y5 y6, σ = [y0, y1, some (.ref p), some (.ref r), y4, y5, y6]) → N σ G' := hN
      generalize wayL ps a b t = hs at lt hN
      refine ⟨_, rfl, ?_⟩
      refine forL_inv (fun k σ G' => G' = up (up G p (.lst (ps.map pl))) r (.lst ((addH (hs.take k) v ws).map D.int)) ∧ ∃ y6, σ = [some (.fl [.fl (ps.map pl), .fl (ws.map D.int)]), some (Dq.add a b v).d, some (.ref p), some (.ref r), none, none, y6]) ?_ ?_ ⟨rfl, none, rfl⟩
      · rintro k x σ G' N2 ex ⟨rfl, y6, rfl⟩ hN2
        rw [List.getElem?_map] at ex
        cases eh : hs[k]? with
        | none => rw [eh] at ex; cases ex
        | some h =>
          rw [eh] at ex
          cases ex
          have hh : h < ps.length := lt h (List.mem_of_getElem? eh)
          have hw : h < (addH (hs.take k) v ws).length := by rw [addH_len, wl]; exact hh
          refine ⟨trivial, _, rfl, _, rfl, _, _, sq_ref up_same, at_v hw, _, rfl, _, _, rfl, rfl, _, rfl, _, rfl, _, _, up_same, ixn_ok h (by rw [List.length_map]; exact hw), ?_⟩
          rw [cr]
          refine hN2 _ _ ⟨?_, _, rfl⟩
          rw [take_snoc eh, addH_snoc, List.map_set]
      · rintro σ G' ⟨rfl, y6, rfl⟩
        rw [List.length_map, List.take_length]
        exact ⟨trivial, hN _ _ ⟨rfl, _, _, _, _, _, rfl⟩⟩
  · rintro σ G' ⟨rfl, y0, y1, y4, y5, y6, rfl⟩
    refine ⟨_, rfl, fz_lst (lp _ _) ?_⟩
    refine ⟨_, rfl, fz_lst (xs := (doW ps ws q).map D.int) (by rw [dl_ne rp, up_same]) ?_⟩
    exact ⟨Nat.le_of_ble_eq_true rfl, G, sub2 np nr (fun a h1 h2 => by rw [up_ne h2, up_ne h1]), hq⟩
/-! #### _law_is_integer -/

def sp__law_is_integer : Sp3 := fun ds G Q E => match ds with | [x] => kn OC x = true ∧ Q (.bl (isI x)) G | _ => False
def t__law_is_integer : TS3 :=
    (sret (tand (tisi (isT OC .int) (tv 0)) (tnot (tisi (isT OC .bl) (tv 0)))))
set_option maxHeartbeats 4000000 in
theorem vc__law_is_integer (ds : List D) (G : Gp) (Q : QK) (E : EK) (h : sp__law_is_integer ds G Q E) : t__law_is_integer (fnEnds Q E) (start3 N__law_is_integer ds) G := by
  unfold sp__law_is_integer at h
  split at h
  case h_2 => exact h.elim
  rename_i x
  refine ⟨_, rfl, isi_use (P := fun b => _) h.1 ⟨_, rfl, ite_b (fun hc => ?_) (fun hc => ?_)⟩⟩
  · refine ⟨_, rfl, isi_use (P := fun b => _) h.1 ⟨_, rfl, dn_refl ?_⟩⟩
    have := isI_eq x
    rw [hc, Bool.true_and] at this
    rw [this]; exact h.2
  · refine dn_refl ?_
    have := isI_eq x
    rw [hc, Bool.false_and] at this
    rw [this]; exact h.2
/-! #### _law_is_within -/

def sp__law_is_within : Sp3 := fun ds G Q E => match ds with | [x, .int a, .int b] => kn OC x = true ∧ Q (.bl (wiI a b x)) G | _ => False
def t__law_is_within : TS3 :=
    (sret (tand (tcall sp__law_is_integer (acons (tv 0) anil)) (tand (t2 le3 (tv 1) (tv 0)) (t2 le3 (tv 0) (tv 2)))))
set_option maxHeartbeats 4000000 in
theorem vc__law_is_within (ds : List D) (G : Gp) (Q : QK) (E : EK) (h : sp__law_is_within ds G Q E) : t__law_is_within (fnEnds Q E) (start3 N__law_is_within ds) G := by
  unfold sp__law_is_within at h
  split at h
  case h_2 => exact h.elim
  rename_i x a b
  refine ⟨_, rfl, h.1, _, rfl, ite_b (fun hc => ?_) (fun hc => ?_)⟩
  · obtain ⟨i, rfl⟩ := isI_of hc
    have this : Q (.bl (decide (a ≤ i) && decide (i ≤ b))) G := h.2
    refine ⟨_, rfl, _, rfl, _, rfl, ite_b (fun h1 => ?_) (fun h1 => ?_)⟩
    · refine ⟨_, rfl, _, rfl, dn_refl ?_⟩
      rwa [h1, Bool.true_and] at this
    · refine dn_refl ?_
      rwa [h1, Bool.false_and] at this
  · refine dn_refl ?_
    rw [show wiI a b x = false by cases x <;> first | rfl | cases hc] at h
    exact h.2
/-! #### _law_are_houses -/

def sp__law_are_houses : Sp3 := fun ds G Q E => match ds with | [.int n, L] => ∃ xs, (L = .tup xs ∨ L = .fl xs) ∧ (∀ x ∈ xs, kn OC x = true) ∧ xs.length ≤ 1000 ∧ Q (.bl (xs.all (wiI 0 (n - 1)))) G | _ => False
def t__law_are_houses : TS3 :=
    (sret (t2 eq3 (tcb bLen (acons (tlc false (iseq (tv 1)) (.n 2) (Tnot (tb3 (tcall sp__law_is_within (acons (tv 2) (acons (tc (.int 0)) (acons (t2 sub3 (tv 0) (tc (.int 1))) anil)))))) (tv 2) [2]) anil)) (tc (.int 0))))
set_option maxHeartbeats 4000000 in
theorem vc__law_are_houses (ds : List D) (G : Gp) (Q : QK) (E : EK) (h : sp__law_are_houses ds G Q E) : t__law_are_houses (fnEnds Q E) (start3 N__law_are_houses ds) G := by
  unfold sp__law_are_houses at h
  split at h
  case h_2 => exact h.elim
  rename_i n L
  obtain ⟨xs, hL, hk, l1, hq⟩ := h
  have e : ∀ xs : List D, eqD (.int (xs.filterMap fun y => if wiI 0 (n - 1) y then none else some y).length) (.int 0) = xs.all (wiI 0 (n - 1)) := fun xs => by
    show decide (((xs.filterMap fun y => if wiI 0 (n - 1) y then none else some y).length : Int) = 0) = _
    rw [Bool.eq_iff_iff, decide_eq_true_eq]
    constructor
    · intro h
      have h : (xs.filterMap fun y => if wiI 0 (n - 1) y then none else some y) = [] := List.eq_nil_of_length_eq_zero (by omega)
      rw [List.filterMap_eq_nil_iff] at h
      rw [List.all_eq_true]
      intro y my
      have := h y my
      cases z : wiI 0 (n - 1) y with
      | true => rfl
      | false => rw [z] at this; cases this
    · intro h
      rw [List.all_eq_true] at h
      have : (xs.filterMap fun y => if wiI 0 (n - 1) y then none else some y) = [] := by
        rw [List.filterMap_eq_nil_iff]
        intro y my
        rw [h y my]; rfl
      rw [this]; rfl
  rw [← e] at hq
  refine ⟨L, rfl, xs, (by rcases hL with rfl | rfl <;> rfl), lc_pure (fun y => if wiI 0 (n - 1) y then none else some y) (fun y my G' _ R hR => ?_) (fun _ _ => ?_) (by show _ ≤ 16777216; omega) ?_⟩
  · refine ⟨_, rfl, _, rfl, hk y my, _, rfl, ite_b (fun z => ?_) (fun z => ?_)⟩
    · have z : wiI 0 (n - 1) y = false := by simpa using z
      rw [z] at hR
      exact ⟨_, rfl, hR⟩
    · have z : wiI 0 (n - 1) y = true := by simpa using z
      rw [z] at hR
      exact hR
  · rcases hL with rfl | rfl <;> trivial
  · exact ⟨_, rfl, rfl, dn_refl hq⟩
/-! #### _law_deed_form -/

def sp__law_deed_form : Sp3 := fun ds G Q E => match ds with | [.int i, x] => ∃ n : Nat, i = n ∧ wkr x = true ∧ (∀ xs, x = .tup xs → xs.length ≤ 1000) ∧ Q (.bl (prs n x).isSome) G | _ => False
def t__law_deed_form : TS3 :=
    (sseq (sif (Tor (Tnot (tb3 (tisi (isT OC .tup) (tv 1)))) (Tor (tb3 (t2 lt3 (tcb bLen (acons (tv 1) anil)) (tc (.int 2)))) (Tnot (tb3 (tisi (isT OC .str) (t2 ix3 (tv 1) (tc (.int 0)))))))) (sret (tc (.bl false))) snext)
    (sseq (sif (tb3 (t2 (in3 false) (t2 ix3 (tv 1) (tc (.int 0))) (tlst false (acons (tc (.str (Str.ofString "cut"))) (acons (tc (.str (Str.ofString "turn"))) anil))))) (sret (tand (t2 eq3 (tcb bLen (acons (tv 1) anil)) (tc (.int 2))) (tcall sp__law_are_houses (acons (tv 0) (acons (tsl false (tv 1) (osome (tc (.int 1))) onone) anil))))) snext)
    (sseq (sif (tb3 (t2 eq3 (t2 ix3 (tv 1) (tc (.int 0))) (tc (.str (Str.ofString "link"))))) (sret (tand (t2 eq3 (tcb bLen (acons (tv 1) anil)) (tc (.int 3))) (tcall sp__law_are_houses (acons (tv 0) (acons (tsl false (tv 1) (osome (tc (.int 1))) onone) anil))))) snext)
    (sseq (sif (tb3 (t2 eq3 (t2 ix3 (tv 1) (tc (.int 0))) (tc (.str (Str.ofString "put"))))) (sret (tand (t2 eq3 (tcb bLen (acons (tv 1) anil)) (tc (.int 3))) (tand (tcall sp__law_are_houses (acons (tv 0) (acons (tsl false (tv 1) (osome (tc (.int 1))) (osome (tc (.int 2)))) anil))) (tcall sp__law_is_integer (acons (t2 ix3 (tv 1) (tc (.int 2))) anil))))) snext)
    (sret (tand (t2 eq3 (t2 ix3 (tv 1) (tc (.int 0))) (tc (.str (Str.ofString "add")))) (tand (t2 eq3 (tcb bLen (acons (tv 1) anil)) (tc (.int 4))) (tand (tcall sp__law_are_houses (acons (tv 0) (acons (tsl false (tv 1) (osome (tc (.int 1))) (osome (tc (.int 3)))) anil))) (tcall sp__law_is_integer (acons (t2 ix3 (tv 1) (tc (.int 3))) anil))))))))))
set_option maxHeartbeats 4000000 in
theorem vc__law_deed_form (ds : List D) (G : Gp) (Q : QK) (E : EK) (h : sp__law_deed_form ds G Q E) : t__law_deed_form (fnEnds Q E) (start3 N__law_deed_form ds) G := by
  unfold sp__law_deed_form at h
  split at h
  case h_2 => exact h.elim
  rename_i i x
  obtain ⟨n, rfl, hk, hlen, hq⟩ := h
  refine ⟨_, rfl, isi_use (P := fun b => _) (wkr_kn hk) ⟨_, rfl, ite_b (fun z => iteT (dn_refl ?_)) (fun z => ?_)⟩⟩
  · rw [show prs n x = none by cases x <;> first | rfl | cases z] at hq; exact hq
  obtain ⟨xs, rfl⟩ := isT_of (x := x) (by simpa using z)
  have hlen := hlen xs rfl
  have hk : ∀ y ∈ xs, kn OC y = true := List.all_eq_true.mp hk
  refine ⟨_, rfl, xs, rfl, _, rfl, ite_b (fun z1 => iteT (dn_refl ?_)) (fun z1 => ?_)⟩
  · have z1 := of_decide_eq_true z1
    rw [prs_short (by omega)] at hq; exact hq
  obtain ⟨a, b, r, rfl⟩ : ∃ a b r, xs = a :: b :: r := by
    match xs, of_decide_eq_false z1 with
    | [], z => exact absurd (by decide) z
    | [a], z => simp at z
    | a :: b :: r, _ => exact ⟨a, b, r, rfl⟩
  have ka := hk a (by simp)
  have at0 : atI (a :: b :: r) 0 = some a := at_get (by decide) rfl
  refine ⟨_, rfl, _, _, rfl, at0, isi_use (P := fun b => _) ka ⟨_, rfl, ite_b (fun z => dn_refl ?_) (fun z => ?_)⟩⟩
  · rw [show prs n (.tup (a :: b :: r)) = none by cases a <;> first | rfl | cases z] at hq; exact hq
  obtain ⟨w, rfl⟩ := isS_of (x := a) (by simpa using z)
  have hq : Q (.bl (prsW n w (b :: r)).isSome) G := hq
  have cut1 := cut_1 (.str w) (b :: r)
  have kr : ∀ y ∈ b :: r, kn OC y = true := fun y hy => hk y (List.mem_cons_of_mem _ hy)
  have hlr : (b :: r).length ≤ 1000 := by simp only [List.length_cons] at hlen ⊢; omega
  have c2 : L3.cutD (D.str w :: b :: r) (some 1) (some 2) = (b :: r).take 1 := cut_a _ _ 1
  have c3 : L3.cutD (D.str w :: b :: r) (some 1) (some 3) = (b :: r).take 2 := cut_a _ _ 2
  refine ⟨_, rfl, _, _, rfl, at0, Nat.le_of_ble_eq_true rfl, _, rfl, rfl, rfl, _, rfl, ite_b (fun o1 => ?_) (fun o1 => ?_)⟩
  · have e : (prsW n w (b :: r)).isSome = (decide ((b :: r).length = 1) && (b :: r).all (wiI 0 ((n : Int) - 1))) := by
      rcases ct_of o1 with rfl | rfl
      · rw [prs_cut, sC]
      · rw [prs_turn, sT]
    rw [e] at hq
    refine ⟨_, rfl, _, rfl, rfl, _, rfl, ite_b (fun z2 => ?_) (fun z2 => dn_refl ?_)⟩ <;> replace z2 : decide ((((D.str w :: b :: r).length : Nat) : Int) = 2) = _ := z2
    · have z2 := of_decide_eq_true z2
      rw [decide_eq_true (show (b :: r).length = 1 by simp only [List.length_cons] at z2 ⊢; omega), Bool.true_and] at hq
      exact ⟨_, rfl, _, rfl, _, rfl, _, .inl (congrArg D.tup cut1), kr, hlr, dn_refl hq⟩
    · have z2 := of_decide_eq_false z2
      rw [decide_eq_false (show ¬ (b :: r).length = 1 by simp only [List.length_cons] at z2 ⊢; omega), Bool.false_and] at hq
      exact hq
  obtain ⟨n2, n3⟩ := ct_no o1
  refine ⟨_, rfl, _, _, rfl, at0, rfl, _, rfl, ite_b (fun o2 => ?_) (fun o2 => ?_)⟩
  · have o2 : (w == Str.ofString "link") = true := o2
    rw [beq_iff_eq] at o2
    subst o2
    rw [prs_link, sL] at hq
    refine ⟨_, rfl, _, rfl, rfl, _, rfl, ite_b (fun z2 => ?_) (fun z2 => dn_refl ?_)⟩ <;> replace z2 : decide ((((D.str (Str.ofString "link") :: b :: r).length : Nat) : Int) = 3) = _ := z2
    · have z2 := of_decide_eq_true z2
      rw [decide_eq_true (show (b :: r).length = 2 by simp only [List.length_cons] at z2 ⊢; omega), Bool.true_and] at hq
      exact ⟨_, rfl, _, rfl, _, rfl, _, .inl (congrArg D.tup cut1), kr, hlr, dn_refl hq⟩
    · have z2 := of_decide_eq_false z2
      rw [decide_eq_false (show ¬ (b :: r).length = 2 by simp only [List.length_cons] at z2 ⊢; omega), Bool.false_and] at hq
      exact hq
  have o2 : (w == Str.ofString "link") = false := o2
  have n1 : w ≠ Str.ofString "link" := beq_eq_false_iff_ne.mp o2
  refine ⟨_, rfl, _, _, rfl, at0, rfl, _, rfl, ite_b (fun o3 => ?_) (fun o3 => ?_)⟩
  · have o3 : (w == Str.ofString "put") = true := o3
    rw [beq_iff_eq] at o3
    subst o3
    rw [prs_put, sP] at hq
    refine ⟨_, rfl, _, rfl, rfl, _, rfl, ite_b (fun z2 => ?_) (fun z2 => dn_refl ?_)⟩ <;> replace z2 : decide ((((D.str (Str.ofString "put") :: b :: r).length : Nat) : Int) = 3) = _ := z2
    · have z2 := of_decide_eq_true z2
      obtain ⟨c, rfl⟩ : ∃ c, r = [c] := by
        match r, z2 with
        | [], z => simp at z
        | [c], _ => exact ⟨c, rfl⟩
        | c :: d :: r, z => simp only [List.length_cons] at z; omega
      have hq : Q (.bl (true && (([b].all (wiI 0 ((n : Int) - 1))) && (isI c && true)))) G := hq
      rw [Bool.true_and, Bool.and_true] at hq
      refine ⟨_, rfl, _, rfl, _, rfl, _, rfl, _, .inl (congrArg D.tup c2), (fun y hy => kr y (List.mem_of_mem_take hy)), Nat.le_of_ble_eq_true rfl, _, rfl, ite_b (fun z3 => ?_) (fun z3 => dn_refl ?_)⟩
      · have z3 : ([b].all (wiI 0 ((n : Int) - 1))) = true := z3
        rw [z3, Bool.true_and] at hq
        exact ⟨_, rfl, _, _, rfl, at_get (by decide) rfl, kr c (by simp), dn_refl hq⟩
      · have z3 : ([b].all (wiI 0 ((n : Int) - 1))) = false := z3
        rw [z3, Bool.false_and] at hq
        exact hq
    · have z2 := of_decide_eq_false z2
      rw [decide_eq_false (show ¬ (b :: r).length = 2 by simp only [List.length_cons] at z2 ⊢; omega), Bool.false_and] at hq
      exact hq
  have o3 : (w == Str.ofString "put") = false := o3
  have n4 : w ≠ Str.ofString "put" := beq_eq_false_iff_ne.mp o3
  refine ⟨_, rfl, _, _, rfl, at0, rfl, _, rfl, ite_b (fun o4 => ?_) (fun o4 => dn_refl ?_)⟩
  · have o4 : (w == Str.ofString "add") = true := o4
    rw [beq_iff_eq] at o4
    subst o4
    rw [prs_add, sA] at hq
    refine ⟨_, rfl, _, rfl, rfl, _, rfl, ite_b (fun z2 => ?_) (fun z2 => dn_refl ?_)⟩ <;> replace z2 : decide ((((D.str (Str.ofString "add") :: b :: r).length : Nat) : Int) = 4) = _ := z2
    · have z2 := of_decide_eq_true z2
      obtain ⟨c, d, rfl⟩ : ∃ c d, r = [c, d] := by
        match r, z2 with
        | [], z => simp at z
        | [c], z => simp at z
        | [c, d], _ => exact ⟨c, d, rfl⟩
        | c :: d :: e :: r, z => simp only [List.length_cons] at z; omega
      have hq : Q (.bl (true && (([b, c].all (wiI 0 ((n : Int) - 1))) && (isI d && true)))) G := hq
      rw [Bool.true_and, Bool.and_true] at hq
      refine ⟨_, rfl, _, rfl, _, rfl, _, rfl, _, .inl (congrArg D.tup c3), (fun y hy => kr y (List.mem_of_mem_take hy)), Nat.le_of_ble_eq_true rfl, _, rfl, ite_b (fun z3 => ?_) (fun z3 => dn_refl ?_)⟩
      · have z3 : ([b, c].all (wiI 0 ((n : Int) - 1))) = true := z3
        rw [z3, Bool.true_and] at hq
        exact ⟨_, rfl, _, _, rfl, at_get (by decide) rfl, kr d (by simp), dn_refl hq⟩
      · have z3 : ([b, c].all (wiI 0 ((n : Int) - 1))) = false := z3
        rw [z3, Bool.false_and] at hq
        exact hq
    · have z2 := of_decide_eq_false z2
      rw [decide_eq_false (show ¬ (b :: r).length = 3 by simp only [List.length_cons] at z2 ⊢; omega), Bool.false_and] at hq
      exact hq
  · have o4 : (w == Str.ofString "add") = false := o4
    rw [prs_no n1 n2 n3 n4 (beq_eq_false_iff_ne.mp o4)] at hq
    exact hq
/-! #### _law_root -/

def sp__law_root : Sp3 := fun ds G Q E => match ds with | [L, .int i] => ∃ (ps : List (Option Nat)) (h : Nat), sq G L = some (ps.map pl) ∧ i = h ∧ h < ps.length ∧ ps.length ≤ 64 ∧ (∀ o ∈ ps, okp ps.length o) ∧ Q (.int (topP ps ps.length h : Nat)) G | _ => False
def t__law_root : TS3 :=
    (sret (t2 ix3 (tcall sp__law_up (acons (tv 0) (acons (tv 1) anil))) (tneg (tc (.int 1)))))
set_option maxHeartbeats 4000000 in
theorem vc__law_root (ds : List D) (G : Gp) (Q : QK) (E : EK) (h : sp__law_root ds G Q E) : t__law_root (fnEnds Q E) (start3 N__law_root ds) G := by
  unfold sp__law_root at h
  split at h
  case h_2 => exact h.elim
  rename_i L i
  obtain ⟨ps, h, hL, rfl, hl, l64, ok, hq⟩ := h
  refine ⟨_, rfl, _, rfl, ps, h, hL, rfl, hl, l64, ok, _, rfl, _, _, rfl, ?_, dn_refl hq⟩
  have ne := upP_ne ps ps.length h
  have top := upP_top ps ps.length h
  generalize upP ps ps.length h = l at ne top
  rw [List.getLast?_eq_getElem?] at top
  have hl0 : 0 < l.length := by cases l with
    | nil => exact absurd rfl ne
    | cons a b => simp
  unfold atI
  have e : ixN (l.map fun (j : Nat) => D.int j).length (-1) = some (l.length - 1) := by
    unfold ixN
    rw [if_neg (by decide), if_pos (by rw [List.length_map]; omega)]
    congr 1
    rw [List.length_map]; omega
  rw [e]
  simp [top]
/-! #### _law_can -/

def sp__law_can : Sp3 := fun ds G Q E => match ds with | [.fl [.fl zs, .fl ys], x] => ∃ ps, zs = ps.map pl ∧ ParR ps ∧ wks x = true ∧ Q (.bl (canD ps x)) G | _ => False
def t__law_can : TS3 :=
    (sseq (sset 2 (t2 ix3 (tv 0) (tc (.int 0))))
    (sseq (sif (Tnot (tb3 (tcall sp__law_deed_form (acons (tcb bLen (acons (tv 2) anil)) (acons (tv 1) anil))))) (sret (tc (.bl false))) snext)
    (sseq (sif (tb3 (t2 eq3 (t2 ix3 (tv 1) (tc (.int 0))) (tc (.str (Str.ofString "link"))))) (sret (tand (t2 (is3 false) (t2 ix3 (tv 2) (t2 ix3 (tv 1) (tc (.int 1)))) (tc .non)) (t2 ne3 (tcall sp__law_root (acons (tv 2) (acons (t2 ix3 (tv 1) (tc (.int 2))) anil))) (t2 ix3 (tv 1) (tc (.int 1)))))) snext)
    (sseq (sif (tb3 (t2 eq3 (t2 ix3 (tv 1) (tc (.int 0))) (tc (.str (Str.ofString "cut"))))) (sret (t2 (is3 true) (t2 ix3 (tv 2) (t2 ix3 (tv 1) (tc (.int 1)))) (tc .non))) snext)
    (sret (tor (t2 ne3 (t2 ix3 (tv 1) (tc (.int 0))) (tc (.str (Str.ofString "add")))) (t2 (is3 true) (tcall sp__law_common (acons (tv 2) (acons (t2 ix3 (tv 1) (tc (.int 1))) (acons (t2 ix3 (tv 1) (tc (.int 2))) anil)))) (tc .non))))))))
set_option maxHeartbeats 4000000 in
theorem vc__law_can (ds : List D) (G : Gp) (Q : QK) (E : EK) (h : sp__law_can ds G Q E) : t__law_can (fnEnds Q E) (start3 N__law_can ds) G := by
  unfold sp__law_can at h
  split at h
  case h_2 => exact h.elim
  rename_i zs ys x
  obtain ⟨ps, rfl, pr, wx, hq⟩ := h
  have n64 := pr.n64
  refine ⟨_, rfl, _, _, rfl, rfl, _, rfl, _, rfl, _, rfl, ps.length, by rw [List.length_map], wks_wkr wx, wks_len wx, ?_⟩
  unfold canD at hq
  cases e : prs ps.length x with
  | none =>
    rw [e] at hq
    exact ⟨_, rfl, ite_b (fun _ => dn_refl hq) (fun z => by cases z)⟩
  | some q =>
    rw [e] at hq
    refine ⟨_, rfl, ite_b (fun z => by cases z) (fun _ => ?_)⟩
    obtain ⟨rfl, hok⟩ := prs_d e
    cases q with
    | link a b =>
      have e := step_get hok.1
      have hq : Q (.bl (isN (pl (stepP ps a)) && !decide (((topP ps ps.length b : Nat) : Int) = (a : Int)))) G := hq
      refine ⟨_, rfl, _, _, rfl, rfl, rfl, _, rfl, ite_b (fun _ => ?_) (fun z => noF z (by decide +kernel))⟩
      refine ⟨_, rfl, _, rfl, _, _, rfl, rfl, _, _, rfl, at_pl e, _, rfl, ite_b (fun z => ?_) (fun z => dn_refl ?_)⟩
      · have z : isN (pl (stepP ps a)) = true := z
        rw [z, Bool.true_and] at hq
        exact ⟨_, rfl, _, rfl, _, _, rfl, rfl, ps, b, rfl, rfl, hok.2, n64, pr.ok, _, rfl, _, _, rfl, rfl, rfl, dn_refl hq⟩
      · have z : isN (pl (stepP ps a)) = false := z
        rw [z, Bool.false_and] at hq
        exact hq
    | cut a =>
      have e := step_get (ps := ps) (h := a) hok
      refine ⟨_, rfl, _, _, rfl, rfl, rfl, _, rfl, ite_b (fun z => noT z (by decide +kernel)) (fun _ => ?_)⟩
      refine ⟨_, rfl, _, _, rfl, rfl, rfl, _, rfl, ite_b (fun _ => ?_) (fun z => noF z (by decide +kernel))⟩
      exact ⟨_, rfl, _, rfl, _, _, rfl, rfl, _, _, rfl, at_pl e, dn_refl hq⟩
    | turn a =>
      refine ⟨_, rfl, _, _, rfl, rfl, rfl, _, rfl, ite_b (fun z => noT z (by decide +kernel)) (fun _ => ?_)⟩
      refine ⟨_, rfl, _, _, rfl, rfl, rfl, _, rfl, ite_b (fun z => noT z (by decide +kernel)) (fun _ => ?_)⟩
      exact ⟨_, rfl, _, _, rfl, rfl, rfl, _, rfl, ite_b (fun _ => dn_refl hq) (fun z => noF z (by decide +kernel))⟩
    | put a v =>
      refine ⟨_, rfl, _, _, rfl, rfl, rfl, _, rfl, ite_b (fun z => noT z (by decide +kernel)) (fun _ => ?_)⟩
      refine ⟨_, rfl, _, _, rfl, rfl, rfl, _, rfl, ite_b (fun z => noT z (by decide +kernel)) (fun _ => ?_)⟩
      exact ⟨_, rfl, _, _, rfl, rfl, rfl, _, rfl, ite_b (fun _ => dn_refl hq) (fun z => noF z (by decide +kernel))⟩
    | add a b v =>
      have hq : Q (.bl (decide (((topP ps ps.length a : Nat) : Int) = ((topP ps ps.length b : Nat) : Int)))) G := hq
      rw [← same_root pr hok.1 hok.2] at hq
      refine ⟨_, rfl, _, _, rfl, rfl, rfl, _, rfl, ite_b (fun z => noT z (by decide +kernel)) (fun _ => ?_)⟩
      refine ⟨_, rfl, _, _, rfl, rfl, rfl, _, rfl, ite_b (fun z => noT z (by decide +kernel)) (fun _ => ?_)⟩
      refine ⟨_, rfl, _, _, rfl, rfl, rfl, _, rfl, ite_b (fun z => noT z (by decide +kernel)) (fun _ => ?_)⟩
      exact ⟨_, rfl, _, rfl, _, _, rfl, rfl, _, rfl, _, _, rfl, rfl, ps, a, b, rfl, rfl, rfl, hok.1, hok.2, pr, dn_refl hq⟩
/-! #### comes_to_none -/

def sp_comes_to_none : Sp3 := fun ds G Q E => match ds with | [.tup xs, .int i] => ∃ (ps : List (Option Nat)) (h : Nat), xs = ps.map pl ∧ i = h ∧ h < ps.length ∧ ps.length ≤ 64 ∧ (∀ o ∈ ps, okp ps.length o) ∧ Q (.bl (goP ps ps.length h)) G | _ => False
def t_comes_to_none : TS3 :=
    (sseq (sset 2 (tv 1))
    (sseq (sfor (irng1 (acons (tcb bLen (acons (tv 0) anil)) anil)) (.n 3) (sseq (sset 2 (t2 ix3 (tv 0) (tv 2)))
    (sif (tb3 (t2 (is3 false) (tv 2) (tc .non))) (sret (tc (.bl true))) snext)))
    (sret (tc (.bl false)))))
set_option maxHeartbeats 4000000 in
theorem vc_comes_to_none (ds : List D) (G : Gp) (Q : QK) (E : EK) (h : sp_comes_to_none ds G Q E) : t_comes_to_none (fnEnds Q E) (start3 N_comes_to_none ds) G := by
  unfold sp_comes_to_none at h
  split at h
  case h_2 => exact h.elim
  obtain ⟨rs, h, rfl, rfl, hl, l64, ok, hq⟩ := h
  refine ⟨_, rfl, _, rfl, _, rfl, _, rfl, (by rw [List.length_map]; omega), (by rw [List.length_map]; omega), ?_⟩
  rw [List.length_map]
  refine forL_inv (fun k σ G' => G' = G ∧ ∃ (i : Nat) (y : Option D), i < rs.length ∧ k ≤ rs.length ∧ goP rs (rs.length - k) i = goP rs rs.length h ∧ σ = [some (.tup (rs.map pl)), some (.int h), some (.int i), y]) ?_ ?_ ⟨rfl, h, none, hl, by omega, by simp, rfl⟩
  · rintro k x σ G' N ex ⟨rfl, i, y, hi, hk, e, rfl⟩ hN
    have hk2 : k < rs.length := by
      obtain ⟨h3, _⟩ := List.getElem?_eq_some_iff.mp ex
      simpa using h3
    obtain ⟨o, er⟩ : ∃ o, rs[i]? = some o := ⟨rs[i], by simp [hi]⟩
    have oko := ok o (List.mem_of_getElem? er)
    have e2 : goP rs (rs.length - k) i = o.elim true (goP rs (rs.length - (k + 1))) := by
      rw [show rs.length - k = (rs.length - (k + 1)) + 1 by omega]
      exact goP_succ er
    refine ⟨trivial, _, rfl, _, rfl, _, _, rfl, at_pl er, _, rfl, _, rfl, ?_⟩
    cases o with
    | none =>
      refine ite_b (fun z => dn_refl ?_) (fun z => by cases z)
      rw [← e, e2] at hq; exact hq
    | some p =>
      refine ite_b (fun z => by cases z) (fun z => ?_)
      exact hN _ _ ⟨rfl, p, _, oko p rfl, by omega, e2.symm.trans e, rfl⟩
  · rintro σ G' ⟨rfl, i, y, hi, hk, e, rfl⟩
    refine ⟨trivial, dn_refl ?_⟩
    have e : goP rs (rs.length - (((List.range (rs.length : Int).toNat).map fun (i : Nat) => D.int i).length)) i = goP rs rs.length h := e
    rw [List.length_map, List.length_range, Int.toNat_natCast, Nat.sub_self] at e
    rw [← e] at hq
    exact hq
/-! #### is_integer -/

def sp_is_integer : Sp3 := fun ds G Q E => match ds with | [x] => kn OC x = true ∧ Q (.bl (isI x)) G | _ => False
def t_is_integer : TS3 :=
    (sret (tand (tisi (isT OC .int) (tv 0)) (tnot (tisi (isT OC .bl) (tv 0)))))
set_option maxHeartbeats 4000000 in
theorem vc_is_integer (ds : List D) (G : Gp) (Q : QK) (E : EK) (h : sp_is_integer ds G Q E) : t_is_integer (fnEnds Q E) (start3 N_is_integer ds) G := by
  unfold sp_is_integer at h
  split at h
  case h_2 => exact h.elim
  rename_i x
  refine ⟨_, rfl, isi_use (P := fun b => _) h.1 ⟨_, rfl, ite_b (fun hc => ?_) (fun hc => ?_)⟩⟩
  · refine ⟨_, rfl, isi_use (P := fun b => _) h.1 ⟨_, rfl, dn_refl ?_⟩⟩
    have := isI_eq x
    rw [hc, Bool.true_and] at this
    rw [this]; exact h.2
  · refine dn_refl ?_
    have := isI_eq x
    rw [hc, Bool.false_and] at this
    rw [this]; exact h.2
/-! #### is_within -/

def sp_is_within : Sp3 := fun ds G Q E => match ds with | [x, .int a, .int b] => kn OC x = true ∧ Q (.bl (wiI a b x)) G | _ => False
def t_is_within : TS3 :=
    (sret (tand (tcall sp_is_integer (acons (tv 0) anil)) (tch le3 le3 (tv 1) (tv 0) (tv 2))))
set_option maxHeartbeats 4000000 in
theorem vc_is_within (ds : List D) (G : Gp) (Q : QK) (E : EK) (h : sp_is_within ds G Q E) : t_is_within (fnEnds Q E) (start3 N_is_within ds) G := by
  unfold sp_is_within at h
  split at h
  case h_2 => exact h.elim
  rename_i x a b
  refine ⟨_, rfl, h.1, _, rfl, ite_b (fun hc => ?_) (fun hc => ?_)⟩
  · obtain ⟨i, rfl⟩ := isI_of hc
    refine ⟨_, rfl, _, rfl, _, rfl, ite_b (fun h1 => ?_) (fun h1 => ?_)⟩
    · refine ⟨_, rfl, dn_refl ?_⟩
      have this : Q (.bl (decide (a ≤ i) && decide (i ≤ b))) G := h.2
      rwa [h1, Bool.true_and] at this
    · refine dn_refl ?_
      have this : Q (.bl (decide (a ≤ i) && decide (i ≤ b))) G := h.2
      rwa [h1, Bool.false_and] at this
  · refine dn_refl ?_
    rw [show wiI a b x = false by cases x <;> first | rfl | cases hc] at h
    exact h.2
/-! #### is_below -/

def sp_is_below : Sp3 := fun ds G Q E => match ds with | [x, .int b] => kn OC x = true ∧ Q (.bl (wiI 0 (b - 1) x)) G | _ => False
def t_is_below : TS3 :=
    (sret (tcall sp_is_within (acons (tv 0) (acons (tc (.int 0)) (acons (t2 sub3 (tv 1) (tc (.int 1))) anil)))))
set_option maxHeartbeats 4000000 in
theorem vc_is_below (ds : List D) (G : Gp) (Q : QK) (E : EK) (h : sp_is_below ds G Q E) : t_is_below (fnEnds Q E) (start3 N_is_below ds) G := by
  unfold sp_is_below at h
  split at h
  case h_2 => exact h.elim
  exact ⟨_, rfl, _, rfl, h.1, dn_refl h.2⟩
/-! #### is_sized -/

def sp_is_sized : Sp3 := fun ds G Q E => match ds with | [x, .int a, .int b] => kn OC x = true ∧ Q (.bl (siI a b x)) G | _ => False
def t_is_sized : TS3 :=
    (sret (tand (tisi (isT OC .tup) (tv 0)) (tch le3 le3 (tv 1) (tcb bLen (acons (tv 0) anil)) (tv 2))))
set_option maxHeartbeats 4000000 in
theorem vc_is_sized (ds : List D) (G : Gp) (Q : QK) (E : EK) (h : sp_is_sized ds G Q E) : t_is_sized (fnEnds Q E) (start3 N_is_sized ds) G := by
  unfold sp_is_sized at h
  split at h
  case h_2 => exact h.elim
  rename_i x a b
  refine ⟨_, rfl, isi_use (P := fun b => _) h.1 ⟨_, rfl, ite_b (fun hc => ?_) (fun hc => ?_)⟩⟩
  · obtain ⟨xs, rfl⟩ := isT_of hc
    refine ⟨_, rfl, _, rfl, _, rfl, _, rfl, ite_b (fun h1 => ?_) (fun h1 => ?_)⟩
    · refine ⟨_, rfl, dn_refl ?_⟩
      have this : Q (.bl (decide (a ≤ (xs.length : Int)) && decide ((xs.length : Int) ≤ b))) G := h.2
      rwa [h1, Bool.true_and] at this
    · refine dn_refl ?_
      have this : Q (.bl (decide (a ≤ (xs.length : Int)) && decide ((xs.length : Int) ≤ b))) G := h.2
      rwa [h1, Bool.false_and] at this
  · refine dn_refl ?_
    rw [show siI a b x = false by cases x <;> first | rfl | (simp [isiD] at hc)] at h
    exact h.2
/-! #### are_parents -/

def sp_are_parents : Sp3 := fun ds G Q E => match ds with | [x] => wkr x = true ∧ ∀ b, (b = true ↔ ParP x) → Q (.bl b) G | _ => False
def t_are_parents : TS3 :=
    (sseq (sif (Tnot (tb3 (tcall sp_is_sized (acons (tv 0) (acons (tc (.int 1)) (acons (tc (.int 64)) anil)))))) (sret (tc (.bl false))) snext)
    (sseq (sif (Tnot (tb3 (tcb bAll (acons (tlc false (iseq (tv 0)) (.n 2) Tyes (tor (t2 (is3 false) (tv 2) (tc .non)) (tcall sp_is_below (acons (tv 2) (acons (tcb bLen (acons (tv 0) anil)) anil)))) [2]) anil)))) (sret (tc (.bl false))) snext)
    (sret (tcb bAll (acons (tlc false (irng1 (acons (tcb bLen (acons (tv 0) anil)) anil)) (.n 1) Tyes (tcall sp_comes_to_none (acons (tv 0) (acons (tv 1) anil))) [1]) anil)))))
set_option maxHeartbeats 4000000 in
theorem vc_are_parents (ds : List D) (G : Gp) (Q : QK) (E : EK) (h : sp_are_parents ds G Q E) : t_are_parents (fnEnds Q E) (start3 N_are_parents ds) G := by
  unfold sp_are_parents at h
  split at h
  case h_2 => exact h.elim
  rename_i x
  obtain ⟨hk, hq⟩ := h
  have no : ¬ ParP x → dn Q (.bl false) G := fun h => dn_refl (hq false ⟨nof, fun z => absurd z h⟩)
  refine ⟨_, rfl, wkr_kn hk, _, rfl, ite_b (fun z => no ?_) (fun z => ?_)⟩
  · rintro ⟨rs, rfl, h⟩
    have := siI_tup.mpr (show (1 : Int) ≤ ((rs.map pl).length : Int) ∧ ((rs.map pl).length : Int) ≤ 64 by rw [List.length_map]; have := h.n1; have := h.n64; omega)
    have z : (!siI 1 64 (.tup (rs.map pl))) = true := z
    rw [this] at z; cases z
  obtain ⟨xs, rfl, l1, l2⟩ := siI_of (x := x) (by simpa using z)
  have hk : ∀ y ∈ xs, kn OC y = true := List.all_eq_true.mp hk
  refine ⟨_, rfl, xs, rfl, lc_pure (fun y => some (.bl (plB xs.length y))) (fun y my G' _ R hR => ?_) (fun _ _ => trivial) (by show _ ≤ 16777216; omega) ?_⟩
  · refine ⟨_, rfl, _, rfl, ite_b (fun z => ?_) (fun z => ?_)⟩
    · have e : y = .non := by cases y <;> first | rfl | cases z
      subst e
      exact hR
    · refine ⟨_, rfl, _, rfl, xs, rfl, hk y my, ?_⟩
      have e : plB xs.length y = wiI 0 (xs.length - 1) y := by cases y <;> first | rfl | cases z
      rw [e] at hR; exact hR
  refine ⟨_, _, rfl, bls_map _ _, _, rfl, ite_b (fun z => no ?_) (fun z => ?_)⟩
  · rintro ⟨rs, e, h⟩
    injection e with e
    subst e
    have : ((rs.map pl).map (plB ((rs.map pl).length : Nat))).all id = true := by
      rw [List.all_eq_true]
      intro b hb
      obtain ⟨y, hy, rfl⟩ := List.mem_map.mp hb
      obtain ⟨r, hr, rfl⟩ := List.mem_map.mp hy
      exact plB_ok.mpr ⟨r, rfl, by rw [List.length_map]; exact h.ok r hr⟩
    rw [this] at z; cases z
  have z : (xs.map (plB xs.length)).all id = true := by cases h : (xs.map (plB xs.length)).all id <;> simp [h] at z ⊢
  obtain ⟨rs, rfl, ok⟩ := pls_all (n := xs.length) (xs := xs) fun y hy => List.all_eq_true.mp z _ (List.mem_map_of_mem hy)
  rw [List.length_map] at ok l1 l2
  have hq : ∀ b, (b = true ↔ ParR rs) → dn Q (.bl b) G := fun b h => dn_refl (hq b (h.trans par_pls.symm))
  refine ⟨_, rfl, _, rfl, _, rfl, (by rw [List.length_map]; omega), (by rw [List.length_map]; omega), lc_pure (fun y => match y with | .int i => some (.bl (goP rs rs.length i.toNat)) | _ => none) (fun y my G'' _ R hR => ?_) (fun _ _ => trivial) (by rw [List.length_map, List.length_range, List.length_map]; show _ ≤ 16777216; omega) ?_⟩
  · obtain ⟨i, hi, rfl⟩ := List.mem_map.mp my
    rw [List.mem_range, List.length_map] at hi
    have hi : i < rs.length := by omega
    refine ⟨_, rfl, _, rfl, rs, i, rfl, rfl, hi, by omega, ok, ?_⟩
    have hR : R (some (.bl (goP rs rs.length (i : Int).toNat))) G'' := hR
    rw [Int.toNat_natCast] at hR
    exact hR
  have e1 : ∀ n : Nat, blsD (((List.range n).map fun (i : Nat) => D.int i).filterMap fun y => match y with | .int i => some (.bl (goP rs rs.length i.toNat)) | _ => none) = some ((List.range n).map fun i => goP rs rs.length i) := fun n => by
    rw [List.filterMap_map]
    exact bls_map (List.range n) fun i => goP rs rs.length i
  refine ⟨_, _, rfl, e1 _, hq _ ?_⟩
  rw [List.all_eq_true]
  constructor
  · intro h
    refine ⟨by omega, by omega, ok, fun i hi => ?_⟩
    exact h _ (List.mem_map.mpr ⟨i, by rw [List.mem_range, List.length_map]; omega, rfl⟩)
  · rintro h b hb
    obtain ⟨i, hi, rfl⟩ := List.mem_map.mp hb
    rw [List.mem_range, List.length_map] at hi
    exact h.go i (by omega)
/-! #### Forest.__init__ -/

def sp_Forest___init__ : Sp3 := fun ds G Q E => match ds with | [.ref a, x, y] => ∃ ps ws, x = pD ps ∧ ParR ps ∧ y = wD ws ∧ ws.length = ps.length ∧ G a = some (.ins (Str.ofString "Forest") []) ∧ Q .non (up G a (.ins (Str.ofString "Forest") [(Str.ofString "parents", x), (Str.ofString "worths", y)])) | _ => False
def t_Forest___init__ : TS3 :=
    (sseq (sif (Tnot (tb3 (tcall sp_are_parents (acons (tv 1) anil)))) sdead snext)
    (sseq (sif (Tor (Tnot (tb3 (tcall sp_is_sized (acons (tv 2) (acons (tcb bLen (acons (tv 1) anil)) (acons (tcb bLen (acons (tv 1) anil)) anil)))))) (Tnot (tb3 (tcb bAll (acons (tlc false (iseq (tv 2)) (.n 3) Tyes (tcall sp_is_integer (acons (tv 3) anil)) [3]) anil))))) sdead snext)
    (sseq (sfld (Str.ofString "Forest") (Str.ofString "parents") (tv 0) (tv 1))
    (sfld (Str.ofString "Forest") (Str.ofString "worths") (tv 0) (tv 2)))))
set_option maxHeartbeats 4000000 in
theorem vc_Forest___init__ (ds : List D) (G : Gp) (Q : QK) (E : EK) (h : sp_Forest___init__ ds G Q E) : t_Forest___init__ (fnEnds Q E) (start3 N_Forest___init__ ds) G := by
  unfold sp_Forest___init__ at h
  split at h
  case h_2 => exact h.elim
  rename_i a x y
  obtain ⟨ps, ws, rfl, hp, rfl, hl, hG, hq⟩ := h
  have h64 := hp.n64
  refine ⟨_, rfl, wk_pls ps, fun b hb => ⟨_, rfl, ite_b (fun z => ?_) (fun z => ?_)⟩⟩
  · rw [hb.mpr (par_pls.mpr hp)] at z; cases z
  have s : siI (((ps.map pl).length : Nat) : Int) (((ps.map pl).length : Nat) : Int) (.tup (ws.map D.int)) = true := siI_tup.mpr (by rw [List.length_map, List.length_map]; omega)
  refine ⟨_, rfl, _, rfl, _, rfl, _, rfl, _, rfl, rfl, _, rfl, ite_b (fun z => ?_) (fun z => ?_)⟩
  · have z : (!siI (((ps.map pl).length : Nat) : Int) (((ps.map pl).length : Nat) : Int) (.tup (ws.map D.int))) = true := z
    rw [s] at z; cases z
  refine ⟨_, rfl, _, rfl, lc_pure (fun y => some (.bl (isI y))) (fun y my G' _ R hR => ?_) (fun _ _ => trivial) (by rw [List.length_map]; show _ ≤ 16777216; omega) ?_⟩
  · obtain ⟨j, _, rfl⟩ := List.mem_map.mp my
    exact ⟨_, rfl, rfl, hR⟩
  have all : ((ws.map D.int).map isI).all id = true := by
    rw [List.all_eq_true]
    intro b hb
    obtain ⟨y, hy, rfl⟩ := List.mem_map.mp hb
    obtain ⟨r, hr, rfl⟩ := List.mem_map.mp hy
    rfl
  refine ⟨_, _, rfl, bls_map _ _, _, rfl, ite_b (fun z => by rw [all] at z; cases z) (fun z => ?_)⟩
  refine ⟨_, rfl, _, rfl, a, _, rfl, hG, Nat.le_of_ble_eq_true rfl, ?_⟩
  refine ⟨_, rfl, _, rfl, a, _, rfl, up_same, Nat.le_of_ble_eq_true rfl, dn_refl ?_⟩
  rw [up_up]
  have e : put3 (Str.ofString "worths") (wD ws) (put3 (Str.ofString "parents") (pD ps) []) = [(Str.ofString "parents", pD ps), (Str.ofString "worths", wD ws)] := by
    show (if (Str.ofString "parents") = (Str.ofString "worths") then _ else _) = _
    rw [if_neg (Ne.symm nep)]; rfl
  show Q .non (up G a (.ins (Str.ofString "Forest") (put3 (Str.ofString "worths") (wD ws) (put3 (Str.ofString "parents") (pD ps) []))))
  rw [e]
  exact hq
/-! #### _law_forest_of -/

def sp__law_forest_of : Sp3 := fun ds G Q E => match ds with | [.fl [.fl xs, .fl ys]] => ∃ ps ws, xs = ps.map pl ∧ ys = ws.map D.int ∧ ParR ps ∧ ws.length = ps.length ∧ Q (fo ps ws) G | _ => False
def t__law_forest_of : TS3 :=
    (sret (tfz (tmk (Str.ofString "Forest") sp_Forest___init__ (acons (tcb bTup (acons (t2 ix3 (tv 0) (tc (.int 0))) anil)) (acons (tcb bTup (acons (t2 ix3 (tv 0) (tc (.int 1))) anil)) anil)))))
set_option maxHeartbeats 4000000 in
theorem vc__law_forest_of (ds : List D) (G : Gp) (Q : QK) (E : EK) (h : sp__law_forest_of ds G Q E) : t__law_forest_of (fnEnds Q E) (start3 N__law_forest_of ds) G := by
  unfold sp__law_forest_of at h
  split at h
  case h_2 => exact h.elim
  obtain ⟨ps, ws, rfl, rfl, pr, wl, hq⟩ := h
  refine ⟨_, rfl, _, _, rfl, rfl, _, rfl, _, rfl, _, _, rfl, rfl, _, rfl, fun f nf => ⟨ps, ws, rfl, pr, rfl, wl, up_same, rfl, fz_ins up_same ?_⟩⟩
  rw [up_up, dl_up nf]
  exact dn_refl hq
/-! #### _law_hand -/

def sp__law_hand : Sp3 := fun ds G Q E => match ds with
  | [.sl xs] => (∀ x ∈ xs, ∃ n : Int, x = .int n) ∧ xs.length ≤ 63 ∧ ∀ p cs i c s t, G p = none → HOk cs i c → Q (.ref p) (up G p (hnd cs i c s t))
  | _ => False
def t__law_hand : TS3 :=
    (sret (tlst true (acons (tcb (bList false) (acons (tv 0) anil)) (acons (tc (.int 0)) (acons (tc (.int 0)) (acons (tc (.int 1)) (acons (tc (.int 0)) anil)))))))
set_option maxHeartbeats 4000000 in
theorem vc__law_hand (ds : List D) (G : Gp) (Q : QK) (E : EK) (h : sp__law_hand ds G Q E) : t__law_hand (fnEnds Q E) (start3 N__law_hand ds) G := by
  unfold sp__law_hand at h
  split at h
  case h_2 => exact h.elim
  obtain ⟨hx, hl, hq⟩ := h
  exact ⟨_, rfl, _, rfl, Nat.le_of_ble_eq_true rfl, fun p n => dn_refl (hq p _ 0 0 1 0 n ⟨hx, by decide, by decide⟩)⟩
/-! #### up_from -/

def sp_up_from : Sp3 := fun ds G Q E => match ds with | [.tup xs, .int i] => ∃ (ps : List (Option Nat)) (h : Nat), xs = ps.map pl ∧ i = h ∧ h < ps.length ∧ ParR ps ∧ Q (.fl ((U ps h).map fun (j : Nat) => D.int j)) G | _ => False
def t_up_from : TS3 :=
    (sseq (sset 2 (tlst true (acons (tv 1) anil)))
    (sseq (swhile (tb3 (t2 (is3 true) (t2 ix3 (tv 0) (t2 ix3 (tv 2) (tneg (tc (.int 1))))) (tc .non))) (sdrop (tmeth isL mAppend (tv 2) (acons (t2 ix3 (tv 0) (t2 ix3 (tv 2) (tneg (tc (.int 1))))) anil))))
    (sret (tfz (tv 2)))))
set_option maxHeartbeats 4000000 in
theorem vc_up_from (ds : List D) (G : Gp) (Q : QK) (E : EK) (h : sp_up_from ds G Q E) : t_up_from (fnEnds Q E) (start3 N_up_from ds) G := by
  unfold sp_up_from at h
  split at h
  case h_2 => exact h.elim
  obtain ⟨ps, h, rfl, rfl, hl, pr, hq⟩ := h
  have n64 := pr.n64
  have last : ∀ (l : List D) (d : D), atI (l ++ [d]) (-1) = some d := fun l d => by
    unfold atI
    have e : ixN (l ++ [d]).length (-1) = some l.length := by
      unfold ixN
      rw [if_neg (by decide), if_pos (by rw [List.length_append, List.length_singleton]; omega)]
      congr 1
      rw [List.length_append, List.length_singleton]; omega
    rw [e]; simp
  refine ⟨_, rfl, Nat.le_of_ble_eq_true rfl, fun p np => ?_⟩
  refine whN_inv (fun n σ G' => ∃ (acc : List Nat) (q : Nat), q < ps.length ∧ n = (U ps q).length ∧ acc.length + n ≤ 65 ∧ acc ++ U ps q = U ps h ∧ G' = up G p (.lst ((acc ++ [q]).map fun (j : Nat) => D.int j)) ∧ σ = [some (.tup (ps.map pl)), some (.int h), some (.ref p)]) ?_ ⟨[], h, hl, rfl, by have := upP_len ps ps.length h; show 0 + (upP ps ps.length h).length ≤ 65; omega, rfl, rfl, rfl⟩
  rintro n σ G' N ⟨acc, q, hq', rfl, hacc, e, rfl, rfl⟩ hN
  obtain ⟨o, eo, oo⟩ := up_get pr hq'
  have lst : atI ((acc ++ [q]).map fun (j : Nat) => D.int j) (-1) = some (.int q) := by rw [List.map_append]; exact last _ _
  refine ⟨_, rfl, _, rfl, _, rfl, _, _, sq_ref up_same, lst, _, _, rfl, at_pl eo, _, rfl, ?_⟩
  cases o with
  | some r =>
    refine ite_b (fun _ => ?_) (fun z => by cases z)
    have uc := U_cons pr hq' eo
    have ul : (U ps q).length = (U ps r).length + 1 := by rw [uc]; rfl
    refine ⟨_, rfl, isL_ref up_same, _, rfl, _, rfl, _, rfl, _, _, sq_ref up_same, lst, _, _, rfl, at_pl eo, _, up_same, (by rw [List.length_map, List.length_append, List.length_singleton]; show _ < 16777216; omega), ?_⟩
    rw [up_up]
    refine hN _ _ _ (by omega) ⟨acc ++ [q], r, oo r rfl, rfl, by rw [List.length_append, List.length_singleton]; omega, ?_, ?_, rfl⟩
    · rw [← e, uc, List.append_assoc]; rfl
    · congr 2
      simp [pl]
  | none =>
    refine ite_b (fun z => by cases z) (fun _ => ?_)
    refine ⟨_, rfl, fz_lst up_same ?_⟩
    rw [dl_up np]
    refine dn_refl ?_
    rw [← e, U_nil pr eo] at hq
    exact hq
/-! #### common_of -/

def sp_common_of : Sp3 := fun ds G Q E => match ds with | [.tup xs, .int i, .int j] => ∃ (ps : List (Option Nat)) (a b : Nat), xs = ps.map pl ∧ i = a ∧ j = b ∧ a < ps.length ∧ b < ps.length ∧ ParR ps ∧ Q (pl ((U ps a).find? fun y => decide (y ∈ U ps b))) G | _ => False
def t_common_of : TS3 :=
    (sseq (sset 3 (tcb bDict (acons (tlc false (iseq (tcall sp_up_from (acons (tv 0) (acons (tv 1) anil)))) (.n 4) Tyes (ttup (acons (tv 4) (acons (tc (.bl true)) anil))) [4]) anil)))
    (sseq (sfor (iseq (tcall sp_up_from (acons (tv 0) (acons (tv 2) anil)))) (.n 4) (sif (tb3 (tdin false (tv 4) (tv 3))) (sret (tv 4)) snext))
    (sret (tc .non))))
set_option maxHeartbeats 4000000 in
theorem vc_common_of (ds : List D) (G : Gp) (Q : QK) (E : EK) (h : sp_common_of ds G Q E) : t_common_of (fnEnds Q E) (start3 N_common_of ds) G := by
  unfold sp_common_of at h
  split at h
  case h_2 => exact h.elim
  obtain ⟨ps, a, b, rfl, rfl, rfl, ha, hb, pr, hq⟩ := h
  have n64 := pr.n64
  rw [← first_common pr ha hb] at hq
  let f : D → Option D := fun y => some (.tup [y, .bl true])
  refine ⟨_, rfl, _, rfl, ps, a, rfl, rfl, ha, pr, _, rfl, lc_pure f (fun y my G'' _ R hR => ?_) (fun _ _ => trivial) (by have := U_len ps a; rw [List.length_map]; show _ ≤ 16777216; omega) ?_⟩
  · exact ⟨_, rfl, Nat.le_of_ble_eq_true rfl, hR⟩
  refine ⟨(U ps a).map fun (j : Nat) => ((.inl j : Key), D.bl true), ?_, fun p np => ?_⟩
  · show some _ = some _
    congr 1
    rw [List.map_map]
    have e : ∀ l : List Nat, (l.map fun (j : Nat) => D.int j).filterMap f = l.map ((fun kv : Key × D => D.tup [kD kv.1, kv.2]) ∘ fun (j : Nat) => ((.inl j : Key), D.bl true)) := fun l => by
      induction l with
      | nil => rfl
      | cons x l ih => rw [List.map_cons, List.map_cons, ← ih]; rfl
    exact e _
  refine ⟨_, rfl, _, rfl, ps, b, rfl, rfl, hb, pr, _, rfl, ?_⟩
  have back : ∀ d, Q d G → dn Q d (up G p (.dic (mergeD ((U ps a).map fun (j : Nat) => ((.inl j : Key), D.bl true))))) := fun d h => ⟨G, Sub.up np, h⟩
  refine forL_inv (fun k σ G' => G' = up G p (.dic (mergeD ((U ps a).map fun (j : Nat) => ((.inl j : Key), D.bl true)))) ∧ (U ps b).find? (fun y => decide (y ∈ U ps a)) = ((U ps b).drop k).find? (fun y => decide (y ∈ U ps a)) ∧ ∃ y4, σ = [some (.tup (ps.map pl)), some (.int a), some (.int b), some (.ref p), y4]) ?_ ?_ ⟨rfl, rfl, none, rfl⟩
  · rintro k x σ G' N ex ⟨rfl, e, y4, rfl⟩ hN
    rw [List.getElem?_map] at ex
    cases e1 : (U ps b)[k]? with
    | none => rw [e1] at ex; cases ex
    | some q =>
      rw [e1] at ex
      cases ex
      have dk : (U ps b).drop k = q :: (U ps b).drop (k + 1) := by
        obtain ⟨h1, h2⟩ := List.getElem?_eq_some_iff.mp e1
        rw [← h2]; exact List.drop_eq_getElem_cons h1
      rw [dk, List.find?_cons] at e
      refine ⟨trivial, _, rfl, _, rfl, p, _, .inl q, rfl, up_same, rfl, _, rfl, ite_b (fun z => ?_) (fun z => ?_)⟩
      · have z : anyD (mergeD ((U ps a).map fun (j : Nat) => ((.inl j : Key), D.bl true))) (.inl q) = true := z
        rw [any_nat] at z
        rw [z] at e
        rw [e] at hq
        exact ⟨_, rfl, back _ hq⟩
      · have z : anyD (mergeD ((U ps a).map fun (j : Nat) => ((.inl j : Key), D.bl true))) (.inl q) = false := z
        rw [any_nat] at z
        rw [z] at e
        exact hN _ _ ⟨rfl, e, _, rfl⟩
  · rintro σ G' ⟨rfl, e, y4, rfl⟩
    have e : (U ps b).find? (fun y => decide (y ∈ U ps a)) = ((U ps b).drop ((U ps b).map fun (j : Nat) => D.int j).length).find? (fun y => decide (y ∈ U ps a)) := e
    rw [List.length_map, List.drop_length] at e
    rw [e] at hq
    exact ⟨trivial, back _ hq⟩
/-! #### way_of -/

def sp_way_of : Sp3 := fun ds G Q E => match ds with | [.tup xs, .int i, .int j] => ∃ (ps : List (Option Nat)) (a b : Nat), xs = ps.map pl ∧ i = a ∧ j = b ∧ a < ps.length ∧ b < ps.length ∧ ParR ps ∧ Q (wayD .tup ps a b) G | _ => False
def t_way_of : TS3 :=
    (sseq (sset 3 (tcall sp_common_of (acons (tv 0) (acons (tv 1) (acons (tv 2) anil)))))
    (sseq (sif (tb3 (t2 (is3 false) (tv 3) (tc .non))) (sret (tc .non)) snext)
    (sseq (sset 4 (tcall sp_up_from (acons (tv 0) (acons (tv 1) anil))))
    (sseq (sset 5 (tcall sp_up_from (acons (tv 0) (acons (tv 2) anil))))
    (sret (tcb bTup (acons (t2 (add3 false) (tsl false (tv 4) onone (osome (t2 (add3 false) (tmeth isL mIndex (tv 4) (acons (tv 3) anil)) (tc (.int 1))))) (trev false (tsl false (tv 5) onone (osome (tmeth isL mIndex (tv 5) (acons (tv 3) anil)))))) anil)))))))
set_option maxHeartbeats 4000000 in
theorem vc_way_of (ds : List D) (G : Gp) (Q : QK) (E : EK) (h : sp_way_of ds G Q E) : t_way_of (fnEnds Q E) (start3 N_way_of ds) G := by
  unfold sp_way_of at h
  split at h
  case h_2 => exact h.elim
  obtain ⟨ps, a, b, rfl, rfl, rfl, ha, hb, pr, hq⟩ := h
  have n64 := pr.n64
  unfold wayD at hq
  refine ⟨_, rfl, _, rfl, _, rfl, ps, a, b, rfl, rfl, rfl, ha, hb, pr, ?_⟩
  cases e : (U ps a).find? (fun y => decide (y ∈ U ps b)) with
  | none =>
    rw [e] at hq
    exact ⟨_, rfl, _, rfl, ite_b (fun _ => dn_refl hq) (fun z => by cases z)⟩
  | some t =>
    rw [e] at hq
    have ta : t ∈ U ps a := List.mem_of_find?_eq_some e
    have tb : t ∈ U ps b := by have := List.find?_some e; simpa using this
    have la := U_len ps a
    have lb := U_len ps b
    refine ⟨_, rfl, _, rfl, ite_b (fun z => by cases z) (fun _ => ?_)⟩
    refine ⟨_, rfl, _, rfl, ps, a, rfl, rfl, ha, pr, _, rfl, _, rfl, ps, b, rfl, rfl, hb, pr, ?_⟩
    refine ⟨_, rfl, _, rfl, ⟨_, rfl⟩, _, rfl, ?_⟩
    dsimp only [anil, pl]
    refine idx_ok ta ?_
    refine ⟨_, rfl, _, rfl, ?_⟩
    refine ⟨_, rfl, _, rfl, ⟨_, rfl⟩, _, rfl, ?_⟩
    dsimp only [anil, pl]
    refine idx_ok tb ?_
    refine ⟨_, rfl, _, rfl, _, rfl, _, _, rfl, rfl, ?_, _, rfl, ?_⟩
    · rw [List.length_reverse, cut_take1, cut_take, List.length_map, List.length_map, List.length_take, List.length_take]
      show _ ≤ 16777216
      omega
    · refine dn_refl ?_
      rw [cut_take1, cut_take, ← List.map_reverse, ← List.map_append]
      exact hq
/-! #### added_values -/

def sp_added_values : Sp3 := fun ds G Q E => match ds with | [f, .int i, .int j, .int v] => ∃ ps ws, ∃ a b t : Nat, f = fo ps ws ∧ ParR ps ∧ ws.length = ps.length ∧ i = a ∧ j = b ∧ a < ps.length ∧ b < ps.length ∧ cm ps a b = some t ∧ Q (.tup ((addH (wayL ps a b t) v ws).map D.int)) G | _ => False
def t_added_values : TS3 :=
    (sseq (sset 4 (tcall sp_way_of (acons (tfld (Str.ofString "Forest") (Str.ofString "parents") (tv 0)) (acons (tv 1) (acons (tv 2) anil)))))
    (sret (tcb bTup (acons (tlc false (ienum (acons (tfld (Str.ofString "Forest") (Str.ofString "worths") (tv 0)) anil)) (.t [5, 6]) Tyes (tif (tb3 (t2 (in3 false) (tv 5) (tv 4))) (t2 (add3 false) (tv 6) (tv 3)) (tv 6)) [5, 6]) anil))))
set_option maxHeartbeats 4000000 in
theorem vc_added_values (ds : List D) (G : Gp) (Q : QK) (E : EK) (h : sp_added_values ds G Q E) : t_added_values (fnEnds Q E) (start3 N_added_values ds) G := by
  unfold sp_added_values at h
  split at h
  case h_2 => exact h.elim
  rename_i f i j v
  obtain ⟨ps, ws, a, b, t, rfl, pr, wl, rfl, rfl, ha, hb, e, hq⟩ := h
  have n64 := pr.n64
  refine ⟨_, rfl, _, fo_p (ps := ps) (ws := ws), _, rfl, _, rfl, ps, a, b, rfl, rfl, rfl, ha, hb, pr, ?_⟩
  rw [way_gs e]
  have nd := way_nodup pr ha hb e
  generalize wayL ps a b t = hs at nd hq ⊢
  refine ⟨_, rfl, _, fo_w (ps := ps) (ws := ws), _, _, rfl, rfl, lc_pure (fA hs v) (fun y my G' _ R hR => ?_) (fun _ _ => trivial) (by rw [enD_len, List.length_map]; show _ ≤ 16777216; omega) ?_⟩
  · obtain ⟨i, hi⟩ := List.getElem?_of_mem my
    obtain ⟨x, ex, rfl⟩ := enD_get hi
    obtain ⟨j, _, rfl⟩ := List.mem_map.mp (List.mem_of_getElem? ex)
    have hR : R (some (.int (j + if ((i : Nat) : Int).toNat ∈ hs then v else 0))) G' := hR
    rw [Int.toNat_natCast] at hR
    refine ⟨_, rfl, rfl, _, rfl, _, rfl, _, rfl, rfl, flat_nat _, _, rfl, ite_b (fun z => ?_) (fun z => ?_)⟩
    · have z : inD (.int (i : Nat)) (hs.map fun (j : Nat) => D.int j) = true := z
      rw [inD_nat, decide_eq_true_eq] at z
      rw [if_pos z] at hR
      exact ⟨_, rfl, _, rfl, hR⟩
    · have z : inD (.int (i : Nat)) (hs.map fun (j : Nat) => D.int j) = false := z
      rw [inD_nat, decide_eq_false_iff_not] at z
      rw [if_neg z, Int.add_zero] at hR
      exact ⟨_, rfl, hR⟩
  rw [add_map nd]
  exact ⟨_, rfl, dn_refl hq⟩
/-! #### replaced -/

def sp_replaced : Sp3 := fun ds G Q E => match ds with | [.tup xs, .int i, x] => ∃ j : Nat, i = j ∧ j < xs.length ∧ xs.length ≤ 64 ∧ Q (.tup (xs.set j x)) G | _ => False
def t_replaced : TS3 :=
    (sret (t2 (add3 false) (t2 (add3 false) (tsl false (tv 0) onone (osome (tv 1))) (ttup (acons (tv 2) anil))) (tsl false (tv 0) (osome (t2 (add3 false) (tv 1) (tc (.int 1)))) onone)))
set_option maxHeartbeats 4000000 in
theorem vc_replaced (ds : List D) (G : Gp) (Q : QK) (E : EK) (h : sp_replaced ds G Q E) : t_replaced (fnEnds Q E) (start3 N_replaced ds) G := by
  unfold sp_replaced at h
  split at h
  case h_2 => exact h.elim
  rename_i xs i x
  obtain ⟨j, rfl, hj, l1, hq⟩ := h
  have ca : ∀ {A B : List D}, A.length ≤ 100 → B.length ≤ 100 → A.length + B.length ≤ sizeLine := fun {A B} a b => by show _ ≤ 16777216; omega
  have lc : ∀ lo hi, (L3.cutD xs lo hi).length ≤ 64 := fun lo hi => Nat.le_trans cutD_len l1
  refine ⟨_, rfl, _, rfl, _, rfl, _, rfl, Nat.le_of_ble_eq_true rfl, (ca (A := L3.cutD xs none (some (j : Int))) (B := [x]) (by have := lc none (some (j : Int)); omega) (Nat.le_of_ble_eq_true rfl)), _, rfl, _, rfl, _, rfl, (ca (A := L3.cutD xs none (some (j : Int)) ++ [x]) (B := L3.cutD xs (some ((j : Int) + 1)) none) (by have := lc none (some (j : Int)); rw [List.length_append, List.length_singleton]; omega) (by have := lc (some ((j : Int) + 1)) none; omega)), dn_refl ?_⟩
  rw [cut_set xs j x hj]
  exact hq
/-! #### turned_parents -/

def sp_turned_parents : Sp3 := fun ds G Q E => match ds with | [.tup xs, .int i] => ∃ (ps : List (Option Nat)) (h : Nat), xs = ps.map pl ∧ i = h ∧ h < ps.length ∧ ParR ps ∧ Q (.tup ((turnP ps h).map pl)) G | _ => False
def t_turned_parents : TS3 :=
    (sseq (sset 2 (tcb (bList true) (acons (tv 0) anil)))
    (sseq (sset 3 (tcall sp_up_from (acons (tv 0) (acons (tv 1) anil))))
    (sseq (sfor (izip (acons (tv 3) (acons (tsl false (tv 3) (osome (tc (.int 1))) onone) anil))) (.t [4, 5]) (ssub (tv 2) (tv 5) (tv 4) setL3))
    (sseq (ssub (tv 2) (tv 1) (tc .non) setL3)
    (sret (tcb bTup (acons (tv 2) anil)))))))
set_option maxHeartbeats 4000000 in
theorem vc_turned_parents (ds : List D) (G : Gp) (Q : QK) (E : EK) (h : sp_turned_parents ds G Q E) : t_turned_parents (fnEnds Q E) (start3 N_turned_parents ds) G := by
  unfold sp_turned_parents at h
  split at h
  case h_2 => exact h.elim
  obtain ⟨ps, h, rfl, rfl, hh, pr, hq⟩ := h
  have n64 := pr.n64
  refine ⟨_, rfl, _, rfl, fun p np => ?_⟩
  refine ⟨_, rfl, _, rfl, ps, h, rfl, rfl, hh, pr, ?_⟩
  have lt := U_lt pr h hh
  unfold turnP at hq
  generalize U ps h = l at lt hq
  refine ⟨_, rfl, _, rfl, _, rfl, _, rfl, _, _, .inr rfl, ?_⟩
  rw [cut_tail, zip_map]
  generalize hZ : l.zip l.tail = Z at hq
  refine forL_inv (fun k σ G' => G' = up G p (.lst ((trn (Z.take k) ps).map pl)) ∧ ∃ y4 y5, σ = [some (.tup (ps.map pl)), some (.int h), some (.ref p), some (.fl (l.map fun (j : Nat) => D.int j)), y4, y5]) ?_ ?_ ⟨rfl, none, none, rfl⟩
  · rintro k x σ G' N ex ⟨rfl, y4, y5, rfl⟩ hN
    rw [List.getElem?_map] at ex
    cases e : Z[k]? with
    | none => rw [e] at ex; cases ex
    | some q =>
      rw [e] at ex
      cases ex
      have mq : q ∈ l.zip l.tail := by rw [hZ]; exact List.mem_of_getElem? e
      have q2 : q.2 < ps.length := lt _ (List.mem_of_mem_tail (zip_snd mq))
      refine ⟨trivial, _, rfl, rfl, _, rfl, _, rfl, _, rfl, _, _, up_same, ixn_ok q.2 (by rw [List.length_map, trn_len]; exact q2), ?_⟩
      rw [up_up]
      refine hN _ _ ⟨?_, _, _, rfl⟩
      rw [take_snoc e, trn_snoc, List.map_set]
      rfl
  · rintro σ G' ⟨rfl, y4, y5, rfl⟩
    rw [List.length_map, List.take_length]
    refine ⟨trivial, _, rfl, _, rfl, _, _, up_same, ixn_ok h (by rw [List.length_map, trn_len]; exact hh), ?_⟩
    rw [up_up]
    refine ⟨_, rfl, _, sq_ref up_same, G, Sub.up np, ?_⟩
    rw [List.map_set] at hq
    exact hq
/-! #### after_deed -/

def sp_after_deed : Sp3 := fun ds G Q E => match ds with | [f, x] => ∃ ps ws, ∃ q : Dq, f = fo ps ws ∧ ParR ps ∧ ws.length = ps.length ∧ x = q.d ∧ q.ok ps.length ∧ canQ ps q = true ∧ Q (fo (doP ps q) (doW ps ws q)) G | _ => False
def t_after_deed : TS3 :=
    (sseq (sunp [2, 3] (tsl false (tv 1) onone (osome (tc (.int 2)))))
    (sseq (sif (tb3 (t2 eq3 (tv 2) (tc (.str (Str.ofString "link"))))) (sret (tfz (tmk (Str.ofString "Forest") sp_Forest___init__ (acons (tcall sp_replaced (acons (tfld (Str.ofString "Forest") (Str.ofString "parents") (tv 0)) (acons (tv 3) (acons (t2 ix3 (tv 1) (tc (.int 2))) anil)))) (acons (tfld (Str.ofString "Forest") (Str.ofString "worths") (tv 0)) anil))))) snext)
    (sseq (sif (tb3 (t2 eq3 (tv 2) (tc (.str (Str.ofString "cut"))))) (sret (tfz (tmk (Str.ofString "Forest") sp_Forest___init__ (acons (tcall sp_replaced (acons (tfld (Str.ofString "Forest") (Str.ofString "parents") (tv 0)) (acons (tv 3) (acons (tc .non) anil)))) (acons (tfld (Str.ofString "Forest") (Str.ofString "worths") (tv 0)) anil))))) snext)
    (sseq (sif (tb3 (t2 eq3 (tv 2) (tc (.str (Str.ofString "turn"))))) (sret (tfz (tmk (Str.ofString "Forest") sp_Forest___init__ (acons (tcall sp_turned_parents (acons (tfld (Str.ofString "Forest") (Str.ofString "parents") (tv 0)) (acons (tv 3) anil))) (acons (tfld (Str.ofString "Forest") (Str.ofString "worths") (tv 0)) anil))))) snext)
    (sseq (sif (tb3 (t2 eq3 (tv 2) (tc (.str (Str.ofString "put"))))) (sret (tfz (tmk (Str.ofString "Forest") sp_Forest___init__ (acons (tfld (Str.ofString "Forest") (Str.ofString "parents") (tv 0)) (acons (tcall sp_replaced (acons (tfld (Str.ofString "Forest") (Str.ofString "worths") (tv 0)) (acons (tv 3) (acons (t2 ix3 (tv 1) (tc (.int 2))) anil)))) anil))))) snext)
    (sret (tfz (tmk (Str.ofString "Forest") sp_Forest___init__ (acons (tfld (Str.ofString "Forest") (Str.ofString "parents") (tv 0)) (acons (tcall sp_added_values (acons (tv 0) (acons (tv 3) (acons (t2 ix3 (tv 1) (tc (.int 2))) (acons (t2 ix3 (tv 1) (tc (.int 3))) anil))))) anil))))))))))
set_option maxHeartbeats 4000000 in
theorem vc_after_deed (ds : List D) (G : Gp) (Q : QK) (E : EK) (h : sp_after_deed ds G Q E) : t_after_deed (fnEnds Q E) (start3 N_after_deed ds) G := by
  unfold sp_after_deed at h
  split at h
  case h_2 => exact h.elim
  obtain ⟨ps, ws, q, rfl, pr, wl, rfl, hok, hc, hq⟩ := h
  have n64 := pr.n64
  obtain ⟨pr2, pl2⟩ := do_par pr hok hc
  have wl2 : (doW ps ws q).length = (doP ps q).length := by rw [doW_len, pl2, wl]
  cases q with
  | link a b =>
    refine ⟨_, rfl, _, rfl, _, congrArg D.tup (cut_2 _ _ _), rfl, ?_⟩
    refine ⟨_, rfl, rfl, _, rfl, ite_b (fun _ => ?_) (fun z => noF z (by decide +kernel))⟩
    refine ⟨_, rfl, _, fo_p (ps := ps) (ws := ws), _, rfl, _, rfl, _, _, rfl, rfl, a, rfl, (by rw [List.length_map]; exact hok.1), (by rw [List.length_map]; exact n64), ?_⟩
    rw [show (ps.map pl).set a (D.int b) = (ps.set a (some b)).map pl from (by rw [List.map_set]; rfl)]
    refine ⟨_, rfl, _, fo_w (ps := ps) (ws := ws), fun f nf => ⟨_, _, rfl, pr2, rfl, wl2, up_same, rfl, fz_ins up_same ?_⟩⟩
    rw [up_up, dl_up nf]
    exact dn_refl hq
  | cut a =>
    refine ⟨_, rfl, _, rfl, _, congrArg D.tup (cut_2 _ _ _), rfl, ?_⟩
    refine ⟨_, rfl, rfl, _, rfl, ite_b (fun z => noT z (by decide +kernel)) (fun _ => ?_)⟩
    refine ⟨_, rfl, rfl, _, rfl, ite_b (fun _ => ?_) (fun z => noF z (by decide +kernel))⟩
    refine ⟨_, rfl, _, fo_p (ps := ps) (ws := ws), _, rfl, a, rfl, (by rw [List.length_map]; exact hok), (by rw [List.length_map]; exact n64), ?_⟩
    rw [show (ps.map pl).set a D.non = (ps.set a none).map pl from (by rw [List.map_set]; rfl)]
    refine ⟨_, rfl, _, fo_w (ps := ps) (ws := ws), fun f nf => ⟨_, _, rfl, pr2, rfl, wl2, up_same, rfl, fz_ins up_same ?_⟩⟩
    rw [up_up, dl_up nf]
    exact dn_refl hq
  | turn a =>
    refine ⟨_, rfl, _, rfl, _, congrArg D.tup (cut_2 _ _ _), rfl, ?_⟩
    refine ⟨_, rfl, rfl, _, rfl, ite_b (fun z => noT z (by decide +kernel)) (fun _ => ?_)⟩
    refine ⟨_, rfl, rfl, _, rfl, ite_b (fun z => noT z (by decide +kernel)) (fun _ => ?_)⟩
    refine ⟨_, rfl, rfl, _, rfl, ite_b (fun _ => ?_) (fun z => noF z (by decide +kernel))⟩
    refine ⟨_, rfl, _, fo_p (ps := ps) (ws := ws), _, rfl, ps, a, rfl, rfl, hok, pr, ?_⟩
    refine ⟨_, rfl, _, fo_w (ps := ps) (ws := ws), fun f nf => ⟨_, _, rfl, pr2, rfl, wl2, up_same, rfl, fz_ins up_same ?_⟩⟩
    rw [up_up, dl_up nf]
    exact dn_refl hq
  | put a v =>
    refine ⟨_, rfl, _, rfl, _, congrArg D.tup (cut_2 _ _ _), rfl, ?_⟩
    refine ⟨_, rfl, rfl, _, rfl, ite_b (fun z => noT z (by decide +kernel)) (fun _ => ?_)⟩
    refine ⟨_, rfl, rfl, _, rfl, ite_b (fun z => noT z (by decide +kernel)) (fun _ => ?_)⟩
    refine ⟨_, rfl, rfl, _, rfl, ite_b (fun z => noT z (by decide +kernel)) (fun _ => ?_)⟩
    refine ⟨_, rfl, rfl, _, rfl, ite_b (fun _ => ?_) (fun z => noF z (by decide +kernel))⟩
    refine ⟨_, rfl, _, fo_p (ps := ps) (ws := ws), _, rfl, _, fo_w (ps := ps) (ws := ws), _, rfl, _, rfl, _, _, rfl, rfl, a, rfl, (by rw [List.length_map, wl]; exact hok), (by rw [List.length_map, wl]; exact n64), ?_⟩
    rw [show (ws.map D.int).set a (D.int v) = (ws.set a v).map D.int from (by rw [List.map_set])]
    refine fun f nf => ⟨_, _, rfl, pr2, rfl, wl2, up_same, rfl, fz_ins up_same ?_⟩
    rw [up_up, dl_up nf]
    exact dn_refl hq
  | add a b v =>
    refine ⟨_, rfl, _, rfl, _, congrArg D.tup (cut_2 _ _ _), rfl, ?_⟩
    refine ⟨_, rfl, rfl, _, rfl, ite_b (fun z => noT z (by decide +kernel)) (fun _ => ?_)⟩
    refine ⟨_, rfl, rfl, _, rfl, ite_b (fun z => noT z (by decide +kernel)) (fun _ => ?_)⟩
    refine ⟨_, rfl, rfl, _, rfl, ite_b (fun z => noT z (by decide +kernel)) (fun _ => ?_)⟩
    refine ⟨_, rfl, rfl, _, rfl, ite_b (fun z => noT z (by decide +kernel)) (fun _ => ?_)⟩
    have hc : decide (((topP ps ps.length a : Nat) : Int) = ((topP ps ps.length b : Nat) : Int)) = true := hc
    rw [← same_root pr hok.1 hok.2] at hc
    obtain ⟨t, e⟩ : ∃ t, cm ps a b = some t := by
      cases e : cm ps a b with
      | none => rw [e] at hc; cases hc
      | some t => exact ⟨t, rfl⟩
    have ew : doW ps ws (.add a b v) = addH (wayL ps a b t) v ws := by
      show (match cm ps a b with | some t => addH (wayL ps a b t) v ws | none => ws) = _
      rw [e]
    rw [ew] at hq wl2
    refine ⟨_, rfl, _, fo_p (ps := ps) (ws := ws), _, rfl, _, rfl, _, rfl, _, _, rfl, rfl, _, rfl, _, _, rfl, rfl, ps, ws, a, b, t, rfl, pr, wl, rfl, rfl, hok.1, hok.2, e, ?_⟩
    refine fun f nf => ⟨_, _, rfl, pr, rfl, wl2, up_same, rfl, fz_ins up_same ?_⟩
    rw [up_up, dl_up nf]
    exact dn_refl hq
/-! #### has_form -/

def sp_has_form : Sp3 := fun ds G Q E => match ds with | [.int i, x] => ∃ n : Nat, i = n ∧ wkr x = true ∧ (∀ xs, x = .tup xs → xs.length ≤ 1000) ∧ Q (.bl (prs n x).isSome) G | _ => False
def t_has_form : TS3 :=
    (sseq (sif (Tor (Tnot (tb3 (tisi (isT OC .tup) (tv 1)))) (Tor (tb3 (t2 eq3 (tcb bLen (acons (tv 1) anil)) (tc (.int 0)))) (Tnot (tb3 (tisi (isT OC .str) (t2 ix3 (tv 1) (tc (.int 0)))))))) (sret (tc (.bl false))) snext)
    (sseq (sif (tb3 (t2 ne3 (tkget [((Str.ofString "link"), 3), ((Str.ofString "cut"), 2), ((Str.ofString "turn"), 2), ((Str.ofString "put"), 3), ((Str.ofString "add"), 4)] (t2 ix3 (tv 1) (tc (.int 0))) (tc (.int 0))) (tcb bLen (acons (tv 1) anil)))) (sret (tc (.bl false))) snext)
    (sseq (sset 2 (tkix [((Str.ofString "link"), 2), ((Str.ofString "cut"), 1), ((Str.ofString "turn"), 1), ((Str.ofString "put"), 1), ((Str.ofString "add"), 2)] (t2 ix3 (tv 1) (tc (.int 0)))))
    (sseq (sif (Tnot (tb3 (tcb bAll (acons (tlc false (iseq (tsl false (tv 1) (osome (tc (.int 1))) (osome (t2 (add3 false) (tc (.int 1)) (tv 2))))) (.n 3) Tyes (tcall sp_is_below (acons (tv 3) (acons (tv 0) anil))) [3]) anil)))) (sret (tc (.bl false))) snext)
    (sret (tcb bAll (acons (tlc false (iseq (tsl false (tv 1) (osome (t2 (add3 false) (tc (.int 1)) (tv 2))) onone)) (.n 3) Tyes (tcall sp_is_integer (acons (tv 3) anil)) [3]) anil)))))))
set_option maxHeartbeats 4000000 in
theorem vc_has_form (ds : List D) (G : Gp) (Q : QK) (E : EK) (h : sp_has_form ds G Q E) : t_has_form (fnEnds Q E) (start3 N_has_form ds) G := by
  unfold sp_has_form at h
  split at h
  case h_2 => exact h.elim
  rename_i i x
  obtain ⟨n, rfl, hk, hlen, hq⟩ := h
  refine ⟨_, rfl, isi_use (P := fun b => _) (wkr_kn hk) ⟨_, rfl, ite_b (fun z => iteT (dn_refl ?_)) (fun z => ?_)⟩⟩
  · rw [show prs n x = none by cases x <;> first | rfl | cases z] at hq; exact hq
  obtain ⟨xs, rfl⟩ := isT_of (x := x) (by simpa using z)
  have hlen := hlen xs rfl
  have hk : ∀ y ∈ xs, kn OC y = true := List.all_eq_true.mp hk
  refine ⟨_, rfl, xs, rfl, rfl, _, rfl, ite_b (fun z1 => iteT (dn_refl ?_)) (fun z1 => ?_)⟩
  · have z1 : decide ((xs.length : Int) = 0) = true := z1
    have z1 := of_decide_eq_true z1
    cases xs with
    | nil => exact hq
    | cons a r => rw [List.length_cons] at z1; omega
  have z1 : decide ((xs.length : Int) = 0) = false := z1
  have z1 := of_decide_eq_false z1
  obtain ⟨a, r, rfl⟩ : ∃ a r, xs = a :: r := by
    cases xs with
    | nil => exact absurd rfl z1
    | cons a r => exact ⟨a, r, rfl⟩
  have ka := hk a (by simp)
  have at0 : atI (a :: r) 0 = some a := at_get (by decide) rfl
  refine ⟨_, rfl, _, _, rfl, at0, isi_use (P := fun b => _) ka ⟨_, rfl, ite_b (fun z => dn_refl ?_) (fun z => ?_)⟩⟩
  · rw [show prs n (.tup (a :: r)) = none by cases a <;> first | rfl | cases z] at hq; exact hq
  obtain ⟨w, rfl⟩ := isS_of (x := a) (by simpa using z)
  have hq : Q (.bl (prsW n w r).isSome) G := hq
  have hlr : r.length ≤ 1000 := by rw [List.length_cons] at hlen; omega
  refine ⟨_, rfl, _, _, rfl, at0, w, rfl, ?_⟩
  rcases sz_cases n w r with ⟨e1, e2⟩ | ⟨k, m, e1, e3, k2, e4⟩
  · rw [e1]
    rw [e2] at hq
    refine ⟨_, rfl, _, rfl, rfl, _, rfl, ite_b (fun _ => dn_refl hq) (fun z => ?_)⟩
    have z : (!decide ((0 : Int) = (((D.str w :: r).length : Nat) : Int))) = false := z
    rw [decide_eq_false (by rw [List.length_cons]; omega)] at z; cases z
  rw [e1]
  rw [e4] at hq
  refine ⟨_, rfl, _, rfl, rfl, _, rfl, ite_b (fun z => dn_refl ?_) (fun z => ?_)⟩
  · have z : (!decide ((k : Int) = (((D.str w :: r).length : Nat) : Int))) = true := z
    rw [Bool.not_eq_true', decide_eq_false_iff_not, List.length_cons] at z
    rw [decide_eq_false (show ¬ r.length + 1 = k by omega), Bool.false_and] at hq
    exact hq
  have z : (!decide ((k : Int) = (((D.str w :: r).length : Nat) : Int))) = false := z
  rw [Bool.not_eq_false', decide_eq_true_eq, List.length_cons] at z
  rw [decide_eq_true (show r.length + 1 = k by omega), Bool.true_and] at hq
  refine ⟨_, rfl, _, _, rfl, at0, w, _, rfl, e3, ?_⟩
  have kr : ∀ y ∈ r, kn OC y = true := fun y hy => hk y (List.mem_cons_of_mem _ hy)
  have ca := cut_a (.str w) r m
  have cb := cut_b (.str w) r m
  refine ⟨_, rfl, _, rfl, _, rfl, _, rfl, _, congrArg some ca, lc_pure (fun y => some (.bl (wiI 0 ((n : Int) - 1) y))) (fun y my G' _ R hR => ?_) (fun _ _ => trivial) (by rw [List.length_take]; show _ ≤ 16777216; omega) ?_⟩
  · exact ⟨_, rfl, _, rfl, kr y (List.mem_of_mem_take my), hR⟩
  refine ⟨_, _, rfl, bls_map _ _, _, rfl, ite_b (fun z => dn_refl ?_) (fun z => ?_)⟩
  · have z : (!((r.take m).map (wiI 0 ((n : Int) - 1))).all id) = true := z
    rw [List.all_map, Bool.not_eq_true'] at z
    have z : (r.take m).all (wiI 0 ((n : Int) - 1)) = false := z
    rw [z, Bool.false_and] at hq
    exact hq
  have z : (!((r.take m).map (wiI 0 ((n : Int) - 1))).all id) = false := z
  rw [List.all_map, Bool.not_eq_false'] at z
  have z : (r.take m).all (wiI 0 ((n : Int) - 1)) = true := z
  rw [z, Bool.true_and] at hq
  refine ⟨_, rfl, _, rfl, _, rfl, _, congrArg some cb, lc_pure (fun y => some (.bl (isI y))) (fun y my G' _ R hR => ?_) (fun _ _ => trivial) (by rw [List.length_drop]; show _ ≤ 16777216; omega) ?_⟩
  · exact ⟨_, rfl, kr y (List.mem_of_mem_drop my), hR⟩
  refine ⟨_, _, rfl, bls_map _ _, dn_refl ?_⟩
  rw [List.all_map]
  exact hq
/-! #### is_possible -/

def sp_is_possible : Sp3 := fun ds G Q E => match ds with | [f, x] => ∃ ps ws, ∃ q : Dq, f = fo ps ws ∧ ParR ps ∧ x = q.d ∧ q.ok ps.length ∧ Q (.bl (canQ ps q)) G | _ => False
def t_is_possible : TS3 :=
    (sseq (sset 2 (tfld (Str.ofString "Forest") (Str.ofString "parents") (tv 0)))
    (sseq (sif (tb3 (t2 eq3 (t2 ix3 (tv 1) (tc (.int 0))) (tc (.str (Str.ofString "link"))))) (sret (tand (t2 (is3 false) (t2 ix3 (tv 2) (t2 ix3 (tv 1) (tc (.int 1)))) (tc .non)) (t2 ne3 (t2 ix3 (tcall sp_up_from (acons (tv 2) (acons (t2 ix3 (tv 1) (tc (.int 2))) anil))) (tneg (tc (.int 1)))) (t2 ix3 (tv 1) (tc (.int 1)))))) snext)
    (sseq (sif (tb3 (t2 eq3 (t2 ix3 (tv 1) (tc (.int 0))) (tc (.str (Str.ofString "cut"))))) (sret (t2 (is3 true) (t2 ix3 (tv 2) (t2 ix3 (tv 1) (tc (.int 1)))) (tc .non))) snext)
    (sret (tor (t2 ne3 (t2 ix3 (tv 1) (tc (.int 0))) (tc (.str (Str.ofString "add")))) (t2 eq3 (t2 ix3 (tcall sp_up_from (acons (tv 2) (acons (t2 ix3 (tv 1) (tc (.int 1))) anil))) (tneg (tc (.int 1)))) (t2 ix3 (tcall sp_up_from (acons (tv 2) (acons (t2 ix3 (tv 1) (tc (.int 2))) anil))) (tneg (tc (.int 1))))))))))
set_option maxHeartbeats 4000000 in
theorem vc_is_possible (ds : List D) (G : Gp) (Q : QK) (E : EK) (h : sp_is_possible ds G Q E) : t_is_possible (fnEnds Q E) (start3 N_is_possible ds) G := by
  unfold sp_is_possible at h
  split at h
  case h_2 => exact h.elim
  obtain ⟨ps, ws, q, rfl, pr, rfl, hok, hq⟩ := h
  refine ⟨_, rfl, _, fo_p (ps := ps) (ws := ws), ?_⟩
  cases q with
  | link a b =>
    have e := step_get hok.1
    have hq : Q (.bl (isN (pl (stepP ps a)) && !decide (((topP ps ps.length b : Nat) : Int) = (a : Int)))) G := hq
    refine ⟨_, rfl, _, _, rfl, rfl, rfl, _, rfl, ite_b (fun _ => ?_) (fun z => noF z (by decide +kernel))⟩
    refine ⟨_, rfl, _, rfl, _, _, rfl, rfl, _, _, rfl, at_pl e, _, rfl, ite_b (fun z => ?_) (fun z => dn_refl ?_)⟩
    · have z : isN (pl (stepP ps a)) = true := z
      rw [z, Bool.true_and] at hq
      exact ⟨_, rfl, _, rfl, _, _, rfl, rfl, ps, b, rfl, rfl, hok.2, pr, _, rfl, _, _, rfl, at_last, _, rfl, _, _, rfl, rfl, rfl, dn_refl hq⟩
    · have z : isN (pl (stepP ps a)) = false := z
      rw [z, Bool.false_and] at hq
      exact hq
  | cut a =>
    have e := step_get (ps := ps) (h := a) hok
    refine ⟨_, rfl, _, _, rfl, rfl, rfl, _, rfl, ite_b (fun z => noT z (by decide +kernel)) (fun _ => ?_)⟩
    refine ⟨_, rfl, _, _, rfl, rfl, rfl, _, rfl, ite_b (fun _ => ?_) (fun z => noF z (by decide +kernel))⟩
    exact ⟨_, rfl, _, rfl, _, _, rfl, rfl, _, _, rfl, at_pl e, dn_refl hq⟩
  | turn a =>
    refine ⟨_, rfl, _, _, rfl, rfl, rfl, _, rfl, ite_b (fun z => noT z (by decide +kernel)) (fun _ => ?_)⟩
    refine ⟨_, rfl, _, _, rfl, rfl, rfl, _, rfl, ite_b (fun z => noT z (by decide +kernel)) (fun _ => ?_)⟩
    exact ⟨_, rfl, _, _, rfl, rfl, rfl, _, rfl, ite_b (fun _ => dn_refl hq) (fun z => noF z (by decide +kernel))⟩
  | put a v =>
    refine ⟨_, rfl, _, _, rfl, rfl, rfl, _, rfl, ite_b (fun z => noT z (by decide +kernel)) (fun _ => ?_)⟩
    refine ⟨_, rfl, _, _, rfl, rfl, rfl, _, rfl, ite_b (fun z => noT z (by decide +kernel)) (fun _ => ?_)⟩
    exact ⟨_, rfl, _, _, rfl, rfl, rfl, _, rfl, ite_b (fun _ => dn_refl hq) (fun z => noF z (by decide +kernel))⟩
  | add a b v =>
    refine ⟨_, rfl, _, _, rfl, rfl, rfl, _, rfl, ite_b (fun z => noT z (by decide +kernel)) (fun _ => ?_)⟩
    refine ⟨_, rfl, _, _, rfl, rfl, rfl, _, rfl, ite_b (fun z => noT z (by decide +kernel)) (fun _ => ?_)⟩
    refine ⟨_, rfl, _, _, rfl, rfl, rfl, _, rfl, ite_b (fun z => noT z (by decide +kernel)) (fun _ => ?_)⟩
    exact ⟨_, rfl, _, rfl, _, _, rfl, rfl, ps, a, rfl, rfl, hok.1, pr, _, rfl, _, _, rfl, at_last, _, rfl, _, rfl, _, _, rfl, rfl, ps, b, rfl, rfl, hok.2, pr, _, rfl, _, _, rfl, at_last, rfl, dn_refl hq⟩
/-! #### is_deed -/

def sp_is_deed : Sp3 := fun ds G Q E => match ds with | [f, x] => ∃ ps ws, f = fo ps ws ∧ ParR ps ∧ wkr x = true ∧ (∀ xs, x = .tup xs → xs.length ≤ 1000) ∧ Q (.bl (canD ps x)) G | _ => False
def t_is_deed : TS3 :=
    (sret (tand (tcall sp_has_form (acons (tcb bLen (acons (tfld (Str.ofString "Forest") (Str.ofString "parents") (tv 0)) anil)) (acons (tv 1) anil))) (tcall sp_is_possible (acons (tv 0) (acons (tv 1) anil)))))
set_option maxHeartbeats 4000000 in
theorem vc_is_deed (ds : List D) (G : Gp) (Q : QK) (E : EK) (h : sp_is_deed ds G Q E) : t_is_deed (fnEnds Q E) (start3 N_is_deed ds) G := by
  unfold sp_is_deed at h
  split at h
  case h_2 => exact h.elim
  rename_i f x
  obtain ⟨ps, ws, rfl, pr, wx, hl, hq⟩ := h
  refine ⟨_, rfl, _, fo_p (ps := ps) (ws := ws), _, rfl, _, rfl, ps.length, by rw [List.length_map], wx, hl, ?_⟩
  unfold canD at hq
  cases e : prs ps.length x with
  | none =>
    rw [e] at hq
    exact ⟨_, rfl, dn_refl hq⟩
  | some q =>
    rw [e] at hq
    obtain ⟨rfl, hok⟩ := prs_d e
    exact ⟨_, rfl, _, rfl, _, rfl, ps, ws, q, rfl, pr, rfl, hok, dn_refl hq⟩
/-! #### is_listed -/

def sp_is_listed : Sp3 := fun ds G Q E => match ds with | [x] => ((∃ xs, sq G x = some xs) ∧ Q (.bl true) G) ∨ (kn OC x = true ∧ isiD .lst x = false ∧ isiD .tup x = false ∧ Q (.bl false) G) | _ => False
def t_is_listed : TS3 :=
    (sret (tisi (isA OC [.lst, .tup]) (tv 0)))
set_option maxHeartbeats 4000000 in
theorem vc_is_listed (ds : List D) (G : Gp) (Q : QK) (E : EK) (h : sp_is_listed ds G Q E) : t_is_listed (fnEnds Q E) (start3 N_is_listed ds) G := by
  unfold sp_is_listed at h
  split at h
  case h_2 => exact h.elim
  rename_i x
  rcases h with ⟨⟨xs, hs⟩, hq⟩ | ⟨hk, h1, h2, hq⟩
  · refine ⟨_, rfl, ?_⟩
    cases x with
    | tup xs => exact ⟨_, _, rfl, rfl, dn_refl hq⟩
    | fl xs => exact ⟨_, _, rfl, rfl, dn_refl hq⟩
    | sl xs => exact ⟨_, _, rfl, rfl, dn_refl hq⟩
    | ref p =>
      unfold sq at hs
      simp only at hs
      cases e : G p with
      | none => rw [e] at hs; cases hs
      | some o =>
        cases o with
        | lst ys => exact ⟨.b .lst, true, (by unfold tyD; simp only; rw [e]), rfl, dn_refl hq⟩
        | _ => rw [e] at hs; cases hs
    | _ => cases hs
  · refine ⟨_, rfl, isa_use (P := fun b => _) hk (dn_refl ?_)⟩
    have e : ([Bt.lst, Bt.tup].any fun T => isiD T x) = false := by
      simp only [List.any_cons, List.any_nil, h1, h2]; rfl
    rw [e]; exact hq
/-! #### led -/

def sp_led : Sp3 := fun ds G Q E => match ds with | [f, L] => ∃ s : Fs, f = fo s.ps s.ws ∧ s.ok ∧ ((∃ xs, sq G L = some xs ∧ (∀ x ∈ xs, wks x = true) ∧ xs.length ≤ 1000 ∧ (∀ k x, xs[k]? = some x → s.row (xs.take k) → canD (s.end_ (xs.take k)).ps x = false → E ⟨Str.ofString "BadDeeds", some (Str.ofString "index", .int ((k : Nat)))⟩ G) ∧ (s.row xs → Q (fo (s.end_ xs).ps (s.end_ xs).ws) G)) ∨ (kn OC L = true ∧ isiD .lst L = false ∧ isiD .tup L = false ∧ E ⟨Str.ofString "BadDeeds", some (Str.ofString "index", .int (-1))⟩ G)) | _ => False
def t_led : TS3 :=
    (sseq (sif (Tnot (tb3 (tcall sp_is_listed (acons (tv 1) anil)))) (sraisef (Str.ofString "BadDeeds") (Str.ofString "index") (tneg (tc (.int 1)))) snext)
    (sseq (sset 2 (tv 0))
    (sseq (sfor (ienum (acons (tv 1) anil)) (.t [3, 4]) (sseq (sif (Tnot (tb3 (tcall sp_is_deed (acons (tv 2) (acons (tv 4) anil))))) (sraisef (Str.ofString "BadDeeds") (Str.ofString "index") (tv 3)) snext)
    (sset 2 (tcall sp_after_deed (acons (tv 2) (acons (tv 4) anil))))))
    (sret (tv 2)))))
set_option maxHeartbeats 4000000 in
theorem vc_led (ds : List D) (G : Gp) (Q : QK) (E : EK) (h : sp_led ds G Q E) : t_led (fnEnds Q E) (start3 N_led ds) G := by
  unfold sp_led at h
  split at h
  case h_2 => exact h.elim
  rename_i f L
  obtain ⟨s, rfl, so, h⟩ := h
  rcases h with ⟨xs, hs, hw, hl, hbad, hgood⟩ | ⟨hk, h1, h2, he⟩
  · refine ⟨_, rfl, .inl ⟨⟨xs, hs⟩, _, rfl, ite_b (fun z => by cases z) (fun _ => ?_)⟩⟩
    refine ⟨_, rfl, _, rfl, _, _, rfl, hs, ?_⟩
    refine forL_inv (fun k σ G' => G' = G ∧ s.row (xs.take k) ∧ ∃ y3 y4, σ = [some (fo s.ps s.ws), some L, some (fo (s.end_ (xs.take k)).ps (s.end_ (xs.take k)).ws), y3, y4]) ?_ ?_ ⟨rfl, trivial, none, none, rfl⟩
    · rintro k x σ G' N ex ⟨rfl, hr, y3, y4, rfl⟩ hN
      obtain ⟨d, ed, rfl⟩ := enD_get ex
      have wd := hw d (List.mem_of_getElem? ed)
      have eo := Fs.end_ok so hr
      refine ⟨gd_sq hs, _, rfl, rfl, _, rfl, _, rfl, _, _, rfl, eo.pr, wks_wkr wd, wks_len wd, _, rfl, ite_b (fun z => ?_) (fun z => ?_)⟩
      · exact ⟨_, rfl, _, Sub.refl, hbad k d ed hr (by simpa using z)⟩
      · have z : canD (s.end_ (xs.take k)).ps d = true := by simpa using z
        have rw1 : s.row (xs.take (k + 1)) := by rw [take_snoc ed]; exact Fs.row_app.mpr ⟨hr, z⟩
        have en : s.end_ (xs.take (k + 1)) = (s.end_ (xs.take k)).go d := by rw [take_snoc ed, Fs.end_app]; rfl
        obtain ⟨q, e, rfl, hok, hc⟩ := can_q z
        refine ⟨_, rfl, _, rfl, _, _, q, rfl, eo.pr, eo.wl, rfl, hok, hc, ?_⟩
        refine hN _ _ ⟨rfl, rw1, some (.int (k : Nat)), some q.d, ?_⟩
        rw [en, go_eq e]
        rfl
    · rintro σ G' ⟨rfl, hr, y3, y4, rfl⟩
      rw [enD_len, List.take_length] at hr ⊢
      exact ⟨gd_sq hs, _, rfl, dn_refl (hgood hr)⟩
  · refine ⟨_, rfl, .inr ⟨hk, h1, h2, _, rfl, ite_b (fun _ => ?_) (fun z => by cases z)⟩⟩
    exact ⟨_, rfl, _, Sub.refl, he⟩
/-! #### _law_led_told -/

def sp__law_led_told : Sp3 := fun ds G Q E => match ds with | [f, L] => ∃ s : Fs, f = fo s.ps s.ws ∧ s.ok ∧ ((∃ xs, sq G L = some xs ∧ (∀ x ∈ xs, wks x = true) ∧ xs.length ≤ 1000 ∧ (∀ k x, xs[k]? = some x → s.row (xs.take k) → canD (s.end_ (xs.take k)).ps x = false → Q (.tup [.str (Str.ofString "BadDeeds"), .int ((k : Nat))]) G) ∧ (s.row xs → Q (.tup [.str (Str.ofString "told"), pD (s.end_ xs).ps, wD (s.end_ xs).ws]) G)) ∨ (kn OC L = true ∧ isiD .lst L = false ∧ isiD .tup L = false ∧ Q (.tup [.str (Str.ofString "BadDeeds"), .int (-1)]) G)) | _ => False
def t__law_led_told : TS3 :=
    (stry (exmOf EXM) (sseq (sset 3 (tcall sp_led (acons (tv 0) (acons (tv 1) anil))))
    (sret (ttup (acons (tc (.str (Str.ofString "told"))) (acons (tfld (Str.ofString "Forest") (Str.ofString "parents") (tv 3)) (acons (tfld (Str.ofString "Forest") (Str.ofString "worths") (tv 3)) anil)))))) [⟨(Str.ofString "BadDeeds"), some 2, fun _ => (sret (ttup (acons (tc (.str (Str.ofString "BadDeeds"))) (acons (txf (Str.ofString "BadDeeds") (Str.ofString "index") (tv 2)) anil))))⟩])
set_option maxHeartbeats 4000000 in
theorem vc__law_led_told (ds : List D) (G : Gp) (Q : QK) (E : EK) (h : sp__law_led_told ds G Q E) : t__law_led_told (fnEnds Q E) (start3 N__law_led_told ds) G := by
  unfold sp__law_led_told at h
  split at h
  case h_2 => exact h.elim
  rename_i f L
  obtain ⟨s, rfl, so, h⟩ := h
  have ex : exmOf EXM (Str.ofString "BadDeeds") (Str.ofString "BadDeeds") = some true := by decide +kernel
  have bad : ∀ (i : Int), Q (.tup [.str (Str.ofString "BadDeeds"), .int i]) G → shand (exmOf EXM) (fnEnds Q E) [⟨Str.ofString "BadDeeds", some 2, fun _ => sret (ttup (acons (tc (.str (Str.ofString "BadDeeds"))) (acons (txf (Str.ofString "BadDeeds") (Str.ofString "index") (tv 2)) anil)))⟩] ⟨Str.ofString "BadDeeds", some (Str.ofString "index", .int i)⟩ [some (fo s.ps s.ws), some L, none, none] G := fun _ h =>
    ⟨true, ex, iteT fun gx sx => ⟨_, rfl, _, rfl, Nat.le_of_ble_eq_true rfl, gx, rfl, dn_refl h⟩⟩
  rcases h with ⟨xs, hs, hw, hl, hbad, hgood⟩ | ⟨hk, h1, h2, he⟩
  · refine ⟨_, rfl, _, rfl, s, rfl, so, .inl ⟨xs, hs, hw, hl, fun k x e r c => bad _ (hbad k x e r c), fun r => ?_⟩⟩
    exact ⟨_, rfl, _, fo_p (ps := (s.end_ xs).ps) (ws := (s.end_ xs).ws), _, rfl, _, fo_w (ps := (s.end_ xs).ps) (ws := (s.end_ xs).ws), Nat.le_of_ble_eq_true rfl, dn_refl (hgood r)⟩
  · exact ⟨_, rfl, _, rfl, s, rfl, so, .inr ⟨hk, h1, h2, bad _ he⟩⟩
/-! #### _law_take -/

def sp__law_take : Sp3 := fun ds G Q E => match ds with
  | [.ref h, .int m] => ∃ cs i c s t, G h = some (hnd cs i c s t) ∧ HOk cs i c ∧ 1 ≤ m ∧ m < 1073741824 ∧ ∀ r i' c' s' t', 0 ≤ r → r < m → HOk cs i' c' → Q (.int r) (up G h (hnd cs i' c' s' t'))
  | _ => False
def t__law_take : TS3 :=
    (sseq (ssub (tv 0) (tc (.int 4)) (t2 (add3 false) (t2 ix3 (tv 0) (tc (.int 4))) (tc (.int 1))) setL3)
    (sseq (sif (Tand (tb3 (t2 eq3 (t2 ix3 (tv 0) (tc (.int 2))) (tc (.int 0)))) (tb3 (t2 lt3 (t2 ix3 (tv 0) (tc (.int 1))) (tcb bLen (acons (t2 ix3 (tv 0) (tc (.int 0))) anil))))) (sseq (sset 3 (tcb bInt (acons (t2 ix3 (t2 ix3 (tv 0) (tc (.int 0))) (t2 ix3 (tv 0) (tc (.int 1)))) anil)))
    (sseq (ssub (tv 0) (tc (.int 1)) (t2 (add3 false) (t2 ix3 (tv 0) (tc (.int 1))) (tc (.int 1))) setL3)
    (sif (tb3 (t2 ge3 (tv 3) (t2 pow3 (tc (.int 10)) (tc (.int 18))))) (ssub (tv 0) (tc (.int 2)) (tv 3) setL3) (ssub (tv 0) (tc (.int 3)) (t2 mod3 (tcb bInt (acons (t2 (add3 false) (t2 (add3 false) (t2 (mul3 false) (t2 ix3 (tv 0) (tc (.int 3))) (tc (.int 48271))) (t2 mod3 (tcb bInt (acons (tv 3) anil)) (tc (.int 2147483647)))) (tc (.int 1))) anil)) (tc (.int 2147483647))) setL3)))) snext)
    (sseq (sif (tb3 (t2 gt3 (t2 ix3 (tv 0) (tc (.int 2))) (tc (.int 0)))) (sseq (sset 4 (t2 mod3 (tcb bInt (acons (t2 ix3 (tv 0) (tc (.int 2))) anil)) (tv 1)))
    (sseq (ssub (tv 0) (tc (.int 2)) (t2 fdiv3 (tcb bInt (acons (t2 ix3 (tv 0) (tc (.int 2))) anil)) (tv 1)) setL3)
    (sret (tv 4)))) snext)
    (sseq (ssub (tv 0) (tc (.int 3)) (t2 mod3 (tcb bInt (acons (t2 (add3 false) (t2 (mul3 false) (t2 ix3 (tv 0) (tc (.int 3))) (tc (.int 69621))) (t2 (mul3 false) (tc (.int 7919)) (t2 ix3 (tv 0) (tc (.int 4))))) anil)) (tc (.int 2147483647))) setL3)
    (sseq (sset 2 (t2 mod3 (tcb bInt (acons (t2 (mul3 false) (t2 ix3 (tv 0) (tc (.int 3))) (t2 (add3 false) (t2 fdiv3 (t2 ix3 (tv 0) (tc (.int 3))) (tc (.int 1009))) (tc (.int 69621)))) anil)) (tc (.int 2147483647))))
    (sseq (sset 2 (t2 mod3 (tcb bInt (acons (t2 (mul3 false) (tv 2) (t2 (add3 false) (t2 fdiv3 (tv 2) (tc (.int 2003))) (tc (.int 40692)))) anil)) (tc (.int 2147483399))))
    (sret (t2 mod3 (tcb bInt (acons (t2 fdiv3 (tv 2) (tc (.int 16))) anil)) (tv 1)))))))))
set_option maxHeartbeats 4000000 in
theorem vc__law_take (ds : List D) (G : Gp) (Q : QK) (E : EK) (h : sp__law_take ds G Q E) : t__law_take (fnEnds Q E) (start3 N__law_take ds) G := by
  unfold sp__law_take at h
  split at h
  case h_2 => exact h.elim
  rename_i h m
  obtain ⟨cs, i, c, s, t, hG, ok, m1, m2, hq⟩ := h
  refine ⟨_, rfl, _, _, sq_ref hG, rfl, _, rfl, _, _, hG, rfl, ?_⟩
  generalize hG1 : up G h _ = G1
  have h1 : G1 h = some (hnd cs i c s (t + 1)) := by rw [← hG1]; exact up_same
  have hq : ∀ r i' c' s' t', 0 ≤ r → r < m → HOk cs i' c' → Q (.int r) (up G1 h (hnd cs i' c' s' t')) := fun r i' c' s' t' a b d => by rw [← hG1, up_up]; exact hq r i' c' s' t' a b d
  clear hG1 hG
  dsimp only
  refine sseq_cut (fun σ G' => ∃ y i c s t, G' = up G1 h (hnd cs i c s t) ∧ HOk cs i c ∧ σ = [some (.ref h), some (.int m), none, y, none]) (fun N hN => ?_) ?_
  · have hN0 : N [some (.ref h), some (.int m), none, none, none] G1 := hN _ _ ⟨none, i, c, s, t + 1, (up_self h1).symm, ok, rfl⟩
    refine ⟨_, rfl, _, _, sq_ref h1, rfl, rfl, _, rfl, ite_b (fun _ => ?_) (fun _ => hN0)⟩
    refine ⟨_, rfl, _, _, sq_ref h1, rfl, _, rfl, _, _, sq_ref h1, rfl, _, rfl, _, rfl, ite_b (fun h2 => ?_) (fun _ => hN0)⟩
    have h2 : i < cs.length := by simpa using h2
    obtain ⟨v, ev, mv⟩ := at_ok ok.i0 h2
    obtain ⟨n, e1⟩ := ok.nums v mv
    subst e1
    refine ⟨_, rfl, _, _, sq_ref h1, rfl, _, rfl, _, _, sq_ref h1, rfl, _, _, rfl, ev, ?_⟩
    refine ⟨_, rfl, _, _, sq_ref h1, rfl, _, rfl, _, _, h1, rfl, ?_⟩
    refine ⟨_, rfl, ⟨by decide, by decide, by decide⟩, _, rfl, ite_b (fun h3 => ?_) (fun _ => ?_)⟩
    · have e2 : 0 ≤ n := by
        have h3 : (10 : Int) ^ (18 : Int).toNat ≤ n := of_decide_eq_true h3
        have h4 : (0 : Int) ≤ 10 ^ (18 : Int).toNat := by decide
        omega
      refine ⟨_, rfl, _, rfl, _, _, up_same, rfl, ?_⟩
      refine hN _ _ ⟨some (.int n), i + 1, n, s, t + 1, ?_, ⟨ok.nums, by have := ok.i0; omega, e2⟩, rfl⟩
      rw [up_up]; rfl
    · refine ⟨_, rfl, _, _, sq_ref up_same, rfl, .inr (.inl ⟨by decide, by decide⟩), _, rfl, by decide, by decide, _, rfl, _, _, up_same, rfl, ?_⟩
      refine hN _ _ ⟨some (.int n), i + 1, c, (s * 48271 + n % 2147483647 + 1) % 2147483647, t + 1, ?_, ⟨ok.nums, by have := ok.i0; omega, ok.c0⟩, rfl⟩
      rw [up_up]; rfl
  · rintro σ G' ⟨y, i, c, s, t, rfl, ok, rfl⟩
    refine sseq_cut (fun σ G' => G' = up G1 h (hnd cs i c s t) ∧ σ = [some (.ref h), some (.int m), none, y, none]) (fun N hN => ?_) ?_
    · refine ⟨_, rfl, _, _, sq_ref up_same, rfl, _, rfl, ite_b (fun h1 => ?_) (fun _ => hN _ _ ⟨rfl, rfl⟩)⟩
      refine ⟨_, rfl, _, _, sq_ref up_same, rfl, _, rfl, by omega, ?_⟩
      refine ⟨_, rfl, _, _, sq_ref up_same, rfl, _, rfl, by omega, by omega, _, rfl, _, _, up_same, rfl, _, rfl, dn_refl ?_⟩
      rw [up_up]
      exact hq _ _ _ _ _ (Int.emod_nonneg _ (by omega)) (Int.emod_lt_of_pos _ (by omega)) ⟨ok.nums, ok.i0, Int.ediv_nonneg ok.c0 (by omega)⟩
    · rintro σ G' ⟨rfl, rfl⟩
      refine ⟨_, rfl, _, _, sq_ref up_same, rfl, .inr (.inl ⟨by decide, by decide⟩), _, rfl, _, _, sq_ref up_same, rfl, .inl ⟨by decide, by decide⟩, by decide, _, rfl, _, _, up_same, rfl, ?_⟩
      generalize s * 69621 + 7919 * t = z0
      have a1 := Int.emod_nonneg z0 (b := 2147483647) (by decide)
      have a2 := Int.emod_lt_of_pos z0 (b := 2147483647) (by decide)
      refine ⟨_, rfl, _, _, sq_ref up_same, rfl, _, rfl, _, _, sq_ref up_same, rfl, by decide, by decide, .inl ⟨by omega, by omega⟩, by decide, ?_⟩
      generalize z0 % 2147483647 * (z0 % 2147483647 / 1009 + 69621) = z1
      have b1 := Int.emod_nonneg z1 (b := 2147483647) (by decide)
      have b2 := Int.emod_lt_of_pos z1 (b := 2147483647) (by decide)
      refine ⟨_, rfl, _, rfl, by decide, by decide, .inl ⟨by omega, by omega⟩, by decide, ?_⟩
      refine ⟨_, rfl, by decide, by decide, _, rfl, by omega, dn_refl ?_⟩
      rw [up_up]
      exact hq _ _ _ _ _ (Int.emod_nonneg _ (by omega)) (Int.emod_lt_of_pos _ (by omega)) ok
/-! #### _law_pick -/

def sp__law_pick : Sp3 := fun ds G Q E => match ds with
  | [.ref h, L] => ∃ cs i c s t xs, G h = some (hnd cs i c s t) ∧ HOk cs i c ∧ sq G L = some xs ∧ L ≠ .ref h ∧ 1 ≤ xs.length ∧ xs.length < 1000000 ∧ ∀ x i' c' s' t', x ∈ xs → HOk cs i' c' → Q x (up G h (hnd cs i' c' s' t'))
  | _ => False
def t__law_pick : TS3 :=
    (sret (t2 ix3 (tv 1) (tcall sp__law_take (acons (tv 0) (acons (tcb bLen (acons (tv 1) anil)) anil)))))
set_option maxHeartbeats 4000000 in
theorem vc__law_pick (ds : List D) (G : Gp) (Q : QK) (E : EK) (h : sp__law_pick ds G Q E) : t__law_pick (fnEnds Q E) (start3 N__law_pick ds) G := by
  unfold sp__law_pick at h
  split at h
  case h_2 => exact h.elim
  rename_i h L
  obtain ⟨cs, i, c, s, t, xs, hG, ok, hL, nL, l1, l2, hq⟩ := h
  have len : ∀ (R : QK), R (.int xs.length) G → bLen [L] G R := fun R z => by
    unfold bLen
    split
    · rename_i e; injection e with e1 e2; subst e1; cases hL
    · rename_i e; injection e with e1 e2; subst e1; exact ⟨xs, hL, z⟩
    · rename_i n1 n2; exact absurd rfl (n2 L)
  refine ⟨_, rfl, _, rfl, _, rfl, ?_⟩
  dsimp only [acons, anil, tcb, tv]
  refine len _ ?_
  refine ⟨cs, i, c, s, t, hG, ok, by omega, by omega, fun r i' c' s' t' r0 r1 ok' => ?_⟩
  obtain ⟨x, e, mx⟩ := at_ok r0 r1
  have hL' : sq (up G h (hnd cs i' c' s' t')) L = some xs := by
    cases L with
    | ref p =>
      have ne : p ≠ h := fun z => nL (by rw [z])
      unfold sq at hL ⊢
      simp only at hL ⊢
      rw [up_ne ne]; exact hL
    | _ => exact hL
  have fin := dn_refl (hq x i' c' s' t' mx ok')
  show ix3 L (.int r) _ _
  unfold ix3
  split
  · cases hL
  · rename_i e1 e2; cases e2; exact ⟨xs, x, hL', e, fin⟩
  · rename_i n1 n2; first | exact absurd rfl (n1 _) | exact absurd rfl (n2 _)
/-! #### _law_parents -/

def sp__law_parents : Sp3 := fun ds G Q E => match ds with | [.ref h, .int n] => ∃ cs i c s t, ∃ m : Nat, G h = some (hnd cs i c s t) ∧ HOk cs i c ∧ n = m ∧ 1 ≤ m ∧ m ≤ 64 ∧ ∀ (ps : List (Option Nat)) i' c' s' t', ps.length = m → ParR ps → HOk cs i' c' → Q (.fl (ps.map pl)) (up G h (hnd cs i' c' s' t')) | _ => False
def t__law_parents : TS3 :=
    (sseq (sset 2 (tlrg true (tv 1)))
    (sseq (sfor (irng1 (acons (tv 1) anil)) (.n 3) (sseq (sset 6 (t2 (add3 false) (tv 3) (tcall sp__law_take (acons (tv 0) (acons (t2 sub3 (tv 1) (tv 3)) anil)))))
    (sswp (tv 2) (tv 3) (tv 2) (tv 6) (ttup (acons (t2 ix3 (tv 2) (tv 6)) (acons (t2 ix3 (tv 2) (tv 3)) anil))) setL3 setL3)))
    (sseq (sset 4 (t2 (mul3 true) (tlst false (acons (tc .non) anil)) (tv 1)))
    (sseq (sset 5 (tcall sp__law_take (acons (tv 0) (acons (tc (.int 5)) anil))))
    (sseq (sfor (irng2 (acons (tc (.int 1)) (acons (tv 1) anil))) (.n 3) (sseq (sif (tb3 (t2 eq3 (tv 5) (tc (.int 0)))) (ssub (tv 4) (t2 ix3 (tv 2) (tv 3)) (t2 ix3 (tv 2) (t2 sub3 (tv 3) (tc (.int 1)))) setL3) (sif (tb3 (t2 eq3 (tv 5) (tc (.int 1)))) (ssub (tv 4) (t2 ix3 (tv 2) (tv 3)) (t2 ix3 (tv 2) (tcb bMax2 (acons (tc (.int 0)) (acons (t2 sub3 (t2 sub3 (tv 3) (tc (.int 1))) (tcall sp__law_take (acons (tv 0) (acons (tc (.int 3)) anil)))) anil)))) setL3) (sif (Tor (tb3 (t2 gt3 (tv 5) (tc (.int 2)))) (tb3 (t2 gt3 (tcall sp__law_take (acons (tv 0) (acons (tc (.int 3)) anil))) (tc (.int 0))))) (ssub (tv 4) (t2 ix3 (tv 2) (tv 3)) (t2 ix3 (tv 2) (tcall sp__law_take (acons (tv 0) (acons (tv 3) anil)))) setL3) snext)))
    (sif (Tand (tb3 (t2 eq3 (tv 5) (tc (.int 4)))) (tb3 (t2 eq3 (tcall sp__law_take (acons (tv 0) (acons (tc (.int 4)) anil))) (tc (.int 0))))) (ssub (tv 4) (t2 ix3 (tv 2) (tv 3)) (tc .non) setL3) snext)))
    (sret (tfz (tv 4))))))))
set_option maxHeartbeats 4000000 in
theorem vc__law_parents (ds : List D) (G : Gp) (Q : QK) (E : EK) (h : sp__law_parents ds G Q E) : t__law_parents (fnEnds Q E) (start3 N__law_parents ds) G := by
  unfold sp__law_parents at h
  split at h
  case h_2 => exact h.elim
  rename_i h n
  obtain ⟨cs, i, c, s, t, m, hG, ok, rfl, m1, m2, hq⟩ := h
  refine ⟨_, rfl, _, rfl, .of_le (by omega) (by omega) (by omega) (by omega), fun p np => ?_⟩
  have ph : p ≠ h := ne_new hG np
  have hp : h ≠ p := Ne.symm ph
  dsimp only
  refine sseq_cut (fun σ G' => ∃ (o : List Nat) (i c s t : Int) (y3 y6 : Option D), o.Perm (List.range m) ∧ HOk cs i c ∧ G' = up (up G h (hnd cs i c s t)) p (.lst (o.map fun (j : Nat) => D.int j)) ∧ σ = [some (.ref h), some (.int m), some (.ref p), y3, none, none, y6]) (fun N hN => ?_) ?_
  · refine ⟨_, rfl, _, rfl, by omega, by omega, forL_inv (fun k σ G' => ∃ (o : List Nat) (i c s t : Int) (y3 y4 : Option D), o.Perm (List.range m) ∧ HOk cs i c ∧ G' = up (up G h (hnd cs i c s t)) p (.lst (o.map fun (j : Nat) => D.int j)) ∧ σ = [some (.ref h), some (.int m), some (.ref p), y3, none, none, y4]) ?_ ?_ ⟨List.range m, i, c, s, t, none, none, .refl _, ok, ?_, rfl⟩⟩
    · rintro k x σ G' N ex ⟨o, i, c, s, t, y3, y4, pm, ok, rfl, rfl⟩ hN
      obtain ⟨hk, ex⟩ := List.getElem?_eq_some_iff.mp ex
      have hk : k < m := by simpa using hk
      have ex : x = .int k := by simpa using ex.symm
      subst ex
      have ol : o.length = m := by simpa using pm.length_eq
      refine ⟨trivial, _, rfl, _, rfl, _, rfl, _, rfl, _, _, _, _, _, (by rw [up_ne hp, up_same]), ok, by omega, by omega, fun r i c s t r0 r1 ok => ?_⟩
      rw [up_comm hp, up_up]
      obtain ⟨j, ej, hj, jk⟩ : ∃ j : Nat, (k : Int) + r = j ∧ j < m ∧ k ≤ j := ⟨(k + r).toNat, by omega, by omega, by omega⟩
      dsimp only [add3]
      rw [ej]
      have g1 : ∀ (q : Nat) (hq : q < m), atI (o.map fun (j : Nat) => D.int j) (q : Int) = some (.int (o[q]'(by omega))) := fun q hq => at_get (by omega) (by simp [ol, hq])
      have ix : ∀ (q : Nat) (l : List D), l.length = m → q < m → ixN l.length (q : Int) = some q := fun q l e hq => ixn_ok q (by omega)
      refine ⟨_, rfl, _, rfl, _, _, sq_ref up_same, g1 j hj, _, rfl, _, rfl, _, _, sq_ref up_same, g1 k hk, Nat.le_of_ble_eq_true rfl, _, _, rfl, ?_⟩
      refine ⟨_, rfl, _, rfl, _, _, up_same, ix k _ (by simp [ol]) hk, _, rfl, _, rfl, _, _, up_same, ix j _ (by simp [ol]) hj, ?_⟩
      rw [up_up, up_up]
      refine hN _ _ ⟨(o.set k (o[j]'(by omega))).set j (o[k]'(by omega)), i, c, s, t, _, _, (List.set_set_perm (by omega) (by omega)).trans pm, ok, ?_, rfl⟩
      rw [List.map_set, List.map_set]
    · rintro σ G' ⟨o, i, c, s, t, y3, y4, pm, ok, rfl, rfl⟩
      exact ⟨trivial, hN _ _ ⟨o, i, c, s, t, _, _, pm, ok, rfl, rfl⟩⟩
    · rw [up_self hG]; rfl
  rintro σ G' ⟨ol, i, c, s, t, y3, y6, pm, ok, rfl, rfl⟩
  have O := ord_of pm
  have oll : ol.length = m := by simpa using pm.length_eq
  have oget : ∀ q, q < m → atI (ol.map fun (j : Nat) => D.int j) (q : Int) = some (.int ((ol.getD q 0 : Nat) : Int)) := fun q hq => at_get (by omega) (by simp [List.getD, oll, hq])
  generalize ho : (fun i => ol.getD i 0) = o at O
  have oget : ∀ q, q < m → atI (ol.map fun (j : Nat) => D.int j) (q : Int) = some (.int ((o q : Nat) : Int)) := fun q hq => by rw [← ho]; exact oget q hq
  refine ⟨Nat.le_of_ble_eq_true rfl, _, rfl, _, rfl, ⟨by omega, by omega, by rw [List.length_singleton]; show 1 * _ ≤ 16777216; omega⟩, fun q nq => ?_⟩
  have qp : q ≠ p := fun z => by rw [z, up_same] at nq; cases nq
  have pq : p ≠ q := Ne.symm qp
  rw [up_ne qp] at nq
  have qh : q ≠ h := ne_new up_same nq
  have hqn : h ≠ q := Ne.symm qh
  have nq0 : G q = none := by rw [up_ne qh] at nq; exact nq
  have hh : ∀ (u a b : GO), (up (up (up G h u) p a) q b) h = some u := fun u a b => by rw [up_ne hqn, up_ne hp, up_same]
  have hpp : ∀ (u a b : GO), (up (up (up G h u) p a) q b) p = some a := fun u a b => by rw [up_ne pq, up_same]
  have mv : ∀ (u v a b : GO), up (up (up (up G h u) p a) q b) h v = up (up (up G h v) p a) q b := fun u v a b => by rw [up_comm hqn, up_comm hp, up_up]
  have e0 : (List.replicate (m : Int).toNat [D.non]).flatten = (List.replicate m (none : Option Nat)).map pl := by
    rw [Int.toNat_natCast, List.map_replicate]
    exact rep_non m
  rw [e0]
  refine ⟨_, rfl, _, _, _, _, _, hh _ _ _, ok, by decide, by decide, fun sp i c s t sp0 sp1 ok => ?_⟩
  rw [mv]
  have g0 : PGrow m o 1 (List.replicate m none) := by
    have g : ∀ i, i < m → (List.replicate m (none : Option Nat))[o i]? = some none := fun i hi => by simp [O.lt i hi]
    exact ⟨by simp, fun i _ b => g i b, fun i _ b => .inl (g i b)⟩
  refine ⟨_, rfl, _, _, rfl, ⟨by omega, by omega, by omega, by omega⟩, forL_inv (fun k σ G' => ∃ (ps : List (Option Nat)) (i c s t : Int) (y3 y6 : Option D), HOk cs i c ∧ PGrow m o (k + 1) ps ∧ G' = up (up (up G h (hnd cs i c s t)) p (.lst (ol.map fun (j : Nat) => D.int j))) q (.lst (ps.map pl)) ∧ σ = [some (.ref h), some (.int m), some (.ref p), y3, some (.ref q), some (.int sp), y6]) ?_ ?_ ⟨_, i, c, s, t, _, _, ok, g0, rfl, rfl⟩⟩
  · rintro k x σ G' N ex ⟨ps, i, c, s, t, y3, y6, ok, g, rfl, rfl⟩ hN
    obtain ⟨hk, ex⟩ := List.getElem?_eq_some_iff.mp ex
    have hk : k + 1 < m := by
      have : k < ((m : Int) - 1).toNat := by simpa using hk
      omega
    have ex : x = .int (1 + (k : Int)) := by simpa using ex.symm
    have e1 : (1 + (k : Int)) = ((k + 1 : Nat) : Int) := by omega
    rw [e1] at ex
    subst ex
    have pll : (ps.map pl).length = m := by rw [List.length_map, g.len]
    have ixq : ixN (ps.map pl).length ((o (k + 1) : Nat) : Int) = some (o (k + 1)) := ixn_ok _ (by rw [pll]; exact O.lt _ hk)
    have psl : ∀ (v : Option Nat), (ps.map pl).set (o (k + 1)) (pl v) = (ps.set (o (k + 1)) v).map pl := fun v => List.map_set.symm
    refine ⟨trivial, ?_⟩
    dsimp only [Tg.b]
    refine sseq_cut (fun σ G' => ∃ (ps : List (Option Nat)) (i c s t : Int) (y6 : Option D), HOk cs i c ∧ PGrow m o (k + 1 + 1) ps ∧ G' = up (up (up G h (hnd cs i c s t)) p (.lst (ol.map fun (j : Nat) => D.int j))) q (.lst (ps.map pl)) ∧ σ = [some (.ref h), some (.int m), some (.ref p), some (.int ((k + 1 : Nat) : Int)), some (.ref q), some (.int sp), y6]) (fun N hN => ?_) ?_
    · have put : ∀ (i c s t : Int) (j : Nat), HOk cs i c → j < k + 1 → N [some (.ref h), some (.int m), some (.ref p), some (.int ((k + 1 : Nat) : Int)), some (.ref q), some (.int sp), y6] (up (up (up (up G h (hnd cs i c s t)) p (.lst (ol.map fun (j : Nat) => D.int j))) q (.lst (ps.map pl))) q (.lst ((ps.map pl).set (o (k + 1)) (.int (o j : Nat))))) := fun i c s t j ok hj => by
        rw [up_up]
        exact hN _ _ ⟨ps.set (o (k + 1)) (some (o j)), i, c, s, t, _, ok, g.set O hk hj, by rw [← psl]; rfl, rfl⟩
      refine ⟨_, rfl, rfl, _, rfl, ite_b (fun _ => ?_) (fun _ => ?_)⟩
      · have ek : ((k + 1 : Nat) : Int) - 1 = (k : Nat) := by omega
        refine ⟨_, rfl, _, rfl, ?_⟩
        dsimp only [sub3, tc]
        rw [ek]
        exact ⟨_, _, sq_ref (hpp _ _ _), oget k (by omega), _, rfl, _, rfl, _, rfl, _, _, sq_ref (hpp _ _ _), oget (k + 1) hk, _, _, up_same, ixq, put _ _ _ _ k ok (by omega)⟩
      · refine ⟨_, rfl, rfl, _, rfl, ite_b (fun _ => ?_) (fun _ => ?_)⟩
        · refine ⟨_, rfl, _, rfl, _, rfl, _, _, _, _, _, hh _ _ _, ok, by decide, by decide, fun r i c s t r0 r1 ok => ?_⟩
          rw [mv]
          obtain ⟨j, ej, hj⟩ : ∃ j : Nat, (if ((k + 1 : Nat) : Int) - 1 - r > 0 then ((k + 1 : Nat) : Int) - 1 - r else 0) = j ∧ j < k + 1 := by
            split
            · exact ⟨(((k + 1 : Nat) : Int) - 1 - r).toNat, by omega, by omega⟩
            · exact ⟨0, rfl, by omega⟩
          dsimp only [sub3, anil, bMax2]
          rw [ej]
          exact ⟨_, _, sq_ref (hpp _ _ _), oget j (by omega), _, rfl, _, rfl, _, rfl, _, _, sq_ref (hpp _ _ _), oget (k + 1) hk, _, _, up_same, ixq, put _ _ _ _ j ok hj⟩
        · have third : ∀ (i c s t : Int), HOk cs i c → (ssub (tv 4) (t2 ix3 (tv 2) (tv 3)) (t2 ix3 (tv 2) (tcall sp__law_take (acons (tv 0) (acons (tv 3) anil)))) setL3) { nx := N, rt := dn Q, bk := fun _ _ => False, ct := fun _ _ => False, ex := fun _ _ _ => False } [some (.ref h), some (.int m), some (.ref p), some (.int ((k + 1 : Nat) : Int)), some (.ref q), some (.int sp), y6] (up (up (up G h (hnd cs i c s t)) p (.lst (ol.map fun (j : Nat) => D.int j))) q (.lst (ps.map pl))) := fun i c s t ok => by
            refine ⟨_, rfl, _, rfl, _, rfl, _, _, _, _, _, hh _ _ _, ok, by omega, by omega, fun r i c s t r0 r1 ok => ?_⟩
            rw [mv]
            obtain ⟨j, rfl, hj⟩ : ∃ j : Nat, r = j ∧ j < k + 1 := ⟨r.toNat, by omega, by omega⟩
            exact ⟨_, _, sq_ref (hpp _ _ _), oget j (by omega), _, rfl, _, rfl, _, rfl, _, _, sq_ref (hpp _ _ _), oget (k + 1) hk, _, _, up_same, ixq, put _ _ _ _ j ok hj⟩
          refine ⟨_, rfl, _, rfl, ite_b (fun _ => ?_) (fun _ => ?_)⟩
          · exact third _ _ _ _ ok
          · refine ⟨_, rfl, _, _, _, _, _, hh _ _ _, ok, by decide, by decide, fun r i c s t r0 r1 ok => ?_⟩
            rw [mv]
            refine ⟨_, rfl, ite_b (fun _ => third _ _ _ _ ok) (fun _ => hN _ _ ⟨ps, i, c, s, t, _, ok, g.next, rfl, rfl⟩)⟩
    · rintro σ G' ⟨ps, i, c, s, t, y6, ok, g, rfl, rfl⟩
      refine ⟨_, rfl, rfl, _, rfl, ite_b (fun _ => ?_) (fun _ => hN _ _ ⟨ps, i, c, s, t, _, _, ok, g, rfl, rfl⟩)⟩
      refine ⟨_, rfl, _, _, _, _, _, hh _ _ _, ok, by decide, by decide, fun r i c s t r0 r1 ok => ?_⟩
      rw [mv]
      refine ⟨rfl, _, rfl, ite_b (fun _ => ?_) (fun _ => hN _ _ ⟨ps, i, c, s, t, _, _, ok, g, rfl, rfl⟩)⟩
      have ixq : ixN (ps.map pl).length ((o (k + 1) : Nat) : Int) = some (o (k + 1)) := ixn_ok _ (by rw [List.length_map, g.len]; exact O.lt _ hk)
      refine ⟨_, rfl, _, rfl, _, rfl, _, _, sq_ref (hpp _ _ _), oget (k + 1) hk, _, _, up_same, ixq, ?_⟩
      rw [up_up]
      exact hN _ _ ⟨ps.set (o (k + 1)) none, i, c, s, t, _, _, ok, g.clear O hk, by rw [List.map_set]; rfl, rfl⟩
  · rintro σ G' ⟨ps, i, c, s, t, y3, y6, ok, g, rfl, rfl⟩
    have gl : ((List.range ((m : Int) - 1).toNat).map fun (j : Nat) => D.int (1 + (j : Int))).length + 1 = m := by
      rw [List.length_map, List.length_range]; omega
    rw [gl] at g
    refine ⟨trivial, _, rfl, fz_lst up_same ?_⟩
    rw [dl_up (by rw [up_ne qp, up_ne qh]; exact nq0)]
    refine ⟨up G h (hnd cs i c s t), Sub.up (by rw [up_ne ph]; exact np), hq ps _ _ _ _ g.len (g.par (k := 0) O m1 m2) ok⟩
/-! #### _law_value -/

def sp__law_value : Sp3 := fun ds G Q E => match ds with | [.ref h] => ∃ cs i c s t, G h = some (hnd cs i c s t) ∧ HOk cs i c ∧ ∀ v i' c' s' t', HOk cs i' c' → Q (.int v) (up G h (hnd cs i' c' s' t')) | _ => False
def t__law_value : TS3 :=
    (sret (tcall sp__law_pick (acons (tv 0) (acons (tlst false (acons (tc (.int 0)) (acons (tc (.int 1)) (acons (tneg (tc (.int 1))) (acons (tc (.int 5)) (acons (tc (.int 5)) (acons (t2 pow3 (tc (.int 10)) (tc (.int 19))) (acons (t2 sub3 (tcall sp__law_take (acons (tv 0) (acons (tc (.int 20)) anil))) (tc (.int 10))) (acons (t2 sub3 (tcall sp__law_take (acons (tv 0) (acons (tc (.int 20)) anil))) (tc (.int 10))) (acons (tcall sp__law_take (acons (tv 0) (acons (t2 pow3 (tc (.int 10)) (tc (.int 6))) anil))) anil)))))))))) anil))))
set_option maxHeartbeats 4000000 in
theorem vc__law_value (ds : List D) (G : Gp) (Q : QK) (E : EK) (h : sp__law_value ds G Q E) : t__law_value (fnEnds Q E) (start3 N__law_value ds) G := by
  unfold sp__law_value at h
  split at h
  case h_2 => exact h.elim
  rename_i h
  obtain ⟨cs, i, c, s, t, hG, ok, hq⟩ := h
  refine ⟨_, rfl, _, rfl, ⟨by decide, by decide, by decide⟩, ?_⟩
  refine ⟨_, rfl, _, _, _, _, _, hG, ok, by decide, by decide, fun r1 i c s t _ _ ok => ?_⟩
  refine ⟨_, rfl, _, _, _, _, _, up_same, ok, by decide, by decide, fun r2 i c s t _ _ ok => ?_⟩
  rw [up_up]
  refine ⟨_, rfl, ⟨by decide, by decide, by decide⟩, _, _, _, _, _, up_same, ok, by decide, by decide, fun r3 i c s t _ _ ok => ?_⟩
  rw [up_up]
  refine ⟨Nat.le_of_ble_eq_true rfl, _, _, _, _, _, _, up_same, ok, rfl, (by intro z; cases z), Nat.le_of_ble_eq_true rfl, Nat.le_of_ble_eq_true rfl, fun x i c s t mx ok => ?_⟩
  rw [up_up]
  obtain ⟨v, rfl⟩ : ∃ v, x = .int v := by
    simp only [List.mem_cons, List.not_mem_nil, or_false] at mx
    rcases mx with rfl | rfl | rfl | rfl | rfl | rfl | rfl | rfl | rfl <;> exact ⟨_, rfl⟩
  exact dn_refl (hq _ _ _ _ _ ok)
/-! #### _law_plain -/

def sp__law_plain : Sp3 := fun ds G Q E => match ds with | [.ref h, .fl xs] => ∃ cs i c s t, G h = some (hnd cs i c s t) ∧ HOk cs i c ∧ 1 ≤ xs.length ∧ xs.length < 1000000 ∧ (∀ x ∈ xs, ∃ m : Nat, x = .int m ∧ 1 ≤ m ∧ m ≤ 64) ∧ ∀ (ps : List (Option Nat)) (ws : List Int) i' c' s' t', ParR ps → ws.length = ps.length → HOk cs i' c' → Q (.fl [.fl (ps.map pl), .fl (ws.map D.int)]) (up G h (hnd cs i' c' s' t')) | _ => False
def t__law_plain : TS3 :=
    (sseq (sset 2 (tcall sp__law_pick (acons (tv 0) (acons (tv 1) anil))))
    (sret (tlst false (acons (tcall sp__law_parents (acons (tv 0) (acons (tv 2) anil))) (acons (tlc false (irng1 (acons (tv 2) anil)) (.n 3) Tyes (tcall sp__law_value (acons (tv 0) anil)) [3]) anil)))))
set_option maxHeartbeats 4000000 in
theorem vc__law_plain (ds : List D) (G : Gp) (Q : QK) (E : EK) (h : sp__law_plain ds G Q E) : t__law_plain (fnEnds Q E) (start3 N__law_plain ds) G := by
  unfold sp__law_plain at h
  split at h
  case h_2 => exact h.elim
  rename_i h xs
  obtain ⟨cs, i, c, s, t, hG, ok, l1, l2, hx, hq⟩ := h
  refine ⟨_, rfl, _, rfl, _, _, _, _, _, _, hG, ok, rfl, (by intro z; cases z), l1, l2, fun x i c s t mx ok => ?_⟩
  obtain ⟨m, rfl, m1, m2⟩ := hx x mx
  refine ⟨_, rfl, _, rfl, _, _, _, _, _, m, up_same, ok, rfl, m1, m2, fun ps i c s t pl' pr ok => ?_⟩
  rw [up_up]
  refine ⟨_, rfl, _, rfl, by omega, by omega, lc_inv (fun k acc G' => ∃ (ws : List Int) (i c s t : Int), ws.length = k ∧ acc = ws.map D.int ∧ G' = up G h (hnd cs i c s t) ∧ HOk cs i c) (by rw [List.length_map, List.length_range]; show _ ≤ 16777216; omega) ?_ ?_ ⟨[], i, c, s, t, rfl, rfl, rfl, ok⟩⟩
  · rintro k x acc G' p N N' ex np ⟨ws, i, c, s, t, rfl, rfl, rfl, ok⟩ hN _
    have ph : p ≠ h := ne_new up_same np
    refine ⟨trivial, _, rfl, _, _, _, _, _, (by rw [up_ne (Ne.symm ph), up_same]), ok, fun v i c s t ok => ?_⟩
    rw [up_comm (Ne.symm ph), up_up]
    exact hN _ _ (by rw [up_ne ph]; rw [up_ne ph] at np; exact np) ⟨ws ++ [v], i, c, s, t, by simp, by simp, rfl, ok⟩
  · rintro acc G' p np ⟨ws, i, c, s, t, hl, rfl, rfl, ok⟩
    rw [List.length_map, List.length_range, Int.toNat_natCast] at hl
    exact ⟨trivial, Nat.le_of_ble_eq_true rfl, dn_refl (hq ps ws _ _ _ _ pr (by omega) ok)⟩
/-! #### _law_same -/

def sp__law_same : Nat → Sp3 := fun n ds G Q E => match n, ds with | n + 1, [x, y] => x = y ∧ pln (n + 1) x = true ∧ Q (.bl true) G | _, _ => False
def t__law_same (sp : Sp3) : TS3 :=
    (sseq (sif (tb3 (t2 (is3 false) (tv 1) (tc .non))) (sret (t2 (is3 false) (tv 0) (tc .non))) snext)
    (sseq (sif (tb3 (t2 (is3 false) (tv 1) (tc (.bl true)))) (sret (t2 (is3 false) (tv 0) (tc (.bl true)))) snext)
    (sseq (sif (tb3 (t2 (is3 false) (tv 1) (tc (.bl false)))) (sret (t2 (is3 false) (tv 0) (tc (.bl false)))) snext)
    (sseq (sif (tb3 (tisi (isT OC .int) (tv 1))) (sret (tand (tcall sp__law_is_integer (acons (tv 0) anil)) (t2 eq3 (tv 0) (tv 1)))) snext)
    (sseq (sif (tb3 (tisi (isT OC .str) (tv 1))) (sret (tand (tisi (isT OC .str) (tv 0)) (t2 eq3 (tv 0) (tv 1)))) snext)
    (sseq (sif (Tor (tb3 (t2 ne3 (tisi (isT OC .tup) (tv 1)) (tisi (isT OC .tup) (tv 0)))) (tb3 (t2 ne3 (tisi (isT OC .lst) (tv 1)) (tisi (isT OC .lst) (tv 0))))) (sret (tc (.bl false))) snext)
    (sseq (sif (tb3 (t2 ne3 (tcb bLen (acons (tv 0) anil)) (tcb bLen (acons (tv 1) anil)))) (sret (tc (.bl false))) snext)
    (sseq (sfor (izip (acons (tv 0) (acons (tv 1) anil))) (.t [2, 3]) (sif (Tnot (tb3 (tcall sp (acons (tv 2) (acons (tv 3) anil))))) (sret (tc (.bl false))) snext))
    (sret (tc (.bl true)))))))))))
set_option maxHeartbeats 4000000 in
theorem vc__law_same (n : Nat) (ds : List D) (G : Gp) (Q : QK) (E : EK) (h : sp__law_same (n + 1) ds G Q E) : t__law_same (sp__law_same n) (fnEnds Q E) (start3 N__law_same ds) G := by
  unfold sp__law_same at h
  split at h
  case h_2 => exact h.elim
  rename_i n' x y e
  cases e
  obtain ⟨rfl, hp, hq⟩ := h
  cases x with
  | non => exact ⟨_, rfl, _, rfl, ite_b (fun _ => ⟨_, rfl, dn_refl hq⟩) (fun z => by cases z)⟩
  | bl b =>
    refine ⟨_, rfl, _, rfl, ite_b (fun z => by cases z) (fun _ => ?_)⟩
    cases b with
    | true => exact ⟨_, rfl, _, rfl, ite_b (fun _ => ⟨_, rfl, dn_refl hq⟩) (fun z => by cases z)⟩
    | false => exact ⟨_, rfl, _, rfl, ite_b (fun z => by cases z) (fun _ => ⟨_, rfl, _, rfl, ite_b (fun _ => ⟨_, rfl, dn_refl hq⟩) (fun z => by cases z)⟩)⟩
  | int i =>
    refine ⟨_, rfl, _, rfl, ite_b (fun z => by cases z) (fun _ => ?_)⟩
    refine ⟨_, rfl, _, rfl, ite_b (fun z => by cases z) (fun _ => ?_)⟩
    refine ⟨_, rfl, _, rfl, ite_b (fun z => by cases z) (fun _ => ?_)⟩
    refine ⟨_, rfl, _, _, rfl, rfl, _, rfl, ite_b (fun _ => ?_) (fun z => by cases z)⟩
    refine ⟨_, rfl, rfl, _, rfl, ite_b (fun _ => ?_) (fun z => by cases z)⟩
    refine ⟨_, rfl, _, rfl, rfl, dn_refl ?_⟩
    simpa [eqD] using hq
  | str z =>
    refine ⟨_, rfl, _, rfl, ite_b (fun z => by cases z) (fun _ => ?_)⟩
    refine ⟨_, rfl, _, rfl, ite_b (fun z => by cases z) (fun _ => ?_)⟩
    refine ⟨_, rfl, _, rfl, ite_b (fun z => by cases z) (fun _ => ?_)⟩
    refine ⟨_, rfl, _, _, rfl, rfl, _, rfl, ite_b (fun z => absurd z (by decide)) (fun _ => ?_)⟩
    refine ⟨_, rfl, _, _, rfl, rfl, _, rfl, ite_b (fun _ => ?_) (fun z => by cases z)⟩
    refine ⟨_, rfl, _, _, rfl, rfl, _, rfl, ite_b (fun _ => ?_) (fun z => by cases z)⟩
    refine ⟨_, rfl, _, rfl, rfl, dn_refl ?_⟩
    simpa [eqD] using hq
  | tup xs =>
    refine ⟨_, rfl, _, rfl, ite_b (fun z => by cases z) (fun _ => ?_)⟩
    refine ⟨_, rfl, _, rfl, ite_b (fun z => by cases z) (fun _ => ?_)⟩
    refine ⟨_, rfl, _, rfl, ite_b (fun z => by cases z) (fun _ => ?_)⟩
    refine ⟨_, rfl, _, _, rfl, rfl, _, rfl, ite_b (fun z => absurd z (by decide)) (fun _ => ?_)⟩
    refine ⟨_, rfl, _, _, rfl, rfl, _, rfl, ite_b (fun z => absurd z (by decide)) (fun _ => ?_)⟩
    refine ⟨_, rfl, _, _, rfl, rfl, _, rfl, _, _, rfl, rfl, rfl, _, rfl, ite_b (fun z => absurd z (by decide)) (fun _ => ?_)⟩
    refine ⟨_, rfl, _, _, rfl, rfl, _, rfl, _, _, rfl, rfl, rfl, _, rfl, ite_b (fun z => absurd z (by decide)) (fun _ => ?_)⟩
    refine ⟨_, rfl, xs, rfl, _, rfl, xs, rfl, rfl, _, rfl, ite_b (fun z => by simp [eqD] at z) (fun _ => ?_)⟩
    have hp : ∀ x ∈ xs, pln n x = true := List.all_eq_true.mp hp
    refine ⟨_, rfl, _, rfl, xs, xs, .inl rfl, forL_inv (fun k σ G' => G' = G ∧ ∃ y2 y3, σ = [some (.tup xs), some (.tup xs), y2, y3]) ?_ ?_ ⟨rfl, none, none, rfl⟩⟩
    · rintro k x σ G' N ex ⟨rfl, y2, y3, rfl⟩ hN
      rw [List.getElem?_zipWith] at ex
      cases e1 : xs[k]? with
      | none => rw [e1] at ex; simp at ex
      | some a =>
        rw [e1] at ex
        cases ex
        have ha := hp a (List.mem_of_getElem? e1)
        refine ⟨trivial, [a, a], rfl, rfl, _, rfl, _, rfl, ?_⟩
        cases n with
        | zero => simp [pln] at ha
        | succ m => exact ⟨rfl, ha, _, rfl, ite_b (fun z => by cases z) (fun _ => hN _ _ ⟨rfl, _, _, rfl⟩)⟩
    · rintro σ G' ⟨rfl, y2, y3, rfl⟩
      exact ⟨trivial, dn_refl hq⟩
  | _ => simp [pln] at hp
/-! #### _law_odd -/

def sp__law_odd : Sp3 := fun ds G Q E => match ds with | [.ref h] => ∃ cs i c s t, G h = some (hnd cs i c s t) ∧ HOk cs i c ∧ ∀ y i' c' s' t', wks y = true → HOk cs i' c' → Q y (up G h (hnd cs i' c' s' t')) | _ => False
def t__law_odd : TS3 :=
    (sseq (sset 1 (tcall sp__law_take (acons (tv 0) (acons (tc (.int 18)) anil))))
    (sseq (sif (tb3 (t2 lt3 (tv 1) (tc (.int 6)))) (sret (t2 ix3 (tlst false (acons (tc .non) (acons (tc (.bl true)) (acons (tc (.bl false)) (acons (tc (.str (Str.ofString ""))) (acons (tc (.str (Str.ofString "cut"))) (acons (tc (.str (Str.ofString "0"))) anil))))))) (tv 1))) snext)
    (sseq (sif (tb3 (t2 lt3 (tv 1) (tc (.int 12)))) (sret (t2 ix3 (tlst false (acons (ttup anil) (acons (tlst false anil) (acons (tc .emp) (acons (ttup (acons (tc (.int 0)) anil)) (acons (tlst false (acons (tc (.int 0)) (acons (tc (.int 0)) anil))) (acons (ttup (acons (ttup anil) anil)) anil))))))) (t2 sub3 (tv 1) (tc (.int 6))))) snext)
    (sret (t2 ix3 (tlst false (acons (tneg (tc (.int 1))) (acons (tc (.int 64)) (acons (t2 sub3 (t2 pow3 (tc (.int 10)) (tc (.int 20))) (tc (.int 1))) (acons (ttup (acons (tc (.int 0)) (acons (tc (.int 1)) anil))) (acons (ttup (acons (tc (.str (Str.ofString "turn"))) anil)) (acons (ttup (acons (tc (.str (Str.ofString "root"))) (acons (tc (.int 99)) anil))) anil))))))) (t2 sub3 (tv 1) (tc (.int 12))))))))
set_option maxHeartbeats 4000000 in
theorem vc__law_odd (ds : List D) (G : Gp) (Q : QK) (E : EK) (h : sp__law_odd ds G Q E) : t__law_odd (fnEnds Q E) (start3 N__law_odd ds) G := by
  unfold sp__law_odd at h
  split at h
  case h_2 => exact h.elim
  rename_i h
  obtain ⟨cs, i, c, s, t, hG, ok, hq⟩ := h
  refine ⟨_, rfl, _, _, _, _, _, hG, ok, by decide, by decide, fun r i c s t r0 r1 ok => ?_⟩
  refine ⟨_, rfl, _, rfl, ite_b (fun z => ?_) (fun z => ?_)⟩
  · have z := of_decide_eq_true z
    refine ⟨Nat.le_of_ble_eq_true rfl, _, rfl, ?_⟩
    obtain ⟨x, e, mx⟩ := at_ok (xs := [D.non, .bl true, .bl false, .str (Str.ofString ""), .str (Str.ofString "cut"), .str (Str.ofString "0")]) r0 (by show r < 6; omega)
    refine ⟨_, _, rfl, e, dn_refl (hq _ _ _ _ _ ?_ ok)⟩
    simp only [List.mem_cons, List.not_mem_nil, or_false] at mx
    rcases mx with rfl | rfl | rfl | rfl | rfl | rfl <;> rfl
  · have z := of_decide_eq_false z
    refine ⟨_, rfl, _, rfl, ite_b (fun z2 => ?_) (fun z2 => ?_)⟩
    · have z2 := of_decide_eq_true z2
      refine ⟨Nat.le_of_ble_eq_true rfl, Nat.le_of_ble_eq_true rfl, Nat.le_of_ble_eq_true rfl, Nat.le_of_ble_eq_true rfl, Nat.le_of_ble_eq_true rfl, Nat.le_of_ble_eq_true rfl, Nat.le_of_ble_eq_true rfl, _, rfl, ?_⟩
      obtain ⟨x, e, mx⟩ := at_ok (xs := [D.tup [], .fl [], .emp, .tup [.int 0], .fl [.int 0, .int 0], .tup [.tup []]]) (i := r - 6) (by omega) (by show r - 6 < 6; omega)
      refine ⟨_, _, rfl, e, dn_refl (hq _ _ _ _ _ ?_ ok)⟩
      simp only [List.mem_cons, List.not_mem_nil, or_false] at mx
      rcases mx with rfl | rfl | rfl | rfl | rfl | rfl <;> rfl
    · have z2 := of_decide_eq_false z2
      refine ⟨_, rfl, ⟨by decide, by decide, by decide⟩, Nat.le_of_ble_eq_true rfl, Nat.le_of_ble_eq_true rfl, Nat.le_of_ble_eq_true rfl, Nat.le_of_ble_eq_true rfl, _, rfl, ?_⟩
      obtain ⟨x, e, mx⟩ := at_ok (xs := [D.int (-1), .int 64, .int (10 ^ (20 : Int).toNat - 1), .tup [.int 0, .int 1], .tup [.str (Str.ofString "turn")], .tup [.str (Str.ofString "root"), .int 99]]) (i := r - 12) (by omega) (by show r - 12 < 6; omega)
      refine ⟨_, _, rfl, e, dn_refl (hq _ _ _ _ _ ?_ ok)⟩
      simp only [List.mem_cons, List.not_mem_nil, or_false] at mx
      rcases mx with rfl | rfl | rfl | rfl | rfl | rfl <;> rfl
/-! #### _law_bent -/

def sp__law_bent : Sp3 := fun ds G Q E => match ds with | [.ref h, .tup ys] => ∃ cs i c s t, G h = some (hnd cs i c s t) ∧ HOk cs i c ∧ (∀ y ∈ ys, kn OC y = true) ∧ 2 ≤ ys.length ∧ ys.length ≤ 4 ∧ ∀ y i' c' s' t', wks y = true → HOk cs i' c' → Q y (up G h (hnd cs i' c' s' t')) | _ => False
def t__law_bent : TS3 :=
    (sseq (sset 2 (tcall sp__law_take (acons (tv 0) (acons (tc (.int 9)) anil))))
    (sseq (sif (tb3 (t2 eq3 (tv 2) (tc (.int 0)))) (sret (tcall sp__law_pick (acons (tv 0) (acons (tlst false (acons (tcall sp__law_odd (acons (tv 0) anil)) (acons (tcb (bList false) (acons (tv 1) anil)) (acons (t2 (add3 false) (tv 1) (ttup (acons (tc (.int 0)) anil))) (acons (tsl false (tv 1) onone (osome (t2 sub3 (tcb bLen (acons (tv 1) anil)) (tc (.int 1))))) (acons (tsl false (tv 1) onone (osome (tc (.int 1)))) anil)))))) anil)))) snext)
    (sseq (sif (tb3 (t2 eq3 (tv 2) (tc (.int 1)))) (sret (t2 (add3 false) (ttup (acons (tcall sp__law_pick (acons (tv 0) (acons (tlst false (acons (tc (.str (Str.ofString "Cut"))) (acons (tc (.str (Str.ofString "link"))) (acons (tc (.str (Str.ofString "add"))) (acons (tc (.str (Str.ofString "way"))) (acons (tc (.str (Str.ofString "at"))) (acons (tc (.str (Str.ofString "reach"))) (acons (tc (.str (Str.ofString "where"))) (acons (tc (.str (Str.ofString "put"))) (acons (tc (.str (Str.ofString ""))) (acons (tc .non) (acons (tc (.int 1)) anil)))))))))))) anil))) anil)) (tsl false (tv 1) (osome (tc (.int 1))) onone))) snext)
    (sseq (sset 3 (t2 (add3 false) (tc (.int 1)) (tcall sp__law_take (acons (tv 0) (acons (t2 sub3 (tcb bLen (acons (tv 1) anil)) (tc (.int 1))) anil)))))
    (sseq (sset 4 (tlst false (acons (tcall sp__law_odd (acons (tv 0) anil)) (acons (tneg (tc (.int 1))) (acons (tc (.int 64)) (acons (tc (.bl true)) (acons (tc .non) (acons (tc (.int 0)) (acons (tc (.str (Str.ofString "least"))) (acons (t2 pow3 (tc (.int 10)) (tc (.int 19))) (acons (t2 ix3 (tv 1) (tv 3)) (acons (tc (.int 0)) anil))))))))))))
    (sret (t2 (add3 false) (t2 (add3 false) (tsl false (tv 1) onone (osome (tv 3))) (ttup (acons (tcall sp__law_pick (acons (tv 0) (acons (tv 4) anil))) anil))) (tsl false (tv 1) (osome (t2 (add3 false) (tv 3) (tc (.int 1)))) onone))))))))
set_option maxHeartbeats 4000000 in
theorem vc__law_bent (ds : List D) (G : Gp) (Q : QK) (E : EK) (h : sp__law_bent ds G Q E) : t__law_bent (fnEnds Q E) (start3 N__law_bent ds) G := by
  unfold sp__law_bent at h
  split at h
  case h_2 => exact h.elim
  rename_i h ys
  obtain ⟨cs, i, c, s, t, hG, ok, ky, l1, l2, hq⟩ := h
  have wy : wkr (.tup ys) = true := List.all_eq_true.mpr ky
  have w0 : wkr (.tup ([] : List D)) = true := rfl
  have lc : ∀ lo hi, (L3.cutD ys lo hi).length ≤ 4 := fun lo hi => Nat.le_trans cutD_len l2
  have wc : ∀ lo hi, wks (.tup (L3.cutD ys lo hi)) = true := fun lo hi => wks_tup (fun y hy => ky y (cutD_mem hy)) (by have := lc lo hi; omega)
  have ca : ∀ {A B : List D}, A.length ≤ 10 → B.length ≤ 10 → A.length + B.length ≤ sizeLine := fun {A B} a b => by show _ ≤ 16777216; omega
  refine ⟨_, rfl, _, _, _, _, _, hG, ok, by decide, by decide, fun k i c s t k0 k1 ok => ?_⟩
  refine ⟨_, rfl, rfl, _, rfl, ite_b (fun z => ?_) (fun z => ?_)⟩
  · refine ⟨_, rfl, _, rfl, _, _, _, _, _, up_same, ok, fun od i c s t wo ok => ?_⟩
    rw [up_up]
    refine ⟨_, rfl, _, rfl, _, rfl, Nat.le_of_ble_eq_true rfl, (ca (A := ys) (B := [.int 0]) (by omega) (Nat.le_of_ble_eq_true rfl)), _, rfl, _, rfl, _, rfl, _, rfl, _, rfl, _, rfl, Nat.le_of_ble_eq_true rfl, ?_⟩
    refine ⟨_, _, _, _, _, _, up_same, ok, rfl, (by intro z; cases z), Nat.le_of_ble_eq_true rfl, Nat.le_of_ble_eq_true rfl, fun x i c s t mx ok => dn_refl ?_⟩
    rw [up_up]
    refine hq _ _ _ _ _ ?_ ok
    simp only [List.mem_cons, List.not_mem_nil, or_false] at mx
    rcases mx with rfl | rfl | rfl | rfl | rfl
    · exact wo
    · rfl
    · refine wks_tup (fun y hy => ?_) (by rw [List.length_append, List.length_singleton]; omega)
      rcases List.mem_append.mp hy with hy | hy
      · exact ky y hy
      · rw [List.mem_singleton] at hy; subst hy; rfl
    · exact wc _ _
    · exact wc _ _
  refine ⟨_, rfl, rfl, _, rfl, ite_b (fun z => ?_) (fun z => ?_)⟩
  · refine ⟨_, rfl, Nat.le_of_ble_eq_true rfl, _, _, _, _, _, _, up_same, ok, rfl, (by intro z; cases z), Nat.le_of_ble_eq_true rfl, Nat.le_of_ble_eq_true rfl, fun x i c s t mx ok => ?_⟩
    rw [up_up]
    refine ⟨Nat.le_of_ble_eq_true rfl, _, rfl, _, rfl, (ca (A := [x]) (B := L3.cutD ys (some 1) none) (Nat.le_of_ble_eq_true rfl) (by have := lc (some 1) none; omega)), dn_refl (hq _ _ _ _ _ ?_ ok)⟩
    refine wks_tup (fun y hy => ?_) (by rw [List.length_append, List.length_singleton]; have := lc (some 1) none; omega)
    rcases List.mem_append.mp hy with hy | hy
    · rw [List.mem_singleton] at hy; subst hy
      simp only [List.mem_cons, List.not_mem_nil, or_false] at mx
      rcases mx with rfl | rfl | rfl | rfl | rfl | rfl | rfl | rfl | rfl | rfl | rfl <;> rfl
    · exact ky y (cutD_mem hy)
  refine ⟨_, rfl, _, rfl, _, rfl, _, _, _, _, _, up_same, ok, by omega, by omega, fun r i c s t r0 r1 ok => ?_⟩
  rw [up_up]
  obtain ⟨x, ex, mx⟩ := at_ok (xs := ys) (i := 1 + r) (by omega) (by omega)
  refine ⟨_, rfl, _, _, _, _, _, up_same, ok, fun od i c s t wo ok => ?_⟩
  rw [up_up]
  refine ⟨_, rfl, ⟨by decide, by decide, by decide⟩, _, rfl, _, rfl, _, _, rfl, ex, Nat.le_of_ble_eq_true rfl, ?_⟩
  refine ⟨_, rfl, _, rfl, _, rfl, _, rfl, _, rfl, _, _, _, _, _, _, up_same, ok, rfl, (by intro z; cases z), Nat.le_of_ble_eq_true rfl, Nat.le_of_ble_eq_true rfl, fun w i c s t mw ok => ?_⟩
  rw [up_up]
  have kw : kn OC w = true := by
    simp only [List.mem_cons, List.not_mem_nil, or_false] at mw
    rcases mw with rfl | rfl | rfl | rfl | rfl | rfl | rfl | rfl | rfl | rfl <;> first | rfl | exact wkr_kn (wks_wkr wo) | exact ky _ mx
  have c1 := lc none (some (1 + r))
  have c2 := lc (some (1 + r + 1)) none
  refine ⟨Nat.le_of_ble_eq_true rfl, (ca (A := L3.cutD ys none (some (1 + r))) (B := [w]) (by omega) (Nat.le_of_ble_eq_true rfl)), _, rfl, _, rfl, _, rfl, (ca (A := L3.cutD ys none (some (1 + r)) ++ [w]) (B := L3.cutD ys (some (1 + r + 1)) none) (by rw [List.length_append, List.length_singleton]; omega) (by omega)), dn_refl (hq _ _ _ _ _ (wks_tup (List.all_eq_true.mp (wk_cat wy kw wy (fun y => cutD_mem) _ (fun y => cutD_mem))) (by rw [List.length_append, List.length_append, List.length_singleton]; omega)) ok)⟩
/-! #### _law_deed -/

def sp__law_deed : Sp3 := fun ds G Q E => match ds with | [.ref h, .fl [.fl zs, .fl ys]] => ∃ cs i c s t ps, G h = some (hnd cs i c s t) ∧ HOk cs i c ∧ zs = ps.map pl ∧ ParR ps ∧ ∀ us i' c' s' t', (∀ y ∈ us, kn OC y = true) → 2 ≤ us.length → us.length ≤ 4 → HOk cs i' c' → Q (.tup us) (up G h (hnd cs i' c' s' t')) | _ => False
def t__law_deed : TS3 :=
    (sseq (sset 2 (t2 ix3 (tv 1) (tc (.int 0))))
    (sseq (sset 3 (tcb bLen (acons (tv 2) anil)))
    (sseq (sset 4 (tcall sp__law_take (acons (tv 0) (acons (tv 3) anil))))
    (sseq (sset 5 (tcall sp__law_take (acons (tv 0) (acons (tv 3) anil))))
    (sseq (sset 6 (tcall sp__law_take (acons (tv 0) (acons (tc (.int 8)) anil))))
    (sseq (sif (tb3 (t2 lt3 (tv 6) (tc (.int 2)))) (sseq (sset 7 (tcall sp__law_root (acons (tv 2) (acons (tv 4) anil))))
    (sif (tb3 (t2 ne3 (tcall sp__law_root (acons (tv 2) (acons (tv 5) anil))) (tv 7))) (sret (ttup (acons (tc (.str (Str.ofString "link"))) (acons (tv 7) (acons (tv 5) anil))))) snext)) snext)
    (sseq (sif (Tand (tb3 (t2 lt3 (tv 6) (tc (.int 4)))) (tb3 (t2 (is3 true) (t2 ix3 (tv 2) (tv 4)) (tc .non)))) (sret (ttup (acons (tc (.str (Str.ofString "cut"))) (acons (tv 4) anil)))) snext)
    (sseq (sif (tb3 (t2 eq3 (tv 6) (tc (.int 4)))) (sret (ttup (acons (tc (.str (Str.ofString "put"))) (acons (tv 4) (acons (tcall sp__law_value (acons (tv 0) anil)) anil))))) snext)
    (sseq (sif (Tand (tb3 (t2 eq3 (tv 6) (tc (.int 5)))) (tb3 (t2 (is3 true) (tcall sp__law_common (acons (tv 2) (acons (tv 4) (acons (tv 5) anil)))) (tc .non)))) (sret (ttup (acons (tc (.str (Str.ofString "add"))) (acons (tv 4) (acons (tv 5) (acons (tcall sp__law_value (acons (tv 0) anil)) anil)))))) snext)
    (sseq (sif (tb3 (t2 eq3 (tv 6) (tc (.int 6)))) (sret (ttup (acons (tc (.str (Str.ofString "add"))) (acons (tv 4) (acons (tv 4) (acons (tcall sp__law_value (acons (tv 0) anil)) anil)))))) snext)
    (sret (ttup (acons (tc (.str (Str.ofString "turn"))) (acons (tv 4) anil))))))))))))))
set_option maxHeartbeats 4000000 in
theorem vc__law_deed (ds : List D) (G : Gp) (Q : QK) (E : EK) (h : sp__law_deed ds G Q E) : t__law_deed (fnEnds Q E) (start3 N__law_deed ds) G := by
  unfold sp__law_deed at h
  split at h
  case h_2 => exact h.elim
  rename_i h zs ys
  obtain ⟨cs, i, c, s, t, ps, hG, ok, rfl, pr, hq⟩ := h
  have n64 := pr.n64
  have n1 := pr.n1
  have ml : (ps.map pl).length = ps.length := List.length_map _
  refine ⟨_, rfl, _, _, rfl, rfl, _, rfl, _, rfl, ?_⟩
  rw [ml]
  refine ⟨_, rfl, _, rfl, _, _, _, _, _, hG, ok, by omega, by omega, fun r0 i c s t a0 a1 ok => ?_⟩
  refine ⟨_, rfl, _, rfl, _, _, _, _, _, up_same, ok, by omega, by omega, fun r1 i c s t b0 b1 ok => ?_⟩
  rw [up_up]
  obtain ⟨a, rfl⟩ := Int.eq_ofNat_of_zero_le a0
  obtain ⟨b, rfl⟩ := Int.eq_ofNat_of_zero_le b0
  have ha : a < ps.length := by omega
  have hb : b < ps.length := by omega
  refine ⟨_, rfl, _, _, _, _, _, up_same, ok, by decide, by decide, fun k i c s t k0 k1 ok => ?_⟩
  rw [up_up]
  dsimp only
  have fin : ∀ (us : List D), (∀ y ∈ us, kn OC y = true) → 2 ≤ us.length → us.length ≤ 4 → dn Q (.tup us) (up G h (hnd cs i c s t)) := fun us h1 h2 h3 => dn_refl (hq us _ _ _ _ h1 h2 h3 ok)
  refine sseq_cut (fun σ G' => G' = up G h (hnd cs i c s t) ∧ ∃ y7, σ = [some (.ref h), some (.fl [.fl (ps.map pl), .fl ys]), some (.fl (ps.map pl)), some (.int ps.length), some (.int a), some (.int b), some (.int k), y7]) (fun N hN => ?_) ?_
  · refine ⟨_, rfl, _, rfl, ite_b (fun _ => ?_) (fun _ => hN _ _ ⟨rfl, _, rfl⟩)⟩
    refine ⟨_, rfl, _, rfl, ps, a, rfl, rfl, ha, n64, pr.ok, ?_⟩
    refine ⟨_, rfl, _, rfl, ps, b, rfl, rfl, hb, n64, pr.ok, _, rfl, rfl, _, rfl, ite_b (fun _ => ?_) (fun _ => hN _ _ ⟨rfl, _, rfl⟩)⟩
    exact ⟨_, rfl, _, rfl, Nat.le_of_ble_eq_true rfl, fin _ (fun y my => by simp only [List.mem_cons, List.not_mem_nil, or_false] at my; rcases my with rfl | rfl | rfl <;> rfl) (Nat.le_of_ble_eq_true rfl) (Nat.le_of_ble_eq_true rfl)⟩
  rintro σ G' ⟨rfl, y7, rfl⟩
  have ea := step_get ha
  have e2 : ∀ (N : Prop) (Y : Prop), N → Y → ∀ c : Bool, if c = true then Y else N := fun N Y n y c => by cases c; exact n; exact y
  refine ⟨_, rfl, _, rfl, ?_⟩
  cases decide (k < 4) with
  | true => 
    refine ⟨_, rfl, _, rfl, _, _, rfl, at_pl ea, _, rfl, ite_b (fun _ => ⟨_, rfl, Nat.le_of_ble_eq_true rfl, fin _ (fun y my => by simp only [List.mem_cons, List.not_mem_nil, or_false] at my; rcases my with rfl | rfl <;> rfl) (Nat.le_of_ble_eq_true rfl) (Nat.le_of_ble_eq_true rfl)⟩) (fun _ => ?_)⟩
    refine ⟨_, rfl, rfl, _, rfl, ite_b (fun _ => ?_) (fun _ => ?_)⟩
    · refine ⟨_, rfl, _, rfl, _, _, _, _, _, up_same, ok, fun v i c s t ok => ?_⟩
      rw [up_up]
      exact ⟨Nat.le_of_ble_eq_true rfl, dn_refl (hq _ _ _ _ _ (fun y my => by simp only [List.mem_cons, List.not_mem_nil, or_false] at my; rcases my with rfl | rfl | rfl <;> rfl) (Nat.le_of_ble_eq_true rfl) (Nat.le_of_ble_eq_true rfl) ok)⟩
    refine ⟨_, rfl, rfl, _, rfl, ?_⟩
    have last : (sseq (sif (tb3 (t2 eq3 (tv 6) (tc (.int 6)))) (sret (ttup (acons (tc (.str (Str.ofString "add"))) (acons (tv 4) (acons (tv 4) (acons (tcall sp__law_value (acons (tv 0) anil)) anil)))))) snext)
    (sret (ttup (acons (tc (.str (Str.ofString "turn"))) (acons (tv 4) anil))))) (fnEnds Q E) [some (.ref h), some (.fl [.fl (ps.map pl), .fl ys]), some (.fl (ps.map pl)), some (.int ps.length), some (.int a), some (.int b), some (.int k), y7] (up G h (hnd cs i c s t)) := by
      refine ⟨_, rfl, rfl, _, rfl, ite_b (fun _ => ?_) (fun _ => ?_)⟩
      · refine ⟨_, rfl, _, rfl, _, rfl, _, _, _, _, _, up_same, ok, fun v i c s t ok => ?_⟩
        rw [up_up]
        exact ⟨Nat.le_of_ble_eq_true rfl, dn_refl (hq _ _ _ _ _ (fun y my => by simp only [List.mem_cons, List.not_mem_nil, or_false] at my; rcases my with rfl | rfl | rfl | rfl <;> rfl) (Nat.le_of_ble_eq_true rfl) (Nat.le_of_ble_eq_true rfl) ok)⟩
      · exact ⟨_, rfl, Nat.le_of_ble_eq_true rfl, fin _ (fun y my => by simp only [List.mem_cons, List.not_mem_nil, or_false] at my; rcases my with rfl | rfl <;> rfl) (Nat.le_of_ble_eq_true rfl) (Nat.le_of_ble_eq_true rfl)⟩
    cases eqD (.int k) (.int 5) with
    | true =>
      refine ⟨_, rfl, _, rfl, _, rfl, ps, a, b, rfl, rfl, rfl, ha, hb, pr, _, rfl, ite_b (fun _ => ?_) (fun _ => last)⟩
      refine ⟨_, rfl, _, rfl, _, rfl, _, _, _, _, _, up_same, ok, fun v i c s t ok => ?_⟩
      rw [up_up]
      exact ⟨Nat.le_of_ble_eq_true rfl, dn_refl (hq _ _ _ _ _ (fun y my => by simp only [List.mem_cons, List.not_mem_nil, or_false] at my; rcases my with rfl | rfl | rfl | rfl <;> rfl) (Nat.le_of_ble_eq_true rfl) (Nat.le_of_ble_eq_true rfl) ok)⟩
    | false => exact iteF last
  | false =>
    refine iteF ?_
    refine ⟨_, rfl, rfl, _, rfl, ite_b (fun _ => ?_) (fun _ => ?_)⟩
    · refine ⟨_, rfl, _, rfl, _, _, _, _, _, up_same, ok, fun v i c s t ok => ?_⟩
      rw [up_up]
      exact ⟨Nat.le_of_ble_eq_true rfl, dn_refl (hq _ _ _ _ _ (fun y my => by simp only [List.mem_cons, List.not_mem_nil, or_false] at my; rcases my with rfl | rfl | rfl <;> rfl) (Nat.le_of_ble_eq_true rfl) (Nat.le_of_ble_eq_true rfl) ok)⟩
    refine ⟨_, rfl, rfl, _, rfl, ?_⟩
    have last : (sseq (sif (tb3 (t2 eq3 (tv 6) (tc (.int 6)))) (sret (ttup (acons (tc (.str (Str.ofString "add"))) (acons (tv 4) (acons (tv 4) (acons (tcall sp__law_value (acons (tv 0) anil)) anil)))))) snext)
    (sret (ttup (acons (tc (.str (Str.ofString "turn"))) (acons (tv 4) anil))))) (fnEnds Q E) [some (.ref h), some (.fl [.fl (ps.map pl), .fl ys]), some (.fl (ps.map pl)), some (.int ps.length), some (.int a), some (.int b), some (.int k), y7] (up G h (hnd cs i c s t)) := by
      refine ⟨_, rfl, rfl, _, rfl, ite_b (fun _ => ?_) (fun _ => ?_)⟩
      · refine ⟨_, rfl, _, rfl, _, rfl, _, _, _, _, _, up_same, ok, fun v i c s t ok => ?_⟩
        rw [up_up]
        exact ⟨Nat.le_of_ble_eq_true rfl, dn_refl (hq _ _ _ _ _ (fun y my => by simp only [List.mem_cons, List.not_mem_nil, or_false] at my; rcases my with rfl | rfl | rfl | rfl <;> rfl) (Nat.le_of_ble_eq_true rfl) (Nat.le_of_ble_eq_true rfl) ok)⟩
      · exact ⟨_, rfl, Nat.le_of_ble_eq_true rfl, fin _ (fun y my => by simp only [List.mem_cons, List.not_mem_nil, or_false] at my; rcases my with rfl | rfl <;> rfl) (Nat.le_of_ble_eq_true rfl) (Nat.le_of_ble_eq_true rfl)⟩
    cases eqD (.int k) (.int 5) with
    | true =>
      refine ⟨_, rfl, _, rfl, _, rfl, ps, a, b, rfl, rfl, rfl, ha, hb, pr, _, rfl, ite_b (fun _ => ?_) (fun _ => last)⟩
      refine ⟨_, rfl, _, rfl, _, rfl, _, _, _, _, _, up_same, ok, fun v i c s t ok => ?_⟩
      rw [up_up]
      exact ⟨Nat.le_of_ble_eq_true rfl, dn_refl (hq _ _ _ _ _ (fun y my => by simp only [List.mem_cons, List.not_mem_nil, or_false] at my; rcases my with rfl | rfl | rfl | rfl <;> rfl) (Nat.le_of_ble_eq_true rfl) (Nat.le_of_ble_eq_true rfl) ok)⟩
    | false => exact iteF last
/-! #### _law_some -/

def sp__law_some : Sp3 := fun ds G Q E => match ds with | [.ref h, .fl [.fl zs, .fl ys]] => ∃ cs i c s t ps, G h = some (hnd cs i c s t) ∧ HOk cs i c ∧ zs = ps.map pl ∧ ParR ps ∧ ∀ y i' c' s' t', wks y = true → HOk cs i' c' → Q y (up G h (hnd cs i' c' s' t')) | _ => False
def t__law_some : TS3 :=
    (sseq (sset 2 (tcb bLen (acons (t2 ix3 (tv 1) (tc (.int 0))) anil)))
    (sseq (sset 3 (tcall sp__law_deed (acons (tv 0) (acons (tv 1) anil))))
    (sseq (sset 4 (tcall sp__law_take (acons (tv 0) (acons (tc (.int 6)) anil))))
    (sseq (sif (tb3 (t2 lt3 (tv 4) (tc (.int 2)))) (sret (tv 3)) snext)
    (sseq (sif (tb3 (t2 lt3 (tv 4) (tc (.int 4)))) (sret (tcall sp__law_bent (acons (tv 0) (acons (tv 3) anil)))) snext)
    (sseq (sset 5 (tcall sp__law_take (acons (tv 0) (acons (tv 2) anil))))
    (sseq (sset 6 (tcall sp__law_take (acons (tv 0) (acons (tv 2) anil))))
    (sret (tcall sp__law_pick (acons (tv 0) (acons (tlst false (acons (ttup (acons (tc (.str (Str.ofString "link"))) (acons (tv 5) (acons (tv 6) anil)))) (acons (ttup (acons (tc (.str (Str.ofString "cut"))) (acons (tv 5) anil))) (acons (ttup (acons (tc (.str (Str.ofString "add"))) (acons (tv 5) (acons (tv 6) (acons (tc (.int 3)) anil))))) (acons (ttup (acons (tc (.str (Str.ofString "turn"))) (acons (tv 5) anil))) (acons (ttup (acons (tc (.str (Str.ofString "put"))) (acons (tv 5) (acons (tv 6) anil)))) anil)))))) anil)))))))))))
set_option maxHeartbeats 4000000 in
theorem vc__law_some (ds : List D) (G : Gp) (Q : QK) (E : EK) (h : sp__law_some ds G Q E) : t__law_some (fnEnds Q E) (start3 N__law_some ds) G := by
  unfold sp__law_some at h
  split at h
  case h_2 => exact h.elim
  rename_i h zs ys
  obtain ⟨cs, i, c, s, t, ps, hG, ok, rfl, pr, hq⟩ := h
  have n64 := pr.n64
  have n1 := pr.n1
  have ml : (ps.map pl).length = ps.length := List.length_map _
  refine ⟨_, rfl, _, _, rfl, rfl, _, rfl, ?_⟩
  rw [ml]
  refine ⟨_, rfl, _, rfl, _, _, _, _, _, ps, hG, ok, rfl, pr, fun us i c s t ku l2 l4 ok => ?_⟩
  refine ⟨_, rfl, _, _, _, _, _, up_same, ok, by decide, by decide, fun k i c s t k0 k1 ok => ?_⟩
  rw [up_up]
  refine ⟨_, rfl, _, rfl, ite_b (fun _ => ⟨_, rfl, dn_refl (hq _ _ _ _ _ (wks_tup ku (by omega)) ok)⟩) (fun _ => ?_)⟩
  refine ⟨_, rfl, _, rfl, ite_b (fun _ => ?_) (fun _ => ?_)⟩
  · refine ⟨_, rfl, _, rfl, _, _, _, _, _, up_same, ok, ku, l2, l4, fun y i c s t wy ok => ?_⟩
    rw [up_up]
    exact dn_refl (hq _ _ _ _ _ wy ok)
  refine ⟨_, rfl, _, rfl, _, _, _, _, _, up_same, ok, by omega, by omega, fun r0 i c s t a0 a1 ok => ?_⟩
  rw [up_up]
  refine ⟨_, rfl, _, rfl, _, _, _, _, _, up_same, ok, by omega, by omega, fun r1 i c s t b0 b1 ok => ?_⟩
  rw [up_up]
  refine ⟨_, rfl, _, rfl, _, rfl, Nat.le_of_ble_eq_true rfl, _, rfl, Nat.le_of_ble_eq_true rfl, _, rfl, _, rfl, Nat.le_of_ble_eq_true rfl, _, rfl, Nat.le_of_ble_eq_true rfl, _, rfl, _, rfl, Nat.le_of_ble_eq_true rfl, Nat.le_of_ble_eq_true rfl, ?_⟩
  refine ⟨_, _, _, _, _, _, up_same, ok, rfl, (by intro z; cases z), Nat.le_of_ble_eq_true rfl, Nat.le_of_ble_eq_true rfl, fun y i c s t my ok => ?_⟩
  rw [up_up]
  refine dn_refl (hq _ _ _ _ _ ?_ ok)
  simp only [List.mem_cons, List.not_mem_nil, or_false] at my
  rcases my with rfl | rfl | rfl | rfl | rfl <;> rfl
/-! #### behind -/

def sp_behind : Sp3 := fun ds G Q E => match ds with | [f, x] => ∃ s : Fs, f = fo s.ps s.ws ∧ s.ok ∧ wks x = true ∧ (canD s.ps x = true → Q (fo (s.go x).ps (s.go x).ws) G) ∧ (canD s.ps x = false → E ⟨Str.ofString "NoDeed", none⟩ G) | _ => False
def t_behind : TS3 :=
    (sseq (sif (Tnot (tb3 (tcall sp_is_deed (acons (tv 0) (acons (tv 1) anil))))) (sraise (Str.ofString "NoDeed")) snext)
    (sret (tcall sp_after_deed (acons (tv 0) (acons (tv 1) anil)))))
set_option maxHeartbeats 4000000 in
theorem vc_behind (ds : List D) (G : Gp) (Q : QK) (E : EK) (h : sp_behind ds G Q E) : t_behind (fnEnds Q E) (start3 N_behind ds) G := by
  unfold sp_behind at h
  split at h
  case h_2 => exact h.elim
  rename_i f x
  obtain ⟨s, rfl, so, wx, hq, he⟩ := h
  refine ⟨_, rfl, _, rfl, s.ps, s.ws, rfl, so.pr, wks_wkr wx, wks_len wx, _, rfl, ite_b (fun z => ⟨_, Sub.refl, he (by simpa using z)⟩) (fun z => ?_)⟩
  have z : canD s.ps x = true := by simpa using z
  have hq := hq z
  obtain ⟨q, e, rfl, hok, hc⟩ := can_q z
  rw [go_eq e] at hq
  exact ⟨_, rfl, _, rfl, s.ps, s.ws, q, rfl, so.pr, so.wl, rfl, hok, hc, dn_refl hq⟩
/-! #### _law_told -/

def sp__law_told : Sp3 := fun ds G Q E => match ds with | [f, x] => ∃ s : Fs, f = fo s.ps s.ws ∧ s.ok ∧ wks x = true ∧ (canD s.ps x = true → Q (.tup [.str (Str.ofString "told"), pD (s.go x).ps, wD (s.go x).ws]) G) ∧ (canD s.ps x = false → Q (.tup [.str (Str.ofString "NoDeed")]) G) | _ => False
def t__law_told : TS3 :=
    (stry (exmOf EXM) (sseq (sset 2 (tcall sp_behind (acons (tv 0) (acons (tv 1) anil))))
    (sret (ttup (acons (tc (.str (Str.ofString "told"))) (acons (tfld (Str.ofString "Forest") (Str.ofString "parents") (tv 2)) (acons (tfld (Str.ofString "Forest") (Str.ofString "worths") (tv 2)) anil)))))) [⟨(Str.ofString "NoDeed"), none, fun _ => (sret (ttup (acons (tc (.str (Str.ofString "NoDeed"))) anil)))⟩])
set_option maxHeartbeats 4000000 in
theorem vc__law_told (ds : List D) (G : Gp) (Q : QK) (E : EK) (h : sp__law_told ds G Q E) : t__law_told (fnEnds Q E) (start3 N__law_told ds) G := by
  unfold sp__law_told at h
  split at h
  case h_2 => exact h.elim
  rename_i f x
  obtain ⟨s, rfl, so, wx, hq, he⟩ := h
  refine ⟨_, rfl, _, rfl, s, rfl, so, wx, fun z => ?_, fun z => ?_⟩
  · exact ⟨_, rfl, _, fo_p (ps := (s.go x).ps) (ws := (s.go x).ws), _, rfl, _, fo_w (ps := (s.go x).ps) (ws := (s.go x).ws), Nat.le_of_ble_eq_true rfl, dn_refl (hq z)⟩
  · exact ⟨true, by decide +kernel, iteT fun gx sx => ⟨Nat.le_of_ble_eq_true rfl, gx, rfl, dn_refl (he z)⟩⟩
/-! #### law -/

def sp_law : Sp3 := fun ds G Q E => match ds with
  | [.sl xs] => (∀ x ∈ xs, ∃ n : Int, x = .int n) ∧ xs.length ≤ 63 ∧ ∀ G', Q (.bl true) G'
  | _ => False
def t_law : TS3 :=
    (sseq (sset 1 (tcall sp__law_hand (acons (tv 0) anil)))
    (sseq (sset 2 (tcall sp__law_plain (acons (tv 1) (acons (tlst false (acons (tc (.int 1)) (acons (tc (.int 2)) (acons (tc (.int 3)) (acons (tc (.int 6)) (acons (tc (.int 12)) (acons (tc (.int 40)) anil))))))) anil))))
    (sseq (sset 3 (tcall sp__law_forest_of (acons (tv 2) anil)))
    (sseq (sset 4 (tv 2))
    (sseq (sset 5 (ttup (acons (tfld (Str.ofString "Forest") (Str.ofString "parents") (tv 3)) (acons (tfld (Str.ofString "Forest") (Str.ofString "worths") (tv 3)) anil))))
    (sseq (sset 6 (tlst true anil))
    (sseq (sfor (irng1 (acons (tcall sp__law_take (acons (tv 1) (acons (tc (.int 26)) anil))) anil)) (.n 7) (sseq (sset 13 (tcall sp__law_some (acons (tv 1) (acons (tv 2) anil))))
    (sseq (sset 14 (tcall sp__law_can (acons (tv 2) (acons (tv 13) anil))))
    (sseq (sset 15 (tcall sp__law_forest_of (acons (tv 2) anil)))
    (sseq (sif (Tnot (tb3 (tcall (sp__law_same 4) (acons (tcall sp_is_deed (acons (tv 15) (acons (tv 13) anil))) (acons (tv 14) anil))))) (sret (tc (.bl false))) snext)
    (sseq (sset 8 (ttup (acons (tc (.str (Str.ofString "NoDeed"))) anil)))
    (sseq (sif (tb3 (tv 14)) (sseq (sset 2 (tcall sp__law_behind (acons (tv 2) (acons (tv 13) anil))))
    (sseq (sdrop (tmeth isL mAppend (tv 6) (acons (tv 13) anil)))
    (sset 8 (ttup (acons (tc (.str (Str.ofString "told"))) (acons (tcb bTup (acons (t2 ix3 (tv 2) (tc (.int 0))) anil)) (acons (tcb bTup (acons (t2 ix3 (tv 2) (tc (.int 1))) anil)) anil))))))) snext)
    (sif (Tnot (tb3 (tcall (sp__law_same 4) (acons (tcall sp__law_told (acons (tv 15) (acons (tv 13) anil))) (acons (tv 8) anil))))) (sret (tc (.bl false))) snext))))))))
    (sseq (sset 8 (ttup (acons (tc (.str (Str.ofString "told"))) (acons (tcb bTup (acons (t2 ix3 (tv 2) (tc (.int 0))) anil)) (acons (tcb bTup (acons (t2 ix3 (tv 2) (tc (.int 1))) anil)) anil)))))
    (sseq (sif (Tor (Tnot (tb3 (tcall (sp__law_same 4) (acons (tcall sp__law_led_told (acons (tv 3) (acons (tv 6) anil))) (acons (tv 8) anil))))) (Tnot (tb3 (tcall (sp__law_same 4) (acons (tcall sp__law_led_told (acons (tv 3) (acons (tcb bTup (acons (tv 6) anil)) anil))) (acons (tv 8) anil)))))) (sret (tc (.bl false))) snext)
    (sseq (sset 9 (tcall sp__law_take (acons (tv 1) (acons (t2 (add3 false) (tcb bLen (acons (tv 6) anil)) (tc (.int 1))) anil))))
    (sseq (sset 10 (tv 4))
    (sseq (sfor (iseq (tsl false (tv 6) onone (osome (tv 9)))) (.n 11) (sset 10 (tcall sp__law_behind (acons (tv 10) (acons (tv 11) anil)))))
    (sseq (sset 12 (tcall sp__law_some (acons (tv 1) (acons (tv 10) anil))))
    (sseq (sif (Tand (Tnot (tb3 (tcall sp__law_can (acons (tv 10) (acons (tv 12) anil))))) (tb3 (t2 ne3 (tcall sp__law_led_told (acons (tv 3) (acons (t2 (add3 false) (t2 (add3 false) (tsl false (tv 6) onone (osome (tv 9))) (tlst false (acons (tv 12) anil))) (tsl false (tv 6) (osome (tv 9)) onone)) anil))) (ttup (acons (tc (.str (Str.ofString "BadDeeds"))) (acons (tv 9) anil)))))) (sret (tc (.bl false))) snext)
    (sseq (sif (tb3 (t2 ne3 (tcall sp__law_led_told (acons (tv 3) (acons (tcall sp__law_pick (acons (tv 1) (acons (tlst false (acons (tc .non) (acons (tc (.int 0)) (acons (tc (.str (Str.ofString "cut"))) (acons (tc .emp) (acons (tc (.bl true)) anil)))))) anil))) anil))) (ttup (acons (tc (.str (Str.ofString "BadDeeds"))) (acons (tneg (tc (.int 1))) anil))))) (sret (tc (.bl false))) snext)
    (sret (tcall (sp__law_same 4) (acons (ttup (acons (tfld (Str.ofString "Forest") (Str.ofString "parents") (tv 3)) (acons (tfld (Str.ofString "Forest") (Str.ofString "worths") (tv 3)) anil))) (acons (tv 5) anil)))))))))))))))))))
set_option maxHeartbeats 4000000 in
theorem vc_law (ds : List D) (G : Gp) (Q : QK) (E : EK) (h : sp_law ds G Q E) : t_law (fnEnds Q E) (start3 N_law ds) G := by
  unfold sp_law at h
  split at h
  case h_2 => exact h.elim
  rename_i xs
  obtain ⟨hx, hl, hq⟩ := h
  refine ⟨_, rfl, hx, hl, fun p cs i c s t np ok => ?_⟩
  refine ⟨_, rfl, Nat.le_of_ble_eq_true rfl, _, _, _, _, _, up_same, ok, Nat.le_of_ble_eq_true rfl, Nat.le_of_ble_eq_true rfl, fun x mx => ?_, fun ps ws i c s t pr wl ok => ?_⟩
  · simp only [List.mem_cons, List.not_mem_nil, or_false] at mx
    rcases mx with rfl | rfl | rfl | rfl | rfl | rfl
    · exact ⟨1, rfl, by decide, by decide⟩
    · exact ⟨2, rfl, by decide, by decide⟩
    · exact ⟨3, rfl, by decide, by decide⟩
    · exact ⟨6, rfl, by decide, by decide⟩
    · exact ⟨12, rfl, by decide, by decide⟩
    · exact ⟨40, rfl, by decide, by decide⟩
  rw [up_up]
  have so : (Fs.mk ps ws).ok := ⟨pr, wl⟩
  refine ⟨_, rfl, ps, ws, rfl, rfl, pr, wl, _, rfl, _, rfl, _, fo_p (ps := ps) (ws := ws), _, rfl, _, fo_w (ps := ps) (ws := ws), Nat.le_of_ble_eq_true rfl, Nat.le_of_ble_eq_true rfl, fun dp nd => ?_⟩
  have dpp : dp ≠ p := fun z => by rw [z, up_same] at nd; cases nd
  have pdp : p ≠ dp := Ne.symm dpp
  have lp : ∀ (u v : GO), (up (up G p u) dp v) p = some u := fun u v => by rw [up_ne pdp, up_same]
  have cp : ∀ (u v w : GO), up (up (up G p u) dp v) p w = up (up G p w) dp v := fun u v w => by rw [up_comm pdp, up_up]
  have cd : ∀ (u v w : GO), up (up (up G p u) dp v) dp w = up (up G p u) dp w := fun u v w => up_up
  refine ⟨_, rfl, _, _, _, _, _, lp _ _, ok, by decide, by decide, fun kk i c s t k0 k1 ok => ?_⟩
  rw [cp]
  refine ⟨_, rfl, by omega, by omega, forL_inv (fun k σ G' => ∃ i c s t zs y7 y8 y13 y14 y15, (Fs.mk ps ws).row zs ∧ (∀ z ∈ zs, wks z = true) ∧ zs.length ≤ k ∧ G' = up (up G p (hnd cs i c s t)) dp (.lst zs) ∧ HOk cs i c ∧ σ = [some (.sl xs), some (.ref p), some (plD ((Fs.mk ps ws).end_ zs)), some (fo ps ws), some (plD ⟨ps, ws⟩), some (.tup [pD ps, wD ws]), some (.ref dp),  y7, y8, none, none, none, none, y13, y14, y15]) ?_ ?_ ⟨i, c, s, t, [], _, _, _, _, _, trivial, (fun z hz => by cases hz), Nat.le_refl _, rfl, ok, rfl⟩⟩
  · rintro k x0 σ G' N ex ⟨i, c, s, t, zs, y7, y8, y13, y14, y15, hrow, hwk, hzl, rfl, ok, rfl⟩ hN
    have hk : k < 26 := by
      obtain ⟨h3, _⟩ := List.getElem?_eq_some_iff.mp ex
      simp at h3; omega
    have eo := Fs.end_ok so hrow
    generalize hS : (Fs.mk ps ws).end_ zs = S at eo
    refine ⟨trivial, _, rfl, _, rfl, _, _, _, _, _, S.ps, lp _ _, ok, rfl, eo.pr, fun th i c s t wt ok => ?_⟩
    rw [cp]
    refine ⟨_, rfl, _, rfl, S.ps, rfl, eo.pr, wt, ?_⟩
    refine ⟨_, rfl, S.ps, S.ws, rfl, rfl, eo.pr, eo.wl, ?_⟩
    refine ⟨_, rfl, _, rfl, S.ps, S.ws, rfl, eo.pr, wks_wkr wt, wks_len wt, _, rfl, rfl, rfl, _, rfl, ite_b (fun z => by cases z) (fun _ => ?_)⟩
    refine ⟨Nat.le_of_ble_eq_true rfl, _, rfl, _, rfl, ite_b (fun z => ?_) (fun z => ?_)⟩
    · refine ⟨_, rfl, _, rfl, S, rfl, rfl, eo, z, ?_⟩
      refine ⟨_, rfl, isL_ref up_same, _, rfl, _, up_same, (by show _ < 16777216; omega), ?_⟩
      rw [cd]
      refine ⟨_, rfl, _, _, rfl, rfl, _, rfl, _, rfl, _, _, rfl, rfl, _, rfl, Nat.le_of_ble_eq_true rfl, ?_⟩
      refine ⟨_, rfl, _, rfl, S, rfl, eo, wt, fun _ => ?_, fun z2 => by rw [z] at z2; cases z2⟩
      refine ⟨_, rfl, rfl, pln_fs _, _, rfl, ite_b (fun z => by cases z) (fun _ => ?_)⟩
      refine hN _ _ ⟨_, _, _, _, zs ++ [th], some x0, some (toD (S.go th)), some th, some (.bl (canD S.ps th)), some (fo S.ps S.ws), Fs.row_app.mpr ⟨hrow, by rw [hS]; exact z⟩, (fun y hy => ?_), by rw [List.length_append, List.length_singleton]; omega, rfl, ok, ?_⟩
      · rcases List.mem_append.mp hy with hy | hy
        · exact hwk y hy
        · rw [List.mem_singleton] at hy; subst hy; exact wt
      · rw [Fs.end_app, hS]; rfl
    · refine ⟨_, rfl, _, rfl, S, rfl, eo, wt, fun z2 => (by rw [z] at z2; cases z2), fun _ => ?_⟩
      refine ⟨_, rfl, rfl, rfl, _, rfl, ite_b (fun z => by cases z) (fun _ => ?_)⟩
      refine hN _ _ ⟨_, _, _, _, zs, some x0, some (.tup [.str (Str.ofString "NoDeed")]), some th, some (.bl (canD S.ps th)), some (fo S.ps S.ws), hrow, hwk, by omega, rfl, ok, ?_⟩
      rw [hS]; rfl
  · rintro σ G' ⟨i, c, s, t, zs, y7, y8, y13, y14, y15, hrow, hwk, hzl, rfl, ok, rfl⟩
    have hzl : zs.length ≤ 26 := by
      rw [List.length_map, List.length_range] at hzl
      omega
    have eo := Fs.end_ok so hrow
    generalize hS : (Fs.mk ps ws).end_ zs = S at eo
    have nobad : ∀ {B : Prop} k x, zs[k]? = some x → (Fs.mk ps ws).row (zs.take k) → canD ((Fs.mk ps ws).end_ (zs.take k)).ps x = false → B := fun k x e r c => by
      have := (Fs.row_at hrow e).1
      rw [this] at c; cases c
    refine ⟨trivial, _, rfl, _, _, rfl, rfl, _, rfl, _, rfl, _, _, rfl, rfl, _, rfl, Nat.le_of_ble_eq_true rfl, ?_⟩
    refine ⟨_, rfl, _, rfl, ⟨ps, ws⟩, rfl, so, .inl ⟨zs, sq_ref up_same, hwk, by omega, fun k x e r c => nobad k x e r c, fun _ => ?_⟩⟩
    rw [hS]
    refine ⟨_, rfl, rfl, pln_fs _, _, rfl, ite_b (fun z => by cases z) (fun _ => ?_)⟩
    refine ⟨_, rfl, _, rfl, _, sq_ref up_same, ⟨ps, ws⟩, rfl, so, .inl ⟨zs, rfl, hwk, by omega, fun k x e r c => nobad k x e r c, fun _ => ?_⟩⟩
    rw [hS]
    refine ⟨_, rfl, rfl, pln_fs _, _, rfl, ite_b (fun z => by cases z) (fun _ => ?_)⟩
    refine ⟨_, rfl, _, rfl, _, sq_ref up_same, _, _, _, _, _, lp _ _, ok, by omega, by omega, fun n i c s t n0 n1 ok => ?_⟩
    rw [cp]
    obtain ⟨n, rfl⟩ := Int.eq_ofNat_of_zero_le n0
    have hn : n ≤ zs.length := by omega
    refine ⟨_, rfl, ?_⟩
    refine ⟨_, rfl, _, rfl, _, rfl, _, lq_ref up_same, ?_⟩
    rw [cut_tk]
    refine ⟨_, rfl, ?_⟩
    refine forL_inv (fun k σ G' => G' = up (up G p (hnd cs i c s t)) dp (.lst zs) ∧ ∃ y8 y11, σ = [some (.sl xs), some (.ref p), some (plD ((Fs.mk ps ws).end_ zs)), some (fo ps ws), some (plD ⟨ps, ws⟩), some (.tup [pD ps, wD ws]), some (.ref dp),  y7, y8, some (.int n), some (plD ((Fs.mk ps ws).end_ (zs.take k))), y11, none, y13, y14, y15]) ?_ ?_ ⟨rfl, some (toD S), none, ?_⟩
    · rintro k x σ G' N ex ⟨rfl, y8, y11, rfl⟩ hN
      have hk : k < n := by
        obtain ⟨h3, _⟩ := List.getElem?_eq_some_iff.mp ex
        rw [List.length_take] at h3; omega
      rw [List.getElem?_take_of_lt hk] at ex
      obtain ⟨hc, he⟩ := Fs.row_at hrow ex
      refine ⟨trivial, _, rfl, _, rfl, _, rfl, rfl, Fs.end_ok so (Fs.row_take k hrow), hc, hN _ _ ⟨rfl, y8, some x, ?_⟩⟩
      rw [he]; rfl
    · rintro σ G' ⟨rfl, y8, y11, rfl⟩
      rw [show (zs.take n).length = n by rw [List.length_take]; omega]
      have e2 := Fs.end_ok so (Fs.row_take n hrow)
      generalize hS2 : (Fs.mk ps ws).end_ (zs.take n) = S2 at e2
      refine ⟨trivial, _, rfl, _, rfl, _, _, _, _, _, S2.ps, lp _ _, ok, rfl, e2.pr, fun od i c s t wo ok => ?_⟩
      rw [cp]
      dsimp only
      refine sseq_cut (fun σ G' => G' = up (up G p (hnd cs i c s t)) dp (.lst zs) ∧ ∃ y2 y8 y9 y10 y11 y12, σ = [some (.sl xs), some (.ref p), y2, some (fo ps ws), some (plD ⟨ps, ws⟩), some (.tup [pD ps, wD ws]), some (.ref dp), y7, y8, y9, y10, y11, y12, y13, y14, y15]) (fun N hN => ?_) ?_
      · refine ⟨_, rfl, _, rfl, S2.ps, rfl, e2.pr, wo, _, rfl, ite_b (fun z => ?_) (fun _ => hN _ _ ⟨rfl, _, _, _, _, _, _, rfl⟩)⟩
        have z : canD S2.ps od = false := by simpa using z
        rw [← hS2] at z
        obtain ⟨b1, b2⟩ := ins_bad hn hrow z
        have lt : (zs.take n).length ≤ 26 := by rw [List.length_take]; omega
        have ld : (zs.drop n).length ≤ 26 := by rw [List.length_drop]; omega
        refine ⟨_, rfl, _, rfl, _, rfl, _, rfl, _, lq_ref up_same, ?_⟩
        rw [cut_tk]
        refine ⟨_, rfl, Nat.le_of_ble_eq_true rfl, _, _, rfl, rfl, (by rw [List.length_singleton]; show _ ≤ 16777216; omega), ?_⟩
        refine ⟨_, rfl, _, rfl, _, rfl, _, lq_ref up_same, ?_⟩
        rw [cut_dr]
        refine ⟨_, _, rfl, rfl, (by rw [List.length_append, List.length_singleton]; show _ ≤ 16777216; omega), ?_⟩
        refine ⟨⟨ps, ws⟩, rfl, so, .inl ⟨_, rfl, (fun y hy => ?_), (by rw [List.length_append, List.length_append, List.length_singleton]; omega), fun k y e r c => ?_, fun r => absurd r b2⟩⟩
        · rcases List.mem_append.mp hy with hy | hy
          · rcases List.mem_append.mp hy with hy | hy
            · exact hwk y (List.mem_of_mem_take hy)
            · rw [List.mem_singleton] at hy; subst hy; exact wo
          · exact hwk y (List.mem_of_mem_drop hy)
        · have := b1 k y e r c
          subst this
          refine ⟨_, rfl, Nat.le_of_ble_eq_true rfl, okN _ _, _, rfl, ite_b (fun z => ?_) (fun _ => hN _ _ ⟨rfl, _, _, _, _, _, _, rfl⟩)⟩
          simp [eqD, eqL] at z
      · rintro σ G' ⟨rfl, y2, y8, y9, y10, y11, y12, rfl⟩
        refine ⟨_, rfl, _, rfl, Nat.le_of_ble_eq_true rfl, _, _, _, _, _, _, lp _ _, ok, rfl, (by intro z; cases z), Nat.le_of_ble_eq_true rfl, Nat.le_of_ble_eq_true rfl, fun y i c s t my ok => ?_⟩
        rw [cp]
        have ky : kn OC y = true ∧ isiD .lst y = false ∧ isiD .tup y = false := by
          simp only [List.mem_cons, List.not_mem_nil, or_false] at my
          rcases my with rfl | rfl | rfl | rfl | rfl <;> exact ⟨rfl, rfl, rfl⟩
        refine ⟨⟨ps, ws⟩, rfl, so, .inr ⟨ky.1, ky.2.1, ky.2.2, ?_⟩⟩
        refine ⟨_, rfl, Nat.le_of_ble_eq_true rfl, okN _ _, _, rfl, ite_b (fun z => ?_) (fun _ => ?_)⟩
        · simp [eqD, eqL] at z
        exact ⟨_, rfl, _, fo_p (ps := ps) (ws := ws), _, rfl, _, fo_w (ps := ps) (ws := ws), Nat.le_of_ble_eq_true rfl, _, rfl, rfl, pln_pair ps ws, dn_refl (hq _)⟩
    · rw [hS]; rfl
/-! ### the walk -/
section
variable {P : Program} {w : World} {K : PySem.W.Frag} {mg : Str → Option Value} {base : Heap}
theorem sc_BadDeeds___init__ : FnScope N_BadDeeds___init__ [(Str.ofString "self"), (Str.ofString "index")] (defScope s_BadDeeds___init__) := ⟨rfl, rfl, rfl, by decide +kernel, rfl, by decide +kernel, by decide +kernel⟩
theorem FX_BadDeeds (T : Tx w K mg) : ∃ (fd : FuncData) (ps : List Str), L2.Binds K fd ps [] ∧ FnOk P w K mg base (L2.CX P w) 1 (He.ma K (ga K (Str.ofString "BadDeeds")) (Str.ofString "__init__")) fd ps (spX K (Str.ofString "BadDeeds") (Str.ofString "index")) := by
  obtain ⟨fd, F⟩ := T.d_BadDeeds___init__
  exact ⟨fd, _, (FunD.bindsN F fun _ _ _ _ _ _ us hl => match us, hl with | [_, _], _ => rfl), initX T.xf_BadDeeds F sc_BadDeeds___init__ rfl rfl (by decide +kernel) (by decide +kernel) (by decide +kernel) (by decide +kernel) (fun _ => rfl)⟩
set_option maxHeartbeats 4000000 in
theorem sc__law_up : FnScope N__law_up [(Str.ofString "_law_parents_here"), (Str.ofString "_law_house")] (defScope s__law_up) := ⟨rfl, rfl, rfl, by decide +kernel, rfl, by decide +kernel, by decide +kernel⟩
theorem F__law_up (T : Tx w K mg) : Fn3 P w K mg base (Str.ofString "_law_up") 1 sp__law_up := by
  obtain ⟨fd, F⟩ := T.d__law_up
  refine fn3 T.g__law_up F sc__law_up (FunD.bindsN F fun _ _ _ _ _ _ us hl => match us, hl with | [_, _], _ => rfl) (fun ds G Q E h => by unfold sp__law_up at h; split at h <;> first | rfl | exact h.elim) ⟨t__law_up, fun cdv A outer s H E hr => ?_, vc__law_up⟩
  have nd := (sc__law_up).nd
  have pas := pas_of (P := P) (w := w) (K := K) (mg := mg) (base := base) (N := N__law_up) (qual := (Str.ofString "_law_up")) (scope := defScope s__law_up) (f := (He.fAd K ((Str.ofString "_law_up"), none))) (cdv := cdv) (A := A) (outer := outer) (s := s) (H := H) (E := E)
  exact (scons_ (set_ 2 (lst_ true (cons_ (v_ 1) nil_)) nd)
    (scons_ (for_ (.n 3) pas rfl (irng1_ T.f_range (cons_ (bf_ b_len T.f_len (by decide +kernel) (cons_ (v_ 0) nil_)) nil_)) (tg1_ 3 nd) (scons_ (sif_ (tcm_ o_is (ix_ (v_ 0) (ix_ (v_ 2) (neg_ ci_) (fun _ _ => rfl)) (fun _ _ => rfl)) cn_ (nomark _)) (sone_ brk_) snil_)
    (sone_ (expr_ (m_ PySem.F.plainAttrs_list PySem.F.slot_list_append PySem.F.type_list_append ty_list me_append (v_ 2) (cons_ (ix_ (v_ 0) (ix_ (v_ 2) (neg_ ci_) (fun _ _ => rfl)) (fun _ _ => rfl)) nil_))))))
    (sone_ (ret_ (fz_ (v_ 2))))))
set_option maxHeartbeats 4000000 in
theorem sc__law_common : FnScope N__law_common [(Str.ofString "_law_parents_here"), (Str.ofString "_law_one"), (Str.ofString "_law_other")] (defScope s__law_common) := ⟨rfl, rfl, rfl, by decide +kernel, rfl, by decide +kernel, by decide +kernel⟩
theorem F__law_common (T : Tx w K mg) : Fn3 P w K mg base (Str.ofString "_law_common") 2 sp__law_common := by
  obtain ⟨fd, F⟩ := T.d__law_common
  refine fn3 T.g__law_common F sc__law_common (FunD.bindsN F fun _ _ _ _ _ _ us hl => match us, hl with | [_, _, _], _ => rfl) (fun ds G Q E h => by unfold sp__law_common at h; split at h <;> first | rfl | exact h.elim) ⟨t__law_common, fun cdv A outer s H E hr => ?_, vc__law_common⟩
  have nd := (sc__law_common).nd
  have tk := tk_of (P := P) (w := w) (K := K) (mg := mg) (base := base) (N := N__law_common) (qual := (Str.ofString "_law_common")) (scope := defScope s__law_common) (f := (He.fAd K ((Str.ofString "_law_common"), none))) (cdv := cdv) (A := A) (outer := outer) (s := s) (H := H) (E := E)
  have pas := pas_of (P := P) (w := w) (K := K) (mg := mg) (base := base) (N := N__law_common) (qual := (Str.ofString "_law_common")) (scope := defScope s__law_common) (f := (He.fAd K ((Str.ofString "_law_common"), none))) (cdv := cdv) (A := A) (outer := outer) (s := s) (H := H) (E := E)
  exact (scons_ (set_ 3 (call_ (F__law_up T) hr (by decide) tk (cons_ (v_ 0) (cons_ (v_ 2) nil_))) nd)
    (scons_ (for_ (.n 4) pas rfl (iseq_ (call_ (F__law_up T) hr (by decide) tk (cons_ (v_ 0) (cons_ (v_ 1) nil_)))) (tg1_ 4 nd) (sone_ (sif_ (tcm_ o_in (v_ 4) (v_ 3) rfl) (sone_ (ret_ (v_ 4))) snil_)))
    (sone_ (ret_ cn_))))
set_option maxHeartbeats 4000000 in
theorem sc__law_way : FnScope N__law_way [(Str.ofString "_law_parents_here"), (Str.ofString "_law_one"), (Str.ofString "_law_other")] (defScope s__law_way) := ⟨rfl, rfl, rfl, by decide +kernel, rfl, by decide +kernel, by decide +kernel⟩
theorem F__law_way (T : Tx w K mg) : Fn3 P w K mg base (Str.ofString "_law_way") 3 sp__law_way := by
  obtain ⟨fd, F⟩ := T.d__law_way
  refine fn3 T.g__law_way F sc__law_way (FunD.bindsN F fun _ _ _ _ _ _ us hl => match us, hl with | [_, _, _], _ => rfl) (fun ds G Q E h => by unfold sp__law_way at h; split at h <;> first | rfl | exact h.elim) ⟨t__law_way, fun cdv A outer s H E hr => ?_, vc__law_way⟩
  have nd := (sc__law_way).nd
  have tk := tk_of (P := P) (w := w) (K := K) (mg := mg) (base := base) (N := N__law_way) (qual := (Str.ofString "_law_way")) (scope := defScope s__law_way) (f := (He.fAd K ((Str.ofString "_law_way"), none))) (cdv := cdv) (A := A) (outer := outer) (s := s) (H := H) (E := E)
  exact (scons_ (set_ 3 (call_ (F__law_common T) hr (by decide) tk (cons_ (v_ 0) (cons_ (v_ 1) (cons_ (v_ 2) nil_)))) nd)
    (scons_ (sif_ (tcm_ o_is (v_ 3) cn_ (nomark _)) (sone_ (ret_ cn_)) snil_)
    (scons_ (set_ 4 (call_ (F__law_up T) hr (by decide) tk (cons_ (v_ 0) (cons_ (v_ 1) nil_))) nd)
    (scons_ (set_ 5 (call_ (F__law_up T) hr (by decide) tk (cons_ (v_ 0) (cons_ (v_ 2) nil_))) nd)
    (scons_ (set_ 6 (sl_ false (v_ 5) on_ (os_ (m_ PySem.F.plainAttrs_list PySem.F.slot_list_index PySem.F.type_list_index ty_list me_index (v_ 5) (cons_ (v_ 3) nil_)))) nd)
    (sone_ (ret_ (op_ (o_add false) (sl_ false (v_ 4) on_ (os_ (op_ (o_add false) (m_ PySem.F.plainAttrs_list PySem.F.slot_list_index PySem.F.type_list_index ty_list me_index (v_ 4) (cons_ (v_ 3) nil_)) ci_))) (lc_ (own := [((Str.ofString "_law_k"), 7)]) false (.n 7) rfl nd (irng1_ T.f_range (cons_ (bf_ b_len T.f_len (by decide +kernel) (cons_ (v_ 6) nil_)) nil_)) (blkOk_by (N := N__law_way) (sc := (defScope s__law_way)) (by decide +kernel)) (by decide) (fun _ _ _ _ _ => (tg1_ 7 nd)) (fun _ _ _ _ _ => no_if) (fun _ _ _ _ _ => (ix_ (v_ 6) (op_ o_sub (op_ o_sub (bf_ b_len T.f_len (by decide +kernel) (cons_ (v_ 6) nil_)) ci_) (v_ 7)) (fun _ _ => rfl))))))))))))
set_option maxHeartbeats 4000000 in
theorem sc__law_behind : FnScope N__law_behind [(Str.ofString "_law_plain_here"), (Str.ofString "_law_deed_here")] (defScope s__law_behind) := ⟨rfl, rfl, rfl, by decide +kernel, rfl, by decide +kernel, by decide +kernel⟩
theorem F__law_behind (T : Tx w K mg) : Fn3 P w K mg base (Str.ofString "_law_behind") 4 sp__law_behind := by
  obtain ⟨fd, F⟩ := T.d__law_behind
  refine fn3 T.g__law_behind F sc__law_behind (FunD.bindsN F fun _ _ _ _ _ _ us hl => match us, hl with | [_, _], _ => rfl) (fun ds G Q E h => by unfold sp__law_behind at h; split at h <;> first | rfl | exact h.elim) ⟨t__law_behind, fun cdv A outer s H E hr => ?_, vc__law_behind⟩
  have nd := (sc__law_behind).nd
  have tk := tk_of (P := P) (w := w) (K := K) (mg := mg) (base := base) (N := N__law_behind) (qual := (Str.ofString "_law_behind")) (scope := defScope s__law_behind) (f := (He.fAd K ((Str.ofString "_law_behind"), none))) (cdv := cdv) (A := A) (outer := outer) (s := s) (H := H) (E := E)
  have pas := pas_of (P := P) (w := w) (K := K) (mg := mg) (base := base) (N := N__law_behind) (qual := (Str.ofString "_law_behind")) (scope := defScope s__law_behind) (f := (He.fAd K ((Str.ofString "_law_behind"), none))) (cdv := cdv) (A := A) (outer := outer) (s := s) (H := H) (E := E)
  exact (scons_ (set_ 2 (bt_ (b_list true) T.f_list (by decide +kernel) (cons_ (ix_ (v_ 0) ci_ (fun _ _ => rfl)) nil_)) nd)
    (scons_ (set_ 3 (bt_ (b_list true) T.f_list (by decide +kernel) (cons_ (ix_ (v_ 0) ci_ (fun _ _ => rfl)) nil_)) nd)
    (scons_ (sif_ (tcm_ (o_eq hr) (ix_ (v_ 1) ci_ (fun _ _ => rfl)) cs_ (nomark _)) (sone_ (setIx_ se_list (v_ 2) (ix_ (v_ 1) ci_ (fun _ _ => rfl)) (ix_ (v_ 1) ci_ (fun _ _ => rfl)))) (sone_ (sif_ (tcm_ (o_eq hr) (ix_ (v_ 1) ci_ (fun _ _ => rfl)) cs_ (nomark _)) (sone_ (setIx_ se_list (v_ 2) (ix_ (v_ 1) ci_ (fun _ _ => rfl)) cn_)) (sone_ (sif_ (tcm_ (o_eq hr) (ix_ (v_ 1) ci_ (fun _ _ => rfl)) cs_ (nomark _)) (scons_ (set_ 4 (call_ (F__law_up T) hr (by decide) tk (cons_ (v_ 2) (cons_ (ix_ (v_ 1) ci_ (fun _ _ => rfl)) nil_))) nd)
    (scons_ (setIx_ se_list (v_ 2) (ix_ (v_ 1) ci_ (fun _ _ => rfl)) cn_)
    (sone_ (for_ (.n 5) pas rfl (irng1_ T.f_range (cons_ (op_ o_sub (bf_ b_len T.f_len (by decide +kernel) (cons_ (v_ 4) nil_)) ci_) nil_)) (tg1_ 5 nd) (sone_ (setIx_ se_list (v_ 2) (ix_ (v_ 4) (op_ (o_add false) (v_ 5) ci_) (fun _ _ => rfl)) (ix_ (v_ 4) (v_ 5) (fun _ _ => rfl)))))))) (sone_ (sif_ (tcm_ (o_eq hr) (ix_ (v_ 1) ci_ (fun _ _ => rfl)) cs_ (nomark _)) (sone_ (setIx_ se_list (v_ 3) (ix_ (v_ 1) ci_ (fun _ _ => rfl)) (ix_ (v_ 1) ci_ (fun _ _ => rfl)))) (sone_ (for_ (.n 6) pas rfl (iseq_ (call_ (F__law_way T) hr (by decide) tk (cons_ (v_ 2) (cons_ (ix_ (v_ 1) ci_ (fun _ _ => rfl)) (cons_ (ix_ (v_ 1) ci_ (fun _ _ => rfl)) nil_))))) (tg1_ 6 nd) (sone_ (setIx_ se_list (v_ 3) (v_ 6) (op_ (o_add false) (ix_ (v_ 3) (v_ 6) (fun _ _ => rfl)) (ix_ (v_ 1) ci_ (fun _ _ => rfl))))))))))))))
    (sone_ (ret_ (lst_ false (cons_ (fz_ (v_ 2)) (cons_ (fz_ (v_ 3)) nil_))))))))
set_option maxHeartbeats 4000000 in
theorem sc__law_is_integer : FnScope N__law_is_integer [(Str.ofString "_law_thing")] (defScope s__law_is_integer) := ⟨rfl, rfl, rfl, by decide +kernel, rfl, by decide +kernel, by decide +kernel⟩
theorem F__law_is_integer (T : Tx w K mg) : Fn3 P w K mg base (Str.ofString "_law_is_integer") 1 sp__law_is_integer := by
  obtain ⟨fd, F⟩ := T.d__law_is_integer
  refine fn3 T.g__law_is_integer F sc__law_is_integer (FunD.bindsN F fun _ _ _ _ _ _ us hl => match us, hl with | [_], _ => rfl) (fun ds G Q E h => by unfold sp__law_is_integer at h; split at h <;> first | rfl | exact h.elim) ⟨t__law_is_integer, fun cdv A outer s H E hr => ?_, vc__law_is_integer⟩
  have nd := (sc__law_is_integer).nd
  exact (sone_ (ret_ (and_ (isi_ T.f_isinstance (isc_b .int T.f_int) (tb_b T.isf .int) (v_ 0)) (one_ (not_ (isi_ T.f_isinstance (isc_b .bl T.f_bool) (tb_b T.isf .bl) (v_ 0)))))))
set_option maxHeartbeats 4000000 in
theorem sc__law_is_within : FnScope N__law_is_within [(Str.ofString "_law_thing"), (Str.ofString "_law_least"), (Str.ofString "_law_most")] (defScope s__law_is_within) := ⟨rfl, rfl, rfl, by decide +kernel, rfl, by decide +kernel, by decide +kernel⟩
theorem F__law_is_within (T : Tx w K mg) : Fn3 P w K mg base (Str.ofString "_law_is_within") 2 sp__law_is_within := by
  obtain ⟨fd, F⟩ := T.d__law_is_within
  refine fn3 T.g__law_is_within F sc__law_is_within (FunD.bindsN F fun _ _ _ _ _ _ us hl => match us, hl with | [_, _, _], _ => rfl) (fun ds G Q E h => by unfold sp__law_is_within at h; split at h <;> first | rfl | exact h.elim) ⟨t__law_is_within, fun cdv A outer s H E hr => ?_, vc__law_is_within⟩
  have nd := (sc__law_is_within).nd
  have tk := tk_of (P := P) (w := w) (K := K) (mg := mg) (base := base) (N := N__law_is_within) (qual := (Str.ofString "_law_is_within")) (scope := defScope s__law_is_within) (f := (He.fAd K ((Str.ofString "_law_is_within"), none))) (cdv := cdv) (A := A) (outer := outer) (s := s) (H := H) (E := E)
  exact (sone_ (ret_ (and_ (call_ (F__law_is_integer T) hr (by decide) tk (cons_ (v_ 0) nil_)) (and_ (cm_ o_le (v_ 1) (v_ 0) (nomark _)) (one_ (cm_ o_le (v_ 0) (v_ 2) (nomark _)))))))
set_option maxHeartbeats 4000000 in
theorem sc__law_are_houses : FnScope N__law_are_houses [(Str.ofString "_law_size"), (Str.ofString "_law_things")] (defScope s__law_are_houses) := ⟨rfl, rfl, rfl, by decide +kernel, rfl, by decide +kernel, by decide +kernel⟩
theorem F__law_are_houses (T : Tx w K mg) : Fn3 P w K mg base (Str.ofString "_law_are_houses") 3 sp__law_are_houses := by
  obtain ⟨fd, F⟩ := T.d__law_are_houses
  refine fn3 T.g__law_are_houses F sc__law_are_houses (FunD.bindsN F fun _ _ _ _ _ _ us hl => match us, hl with | [_, _], _ => rfl) (fun ds G Q E h => by unfold sp__law_are_houses at h; split at h <;> first | rfl | exact h.elim) ⟨t__law_are_houses, fun cdv A outer s H E hr => ?_, vc__law_are_houses⟩
  have nd := (sc__law_are_houses).nd
  exact (sone_ (ret_ (cm_ (o_eq hr) (bf_ b_len T.f_len (by decide +kernel) (cons_ (lc_ (own := [((Str.ofString "_law_thing"), 2)]) false (.n 2) rfl nd (iseq_ (v_ 1)) (blkOk_by (N := N__law_are_houses) (sc := (defScope s__law_are_houses)) (by decide +kernel)) (by decide) (fun _ _ _ _ _ => (tg1_ 2 nd)) (fun _ _ _ _ _ => (if1_ (tnot_ (tv_ (call_ (F__law_is_within T) hr (by decide) takes_none5 (cons_ (v_ 2) (cons_ ci_ (cons_ (op_ o_sub (v_ 0) ci_) nil_)))))))) (fun _ _ _ _ _ => (v_ 2))) nil_)) ci_ (nomark _))))
set_option maxHeartbeats 4000000 in
theorem sc__law_deed_form : FnScope N__law_deed_form [(Str.ofString "_law_size"), (Str.ofString "_law_thing")] (defScope s__law_deed_form) := ⟨rfl, rfl, rfl, by decide +kernel, rfl, by decide +kernel, by decide +kernel⟩
theorem F__law_deed_form (T : Tx w K mg) : Fn3 P w K mg base (Str.ofString "_law_deed_form") 4 sp__law_deed_form := by
  obtain ⟨fd, F⟩ := T.d__law_deed_form
  refine fn3 T.g__law_deed_form F sc__law_deed_form (FunD.bindsN F fun _ _ _ _ _ _ us hl => match us, hl with | [_, _], _ => rfl) (fun ds G Q E h => by unfold sp__law_deed_form at h; split at h <;> first | rfl | exact h.elim) ⟨t__law_deed_form, fun cdv A outer s H E hr => ?_, vc__law_deed_form⟩
  have nd := (sc__law_deed_form).nd
  have tk := tk_of (P := P) (w := w) (K := K) (mg := mg) (base := base) (N := N__law_deed_form) (qual := (Str.ofString "_law_deed_form")) (scope := defScope s__law_deed_form) (f := (He.fAd K ((Str.ofString "_law_deed_form"), none))) (cdv := cdv) (A := A) (outer := outer) (s := s) (H := H) (E := E)
  exact (scons_ (sif_ (tw_ (wor_ (tnot_ (tv_ (isi_ T.f_isinstance (isc_b .tup T.f_tuple) (tb_b T.isf .tup) (v_ 1)))) (wor_ (tcm_ o_lt (bf_ b_len T.f_len (by decide +kernel) (cons_ (v_ 1) nil_)) ci_ (nomark _)) (w1or_ (tnot_ (tv_ (isi_ T.f_isinstance (isc_b .str T.f_str) (tb_b T.isf .str) (ix_ (v_ 1) ci_ (fun _ _ => rfl))))))))) (sone_ (ret_ cb_)) snil_)
    (scons_ (sif_ (tcm_ o_in (ix_ (v_ 1) ci_ (fun _ _ => rfl)) (lst_ false (cons_ cs_ (cons_ cs_ nil_))) rfl) (sone_ (ret_ (and_ (cm_ (o_eq hr) (bf_ b_len T.f_len (by decide +kernel) (cons_ (v_ 1) nil_)) ci_ (nomark _)) (one_ (call_ (F__law_are_houses T) hr (by decide) tk (cons_ (v_ 0) (cons_ (sl_ false (v_ 1) (os_ ci_) on_) nil_))))))) snil_)
    (scons_ (sif_ (tcm_ (o_eq hr) (ix_ (v_ 1) ci_ (fun _ _ => rfl)) cs_ (nomark _)) (sone_ (ret_ (and_ (cm_ (o_eq hr) (bf_ b_len T.f_len (by decide +kernel) (cons_ (v_ 1) nil_)) ci_ (nomark _)) (one_ (call_ (F__law_are_houses T) hr (by decide) tk (cons_ (v_ 0) (cons_ (sl_ false (v_ 1) (os_ ci_) on_) nil_))))))) snil_)
    (scons_ (sif_ (tcm_ (o_eq hr) (ix_ (v_ 1) ci_ (fun _ _ => rfl)) cs_ (nomark _)) (sone_ (ret_ (and_ (cm_ (o_eq hr) (bf_ b_len T.f_len (by decide +kernel) (cons_ (v_ 1) nil_)) ci_ (nomark _)) (and_ (call_ (F__law_are_houses T) hr (by decide) tk (cons_ (v_ 0) (cons_ (sl_ false (v_ 1) (os_ ci_) (os_ ci_)) nil_))) (one_ (call_ (F__law_is_integer T) hr (by decide) tk (cons_ (ix_ (v_ 1) ci_ (fun _ _ => rfl)) nil_))))))) snil_)
    (sone_ (ret_ (and_ (cm_ (o_eq hr) (ix_ (v_ 1) ci_ (fun _ _ => rfl)) cs_ (nomark _)) (and_ (cm_ (o_eq hr) (bf_ b_len T.f_len (by decide +kernel) (cons_ (v_ 1) nil_)) ci_ (nomark _)) (and_ (call_ (F__law_are_houses T) hr (by decide) tk (cons_ (v_ 0) (cons_ (sl_ false (v_ 1) (os_ ci_) (os_ ci_)) nil_))) (one_ (call_ (F__law_is_integer T) hr (by decide) tk (cons_ (ix_ (v_ 1) ci_ (fun _ _ => rfl)) nil_))))))))))))
set_option maxHeartbeats 4000000 in
theorem sc__law_root : FnScope N__law_root [(Str.ofString "_law_parents_here"), (Str.ofString "_law_house")] (defScope s__law_root) := ⟨rfl, rfl, rfl, by decide +kernel, rfl, by decide +kernel, by decide +kernel⟩
theorem F__law_root (T : Tx w K mg) : Fn3 P w K mg base (Str.ofString "_law_root") 2 sp__law_root := by
  obtain ⟨fd, F⟩ := T.d__law_root
  refine fn3 T.g__law_root F sc__law_root (FunD.bindsN F fun _ _ _ _ _ _ us hl => match us, hl with | [_, _], _ => rfl) (fun ds G Q E h => by unfold sp__law_root at h; split at h <;> first | rfl | exact h.elim) ⟨t__law_root, fun cdv A outer s H E hr => ?_, vc__law_root⟩
  have nd := (sc__law_root).nd
  have tk := tk_of (P := P) (w := w) (K := K) (mg := mg) (base := base) (N := N__law_root) (qual := (Str.ofString "_law_root")) (scope := defScope s__law_root) (f := (He.fAd K ((Str.ofString "_law_root"), none))) (cdv := cdv) (A := A) (outer := outer) (s := s) (H := H) (E := E)
  exact (sone_ (ret_ (ix_ (call_ (F__law_up T) hr (by decide) tk (cons_ (v_ 0) (cons_ (v_ 1) nil_))) (neg_ ci_) (fun _ _ => rfl))))
set_option maxHeartbeats 4000000 in
theorem sc__law_can : FnScope N__law_can [(Str.ofString "_law_plain_here"), (Str.ofString "_law_thing")] (defScope s__law_can) := ⟨rfl, rfl, rfl, by decide +kernel, rfl, by decide +kernel, by decide +kernel⟩
theorem F__law_can (T : Tx w K mg) : Fn3 P w K mg base (Str.ofString "_law_can") 5 sp__law_can := by
  obtain ⟨fd, F⟩ := T.d__law_can
  refine fn3 T.g__law_can F sc__law_can (FunD.bindsN F fun _ _ _ _ _ _ us hl => match us, hl with | [_, _], _ => rfl) (fun ds G Q E h => by unfold sp__law_can at h; split at h <;> first | rfl | exact h.elim) ⟨t__law_can, fun cdv A outer s H E hr => ?_, vc__law_can⟩
  have nd := (sc__law_can).nd
  have tk := tk_of (P := P) (w := w) (K := K) (mg := mg) (base := base) (N := N__law_can) (qual := (Str.ofString "_law_can")) (scope := defScope s__law_can) (f := (He.fAd K ((Str.ofString "_law_can"), none))) (cdv := cdv) (A := A) (outer := outer) (s := s) (H := H) (E := E)
  exact (scons_ (set_ 2 (ix_ (v_ 0) ci_ (fun _ _ => rfl)) nd)
    (scons_ (sif_ (tnot_ (tv_ (call_ (F__law_deed_form T) hr (by decide) tk (cons_ (bf_ b_len T.f_len (by decide +kernel) (cons_ (v_ 2) nil_)) (cons_ (v_ 1) nil_))))) (sone_ (ret_ cb_)) snil_)
    (scons_ (sif_ (tcm_ (o_eq hr) (ix_ (v_ 1) ci_ (fun _ _ => rfl)) cs_ (nomark _)) (sone_ (ret_ (and_ (cm_ o_is (ix_ (v_ 2) (ix_ (v_ 1) ci_ (fun _ _ => rfl)) (fun _ _ => rfl)) cn_ (nomark _)) (one_ (cm_ (o_ne hr) (call_ (F__law_root T) hr (by decide) tk (cons_ (v_ 2) (cons_ (ix_ (v_ 1) ci_ (fun _ _ => rfl)) nil_))) (ix_ (v_ 1) ci_ (fun _ _ => rfl)) (nomark _)))))) snil_)
    (scons_ (sif_ (tcm_ (o_eq hr) (ix_ (v_ 1) ci_ (fun _ _ => rfl)) cs_ (nomark _)) (sone_ (ret_ (cm_ o_isnot (ix_ (v_ 2) (ix_ (v_ 1) ci_ (fun _ _ => rfl)) (fun _ _ => rfl)) cn_ (nomark _)))) snil_)
    (sone_ (ret_ (or_ (cm_ (o_ne hr) (ix_ (v_ 1) ci_ (fun _ _ => rfl)) cs_ (nomark _)) (one_ (cm_ o_isnot (call_ (F__law_common T) hr (by decide) tk (cons_ (v_ 2) (cons_ (ix_ (v_ 1) ci_ (fun _ _ => rfl)) (cons_ (ix_ (v_ 1) ci_ (fun _ _ => rfl)) nil_)))) cn_ (nomark _))))))))))
set_option maxHeartbeats 4000000 in
theorem sc_comes_to_none : FnScope N_comes_to_none [(Str.ofString "parents"), (Str.ofString "house")] (defScope s_comes_to_none) := ⟨rfl, rfl, rfl, by decide +kernel, rfl, by decide +kernel, by decide +kernel⟩
theorem F_comes_to_none (T : Tx w K mg) : Fn3 P w K mg base (Str.ofString "comes_to_none") 1 sp_comes_to_none := by
  obtain ⟨fd, F⟩ := T.d_comes_to_none
  refine fn3 T.g_comes_to_none F sc_comes_to_none (FunD.bindsN F fun _ _ _ _ _ _ us hl => match us, hl with | [_, _], _ => rfl) (fun ds G Q E h => by unfold sp_comes_to_none at h; split at h <;> first | rfl | exact h.elim) ⟨t_comes_to_none, fun cdv A outer s H E hr => ?_, vc_comes_to_none⟩
  have nd := (sc_comes_to_none).nd
  have pas := pas_of (P := P) (w := w) (K := K) (mg := mg) (base := base) (N := N_comes_to_none) (qual := (Str.ofString "comes_to_none")) (scope := defScope s_comes_to_none) (f := (He.fAd K ((Str.ofString "comes_to_none"), none))) (cdv := cdv) (A := A) (outer := outer) (s := s) (H := H) (E := E)
  exact (scons_ (set_ 2 (v_ 1) nd)
    (scons_ (for_ (.n 3) pas rfl (irng1_ T.f_range (cons_ (bf_ b_len T.f_len (by decide +kernel) (cons_ (v_ 0) nil_)) nil_)) (tg1_ 3 nd) (scons_ (set_ 2 (ix_ (v_ 0) (v_ 2) (fun _ _ => rfl)) nd)
    (sone_ (sif_ (tcm_ o_is (v_ 2) cn_ (nomark _)) (sone_ (ret_ cb_)) snil_))))
    (sone_ (ret_ cb_))))
set_option maxHeartbeats 4000000 in
theorem sc_is_integer : FnScope N_is_integer [(Str.ofString "thing")] (defScope s_is_integer) := ⟨rfl, rfl, rfl, by decide +kernel, rfl, by decide +kernel, by decide +kernel⟩
theorem F_is_integer (T : Tx w K mg) : Fn3 P w K mg base (Str.ofString "is_integer") 1 sp_is_integer := by
  obtain ⟨fd, F⟩ := T.d_is_integer
  refine fn3 T.g_is_integer F sc_is_integer (FunD.bindsN F fun _ _ _ _ _ _ us hl => match us, hl with | [_], _ => rfl) (fun ds G Q E h => by unfold sp_is_integer at h; split at h <;> first | rfl | exact h.elim) ⟨t_is_integer, fun cdv A outer s H E hr => ?_, vc_is_integer⟩
  have nd := (sc_is_integer).nd
  exact (sone_ (ret_ (and_ (isi_ T.f_isinstance (isc_b .int T.f_int) (tb_b T.isf .int) (v_ 0)) (one_ (not_ (isi_ T.f_isinstance (isc_b .bl T.f_bool) (tb_b T.isf .bl) (v_ 0)))))))
set_option maxHeartbeats 4000000 in
theorem sc_is_within : FnScope N_is_within [(Str.ofString "thing"), (Str.ofString "least"), (Str.ofString "most")] (defScope s_is_within) := ⟨rfl, rfl, rfl, by decide +kernel, rfl, by decide +kernel, by decide +kernel⟩
theorem F_is_within (T : Tx w K mg) : Fn3 P w K mg base (Str.ofString "is_within") 2 sp_is_within := by
  obtain ⟨fd, F⟩ := T.d_is_within
  refine fn3 T.g_is_within F sc_is_within (FunD.bindsN F fun _ _ _ _ _ _ us hl => match us, hl with | [_, _, _], _ => rfl) (fun ds G Q E h => by unfold sp_is_within at h; split at h <;> first | rfl | exact h.elim) ⟨t_is_within, fun cdv A outer s H E hr => ?_, vc_is_within⟩
  have nd := (sc_is_within).nd
  have tk := tk_of (P := P) (w := w) (K := K) (mg := mg) (base := base) (N := N_is_within) (qual := (Str.ofString "is_within")) (scope := defScope s_is_within) (f := (He.fAd K ((Str.ofString "is_within"), none))) (cdv := cdv) (A := A) (outer := outer) (s := s) (H := H) (E := E)
  exact (sone_ (ret_ (and_ (call_ (F_is_integer T) hr (by decide) tk (cons_ (v_ 0) nil_)) (one_ (ch_ o_le o_le (v_ 1) (v_ 0) (v_ 2))))))
set_option maxHeartbeats 4000000 in
theorem sc_is_below : FnScope N_is_below [(Str.ofString "thing"), (Str.ofString "many")] (defScope s_is_below) := ⟨rfl, rfl, rfl, by decide +kernel, rfl, by decide +kernel, by decide +kernel⟩
theorem F_is_below (T : Tx w K mg) : Fn3 P w K mg base (Str.ofString "is_below") 3 sp_is_below := by
  obtain ⟨fd, F⟩ := T.d_is_below
  refine fn3 T.g_is_below F sc_is_below (FunD.bindsN F fun _ _ _ _ _ _ us hl => match us, hl with | [_, _], _ => rfl) (fun ds G Q E h => by unfold sp_is_below at h; split at h <;> first | rfl | exact h.elim) ⟨t_is_below, fun cdv A outer s H E hr => ?_, vc_is_below⟩
  have nd := (sc_is_below).nd
  have tk := tk_of (P := P) (w := w) (K := K) (mg := mg) (base := base) (N := N_is_below) (qual := (Str.ofString "is_below")) (scope := defScope s_is_below) (f := (He.fAd K ((Str.ofString "is_below"), none))) (cdv := cdv) (A := A) (outer := outer) (s := s) (H := H) (E := E)
  exact (sone_ (ret_ (call_ (F_is_within T) hr (by decide) tk (cons_ (v_ 0) (cons_ ci_ (cons_ (op_ o_sub (v_ 1) ci_) nil_))))))
set_option maxHeartbeats 4000000 in
theorem sc_is_sized : FnScope N_is_sized [(Str.ofString "thing"), (Str.ofString "least"), (Str.ofString "most")] (defScope s_is_sized) := ⟨rfl, rfl, rfl, by decide +kernel, rfl, by decide +kernel, by decide +kernel⟩
theorem F_is_sized (T : Tx w K mg) : Fn3 P w K mg base (Str.ofString "is_sized") 1 sp_is_sized := by
  obtain ⟨fd, F⟩ := T.d_is_sized
  refine fn3 T.g_is_sized F sc_is_sized (FunD.bindsN F fun _ _ _ _ _ _ us hl => match us, hl with | [_, _, _], _ => rfl) (fun ds G Q E h => by unfold sp_is_sized at h; split at h <;> first | rfl | exact h.elim) ⟨t_is_sized, fun cdv A outer s H E hr => ?_, vc_is_sized⟩
  have nd := (sc_is_sized).nd
  exact (sone_ (ret_ (and_ (isi_ T.f_isinstance (isc_b .tup T.f_tuple) (tb_b T.isf .tup) (v_ 0)) (one_ (ch_ o_le o_le (v_ 1) (bf_ b_len T.f_len (by decide +kernel) (cons_ (v_ 0) nil_)) (v_ 2))))))
set_option maxHeartbeats 4000000 in
theorem sc_are_parents : FnScope N_are_parents [(Str.ofString "thing")] (defScope s_are_parents) := ⟨rfl, rfl, rfl, by decide +kernel, rfl, by decide +kernel, by decide +kernel⟩
theorem F_are_parents (T : Tx w K mg) : Fn3 P w K mg base (Str.ofString "are_parents") 4 sp_are_parents := by
  obtain ⟨fd, F⟩ := T.d_are_parents
  refine fn3 T.g_are_parents F sc_are_parents (FunD.bindsN F fun _ _ _ _ _ _ us hl => match us, hl with | [_], _ => rfl) (fun ds G Q E h => by unfold sp_are_parents at h; split at h <;> first | rfl | exact h.elim) ⟨t_are_parents, fun cdv A outer s H E hr => ?_, vc_are_parents⟩
  have nd := (sc_are_parents).nd
  have tk := tk_of (P := P) (w := w) (K := K) (mg := mg) (base := base) (N := N_are_parents) (qual := (Str.ofString "are_parents")) (scope := defScope s_are_parents) (f := (He.fAd K ((Str.ofString "are_parents"), none))) (cdv := cdv) (A := A) (outer := outer) (s := s) (H := H) (E := E)
  exact (scons_ (sif_ (tnot_ (tv_ (call_ (F_is_sized T) hr (by decide) tk (cons_ (v_ 0) (cons_ ci_ (cons_ (cgi_ T.i_MOST_HOUSES) nil_)))))) (sone_ (ret_ cb_)) snil_)
    (scons_ (sif_ (tnot_ (tv_ (bf_ (b_all rfl) T.f_all (by decide +kernel) (cons_ (lc_ (own := [((Str.ofString "item"), 2)]) false (.n 2) rfl nd (iseq_ (v_ 0)) (blkOk_by (N := N_are_parents) (sc := (defScope s_are_parents)) (by decide +kernel)) (by decide) (fun _ _ _ _ _ => (tg1_ 2 nd)) (fun _ _ _ _ _ => no_if) (fun _ _ _ _ _ => (or_ (cm_ o_is (v_ 2) cn_ (nomark _)) (one_ (call_ (F_is_below T) hr (by decide) takes_none5 (cons_ (v_ 2) (cons_ (bf_ b_len T.f_len (by decide +kernel) (cons_ (v_ 0) nil_)) nil_))))))) nil_)))) (sone_ (ret_ cb_)) snil_)
    (sone_ (ret_ (bf_ (b_all rfl) T.f_all (by decide +kernel) (cons_ (lc_ (own := [((Str.ofString "house"), 1)]) false (.n 1) rfl nd (irng1_ T.f_range (cons_ (bf_ b_len T.f_len (by decide +kernel) (cons_ (v_ 0) nil_)) nil_)) (blkOk_by (N := N_are_parents) (sc := (defScope s_are_parents)) (by decide +kernel)) (by decide) (fun _ _ _ _ _ => (tg1_ 1 nd)) (fun _ _ _ _ _ => no_if) (fun _ _ _ _ _ => (call_ (F_comes_to_none T) hr (by decide) takes_none5 (cons_ (v_ 0) (cons_ (v_ 1) nil_))))) nil_))))))
set_option maxHeartbeats 4000000 in
theorem sc_Forest___init__ : FnScope N_Forest___init__ [(Str.ofString "self"), (Str.ofString "parents"), (Str.ofString "worths")] (defScope s_Forest___init__) := ⟨rfl, rfl, rfl, by decide +kernel, rfl, by decide +kernel, by decide +kernel⟩
theorem F_Forest___init__ (T : Tx w K mg) : Mn3 P w K mg base (He.fAd K ((Str.ofString "Forest"), some (Str.ofString "__init__"))) 5 sp_Forest___init__ := by
  obtain ⟨fd, F⟩ := T.d_Forest___init__
  refine ⟨fd, _, (FunD.bindsN F fun _ _ _ _ _ _ us hl => match us, hl with | [_, _, _], _ => rfl), fn3_of F sc_Forest___init__ (fun ds G Q E h => by unfold sp_Forest___init__ at h; split at h <;> first | rfl | exact h.elim) ⟨t_Forest___init__, fun cdv A outer s H E hr => ?_, vc_Forest___init__⟩⟩
  have nd := (sc_Forest___init__).nd
  have tk := tk_of (P := P) (w := w) (K := K) (mg := mg) (base := base) (N := N_Forest___init__) (qual := (Str.ofString "Forest.__init__")) (scope := defScope s_Forest___init__) (f := (He.fAd K ((Str.ofString "Forest"), some (Str.ofString "__init__")))) (cdv := cdv) (A := A) (outer := outer) (s := s) (H := H) (E := E)
  exact (scons_ (sif_ (tnot_ (tv_ (call_ (F_are_parents T) hr (by decide) tk (cons_ (v_ 1) nil_)))) (sone_ sdead_) snil_)
    (scons_ (sif_ (tw_ (wor_ (tnot_ (tv_ (call_ (F_is_sized T) hr (by decide) tk (cons_ (v_ 2) (cons_ (bf_ b_len T.f_len (by decide +kernel) (cons_ (v_ 1) nil_)) (cons_ (bf_ b_len T.f_len (by decide +kernel) (cons_ (v_ 1) nil_)) nil_)))))) (w1or_ (tnot_ (tv_ (bf_ (b_all rfl) T.f_all (by decide +kernel) (cons_ (lc_ (own := [((Str.ofString "value"), 3)]) false (.n 3) rfl nd (iseq_ (v_ 2)) (blkOk_by (N := N_Forest___init__) (sc := (defScope s_Forest___init__)) (by decide +kernel)) (by decide) (fun _ _ _ _ _ => (tg1_ 3 nd)) (fun _ _ _ _ _ => no_if) (fun _ _ _ _ _ => (call_ (F_is_integer T) hr (by decide) takes_none5 (cons_ (v_ 3) nil_)))) nil_))))))) (sone_ sdead_) snil_)
    (scons_ (sfld_ (Str.ofString "Forest") T.c_Forest T.n_Forest_parents (v_ 0) (v_ 1))
    (sone_ (sfld_ (Str.ofString "Forest") T.c_Forest T.n_Forest_worths (v_ 0) (v_ 2))))))
set_option maxHeartbeats 4000000 in
theorem sc__law_forest_of : FnScope N__law_forest_of [(Str.ofString "_law_plain_here")] (defScope s__law_forest_of) := ⟨rfl, rfl, rfl, by decide +kernel, rfl, by decide +kernel, by decide +kernel⟩
theorem F__law_forest_of (T : Tx w K mg) : Fn3 P w K mg base (Str.ofString "_law_forest_of") 7 sp__law_forest_of := by
  obtain ⟨fd, F⟩ := T.d__law_forest_of
  refine fn3 T.g__law_forest_of F sc__law_forest_of (FunD.bindsN F fun _ _ _ _ _ _ us hl => match us, hl with | [_], _ => rfl) (fun ds G Q E h => by unfold sp__law_forest_of at h; split at h <;> first | rfl | exact h.elim) ⟨t__law_forest_of, fun cdv A outer s H E hr => ?_, vc__law_forest_of⟩
  have nd := (sc__law_forest_of).nd
  have tk := tk_of (P := P) (w := w) (K := K) (mg := mg) (base := base) (N := N__law_forest_of) (qual := (Str.ofString "_law_forest_of")) (scope := defScope s__law_forest_of) (f := (He.fAd K ((Str.ofString "_law_forest_of"), none))) (cdv := cdv) (A := A) (outer := outer) (s := s) (H := H) (E := E)
  exact (sone_ (ret_ (fz_ (mk_ T.m_Forest (F_Forest___init__ T) T.g_Forest hr (by decide) tk (cons_ (bt_ b_tup T.f_tuple (by decide +kernel) (cons_ (ix_ (v_ 0) ci_ (fun _ _ => rfl)) nil_)) (cons_ (bt_ b_tup T.f_tuple (by decide +kernel) (cons_ (ix_ (v_ 0) ci_ (fun _ _ => rfl)) nil_)) nil_))))))
set_option maxHeartbeats 4000000 in
theorem sc__law_hand : FnScope N__law_hand [(Str.ofString "_law_script")] (defScope s__law_hand) := ⟨rfl, rfl, rfl, by decide +kernel, rfl, by decide +kernel, by decide +kernel⟩
theorem F__law_hand (T : Tx w K mg) : Fn3 P w K mg base (Str.ofString "_law_hand") 1 sp__law_hand := by
  obtain ⟨fd, F⟩ := T.d__law_hand
  refine fn3 T.g__law_hand F sc__law_hand (FunD.bindsN F fun _ _ _ _ _ _ us hl => match us, hl with | [_], _ => rfl) (fun ds G Q E h => by unfold sp__law_hand at h; split at h <;> first | rfl | exact h.elim) ⟨t__law_hand, fun cdv A outer s H E hr => ?_, vc__law_hand⟩
  have nd := (sc__law_hand).nd
  exact (sone_ (ret_ (lst_ true (cons_ (bt_ (b_list false) T.f_list (by decide +kernel) (cons_ (v_ 0) nil_)) (cons_ ci_ (cons_ ci_ (cons_ ci_ (cons_ ci_ nil_))))))))
set_option maxHeartbeats 4000000 in
theorem sc_up_from : FnScope N_up_from [(Str.ofString "parents"), (Str.ofString "house")] (defScope s_up_from) := ⟨rfl, rfl, rfl, by decide +kernel, rfl, by decide +kernel, by decide +kernel⟩
theorem F_up_from (T : Tx w K mg) : Fn3 P w K mg base (Str.ofString "up_from") 1 sp_up_from := by
  obtain ⟨fd, F⟩ := T.d_up_from
  refine fn3 T.g_up_from F sc_up_from (FunD.bindsN F fun _ _ _ _ _ _ us hl => match us, hl with | [_, _], _ => rfl) (fun ds G Q E h => by unfold sp_up_from at h; split at h <;> first | rfl | exact h.elim) ⟨t_up_from, fun cdv A outer s H E hr => ?_, vc_up_from⟩
  have nd := (sc_up_from).nd
  have pas := pas_of (P := P) (w := w) (K := K) (mg := mg) (base := base) (N := N_up_from) (qual := (Str.ofString "up_from")) (scope := defScope s_up_from) (f := (He.fAd K ((Str.ofString "up_from"), none))) (cdv := cdv) (A := A) (outer := outer) (s := s) (H := H) (E := E)
  exact (scons_ (set_ 2 (lst_ true (cons_ (v_ 1) nil_)) nd)
    (scons_ (while_ pas (tcm_ o_isnot (ix_ (v_ 0) (ix_ (v_ 2) (neg_ ci_) (fun _ _ => rfl)) (fun _ _ => rfl)) cn_ (nomark _)) (sone_ (expr_ (m_ PySem.F.plainAttrs_list PySem.F.slot_list_append PySem.F.type_list_append ty_list me_append (v_ 2) (cons_ (ix_ (v_ 0) (ix_ (v_ 2) (neg_ ci_) (fun _ _ => rfl)) (fun _ _ => rfl)) nil_)))))
    (sone_ (ret_ (fz_ (v_ 2))))))
set_option maxHeartbeats 4000000 in
theorem sc_common_of : FnScope N_common_of [(Str.ofString "parents"), (Str.ofString "one"), (Str.ofString "other")] (defScope s_common_of) := ⟨rfl, rfl, rfl, by decide +kernel, rfl, by decide +kernel, by decide +kernel⟩
theorem F_common_of (T : Tx w K mg) : Fn3 P w K mg base (Str.ofString "common_of") 2 sp_common_of := by
  obtain ⟨fd, F⟩ := T.d_common_of
  refine fn3 T.g_common_of F sc_common_of (FunD.bindsN F fun _ _ _ _ _ _ us hl => match us, hl with | [_, _, _], _ => rfl) (fun ds G Q E h => by unfold sp_common_of at h; split at h <;> first | rfl | exact h.elim) ⟨t_common_of, fun cdv A outer s H E hr => ?_, vc_common_of⟩
  have nd := (sc_common_of).nd
  have tk := tk_of (P := P) (w := w) (K := K) (mg := mg) (base := base) (N := N_common_of) (qual := (Str.ofString "common_of")) (scope := defScope s_common_of) (f := (He.fAd K ((Str.ofString "common_of"), none))) (cdv := cdv) (A := A) (outer := outer) (s := s) (H := H) (E := E)
  have pas := pas_of (P := P) (w := w) (K := K) (mg := mg) (base := base) (N := N_common_of) (qual := (Str.ofString "common_of")) (scope := defScope s_common_of) (f := (He.fAd K ((Str.ofString "common_of"), none))) (cdv := cdv) (A := A) (outer := outer) (s := s) (H := H) (E := E)
  exact (scons_ (set_ 3 (bt_ (b_dict rfl) T.f_dict (by decide +kernel) (cons_ (lc_ (own := [((Str.ofString "house"), 4)]) false (.n 4) rfl nd (iseq_ (call_ (F_up_from T) hr (by decide) tk (cons_ (v_ 0) (cons_ (v_ 1) nil_)))) (blkOk_by (N := N_common_of) (sc := (defScope s_common_of)) (by decide +kernel)) (by decide) (fun _ _ _ _ _ => (tg1_ 4 nd)) (fun _ _ _ _ _ => no_if) (fun _ _ _ _ _ => (tup_ (cons_ (v_ 4) (cons_ cb_ nil_))))) nil_)) nd)
    (scons_ (for_ (.n 4) pas rfl (iseq_ (call_ (F_up_from T) hr (by decide) tk (cons_ (v_ 0) (cons_ (v_ 2) nil_)))) (tg1_ 4 nd) (sone_ (sif_ (tdin_ hr (v_ 4) (v_ 3)) (sone_ (ret_ (v_ 4))) snil_)))
    (sone_ (ret_ cn_))))
set_option maxHeartbeats 4000000 in
theorem sc_way_of : FnScope N_way_of [(Str.ofString "parents"), (Str.ofString "one"), (Str.ofString "other")] (defScope s_way_of) := ⟨rfl, rfl, rfl, by decide +kernel, rfl, by decide +kernel, by decide +kernel⟩
theorem F_way_of (T : Tx w K mg) : Fn3 P w K mg base (Str.ofString "way_of") 3 sp_way_of := by
  obtain ⟨fd, F⟩ := T.d_way_of
  refine fn3 T.g_way_of F sc_way_of (FunD.bindsN F fun _ _ _ _ _ _ us hl => match us, hl with | [_, _, _], _ => rfl) (fun ds G Q E h => by unfold sp_way_of at h; split at h <;> first | rfl | exact h.elim) ⟨t_way_of, fun cdv A outer s H E hr => ?_, vc_way_of⟩
  have nd := (sc_way_of).nd
  have tk := tk_of (P := P) (w := w) (K := K) (mg := mg) (base := base) (N := N_way_of) (qual := (Str.ofString "way_of")) (scope := defScope s_way_of) (f := (He.fAd K ((Str.ofString "way_of"), none))) (cdv := cdv) (A := A) (outer := outer) (s := s) (H := H) (E := E)
  exact (scons_ (set_ 3 (call_ (F_common_of T) hr (by decide) tk (cons_ (v_ 0) (cons_ (v_ 1) (cons_ (v_ 2) nil_)))) nd)
    (scons_ (sif_ (tcm_ o_is (v_ 3) cn_ (nomark _)) (sone_ (ret_ cn_)) snil_)
    (scons_ (set_ 4 (call_ (F_up_from T) hr (by decide) tk (cons_ (v_ 0) (cons_ (v_ 1) nil_))) nd)
    (scons_ (set_ 5 (call_ (F_up_from T) hr (by decide) tk (cons_ (v_ 0) (cons_ (v_ 2) nil_))) nd)
    (sone_ (ret_ (bt_ b_tup T.f_tuple (by decide +kernel) (cons_ (op_ (o_add false) (sl_ false (v_ 4) on_ (os_ (op_ (o_add false) (m_ PySem.F.plainAttrs_list PySem.F.slot_list_index PySem.F.type_list_index ty_list me_index (v_ 4) (cons_ (v_ 3) nil_)) ci_))) (rev_ false (sl_ false (v_ 5) on_ (os_ (m_ PySem.F.plainAttrs_list PySem.F.slot_list_index PySem.F.type_list_index ty_list me_index (v_ 5) (cons_ (v_ 3) nil_)))))) nil_))))))))
set_option maxHeartbeats 4000000 in
theorem sc_added_values : FnScope N_added_values [(Str.ofString "forest"), (Str.ofString "one"), (Str.ofString "other"), (Str.ofString "number")] (defScope s_added_values) := ⟨rfl, rfl, rfl, by decide +kernel, rfl, by decide +kernel, by decide +kernel⟩
theorem F_added_values (T : Tx w K mg) : Fn3 P w K mg base (Str.ofString "added_values") 4 sp_added_values := by
  obtain ⟨fd, F⟩ := T.d_added_values
  refine fn3 T.g_added_values F sc_added_values (FunD.bindsN F fun _ _ _ _ _ _ us hl => match us, hl with | [_, _, _, _], _ => rfl) (fun ds G Q E h => by unfold sp_added_values at h; split at h <;> first | rfl | exact h.elim) ⟨t_added_values, fun cdv A outer s H E hr => ?_, vc_added_values⟩
  have nd := (sc_added_values).nd
  have tk := tk_of (P := P) (w := w) (K := K) (mg := mg) (base := base) (N := N_added_values) (qual := (Str.ofString "added_values")) (scope := defScope s_added_values) (f := (He.fAd K ((Str.ofString "added_values"), none))) (cdv := cdv) (A := A) (outer := outer) (s := s) (H := H) (E := E)
  exact (scons_ (set_ 4 (call_ (F_way_of T) hr (by decide) tk (cons_ (fld_ (Str.ofString "Forest") T.c_Forest T.n_Forest_parents (v_ 0)) (cons_ (v_ 1) (cons_ (v_ 2) nil_)))) nd)
    (sone_ (ret_ (bt_ b_tup T.f_tuple (by decide +kernel) (cons_ (lc_ (own := [((Str.ofString "house"), 5), ((Str.ofString "value"), 6)]) false (.t [5, 6]) rfl nd (ienum_ T.f_enumerate (cons_ (fld_ (Str.ofString "Forest") T.c_Forest T.n_Forest_worths (v_ 0)) nil_)) (blkOk_by (N := N_added_values) (sc := (defScope s_added_values)) (by decide +kernel)) (by decide) (fun _ _ _ _ _ => (tgt_ rfl (pgs_cons (tg1_ 5 nd) (pgs_cons (tg1_ 6 nd) pgs_nil)))) (fun _ _ _ _ _ => no_if) (fun _ _ _ _ _ => (if_ (tcm_ o_in (v_ 5) (v_ 4) rfl) (op_ (o_add false) (v_ 6) (v_ 3)) (v_ 6)))) nil_)))))
set_option maxHeartbeats 4000000 in
theorem sc_replaced : FnScope N_replaced [(Str.ofString "items"), (Str.ofString "number"), (Str.ofString "item")] (defScope s_replaced) := ⟨rfl, rfl, rfl, by decide +kernel, rfl, by decide +kernel, by decide +kernel⟩
theorem F_replaced (T : Tx w K mg) : Fn3 P w K mg base (Str.ofString "replaced") 1 sp_replaced := by
  obtain ⟨fd, F⟩ := T.d_replaced
  refine fn3 T.g_replaced F sc_replaced (FunD.bindsN F fun _ _ _ _ _ _ us hl => match us, hl with | [_, _, _], _ => rfl) (fun ds G Q E h => by unfold sp_replaced at h; split at h <;> first | rfl | exact h.elim) ⟨t_replaced, fun cdv A outer s H E hr => ?_, vc_replaced⟩
  have nd := (sc_replaced).nd
  exact (sone_ (ret_ (op_ (o_add false) (op_ (o_add false) (sl_ false (v_ 0) on_ (os_ (v_ 1))) (tup_ (cons_ (v_ 2) nil_))) (sl_ false (v_ 0) (os_ (op_ (o_add false) (v_ 1) ci_)) on_))))
set_option maxHeartbeats 4000000 in
theorem sc_turned_parents : FnScope N_turned_parents [(Str.ofString "parents"), (Str.ofString "house")] (defScope s_turned_parents) := ⟨rfl, rfl, rfl, by decide +kernel, rfl, by decide +kernel, by decide +kernel⟩
theorem F_turned_parents (T : Tx w K mg) : Fn3 P w K mg base (Str.ofString "turned_parents") 2 sp_turned_parents := by
  obtain ⟨fd, F⟩ := T.d_turned_parents
  refine fn3 T.g_turned_parents F sc_turned_parents (FunD.bindsN F fun _ _ _ _ _ _ us hl => match us, hl with | [_, _], _ => rfl) (fun ds G Q E h => by unfold sp_turned_parents at h; split at h <;> first | rfl | exact h.elim) ⟨t_turned_parents, fun cdv A outer s H E hr => ?_, vc_turned_parents⟩
  have nd := (sc_turned_parents).nd
  have tk := tk_of (P := P) (w := w) (K := K) (mg := mg) (base := base) (N := N_turned_parents) (qual := (Str.ofString "turned_parents")) (scope := defScope s_turned_parents) (f := (He.fAd K ((Str.ofString "turned_parents"), none))) (cdv := cdv) (A := A) (outer := outer) (s := s) (H := H) (E := E)
  have pas := pas_of (P := P) (w := w) (K := K) (mg := mg) (base := base) (N := N_turned_parents) (qual := (Str.ofString "turned_parents")) (scope := defScope s_turned_parents) (f := (He.fAd K ((Str.ofString "turned_parents"), none))) (cdv := cdv) (A := A) (outer := outer) (s := s) (H := H) (E := E)
  exact (scons_ (set_ 2 (bt_ (b_list true) T.f_list (by decide +kernel) (cons_ (v_ 0) nil_)) nd)
    (scons_ (set_ 3 (call_ (F_up_from T) hr (by decide) tk (cons_ (v_ 0) (cons_ (v_ 1) nil_))) nd)
    (scons_ (for_ (.t [4, 5]) pas rfl (izip_ T.f_zip (cons_ (v_ 3) (cons_ (sl_ false (v_ 3) (os_ ci_) on_) nil_))) (tgt_ rfl (pgs_cons (tg1_ 4 nd) (pgs_cons (tg1_ 5 nd) pgs_nil))) (sone_ (setIx_ se_list (v_ 2) (v_ 5) (v_ 4))))
    (scons_ (setIx_ se_list (v_ 2) (v_ 1) cn_)
    (sone_ (ret_ (bt_ b_tup T.f_tuple (by decide +kernel) (cons_ (v_ 2) nil_))))))))
set_option maxHeartbeats 4000000 in
theorem sc_after_deed : FnScope N_after_deed [(Str.ofString "forest"), (Str.ofString "deed")] (defScope s_after_deed) := ⟨rfl, rfl, rfl, by decide +kernel, rfl, by decide +kernel, by decide +kernel⟩
theorem F_after_deed (T : Tx w K mg) : Fn3 P w K mg base (Str.ofString "after_deed") 7 sp_after_deed := by
  obtain ⟨fd, F⟩ := T.d_after_deed
  refine fn3 T.g_after_deed F sc_after_deed (FunD.bindsN F fun _ _ _ _ _ _ us hl => match us, hl with | [_, _], _ => rfl) (fun ds G Q E h => by unfold sp_after_deed at h; split at h <;> first | rfl | exact h.elim) ⟨t_after_deed, fun cdv A outer s H E hr => ?_, vc_after_deed⟩
  have nd := (sc_after_deed).nd
  have tk := tk_of (P := P) (w := w) (K := K) (mg := mg) (base := base) (N := N_after_deed) (qual := (Str.ofString "after_deed")) (scope := defScope s_after_deed) (f := (He.fAd K ((Str.ofString "after_deed"), none))) (cdv := cdv) (A := A) (outer := outer) (s := s) (H := H) (E := E)
  exact (scons_ (unp_ [2, 3] (sl_ false (v_ 1) on_ (os_ ci_)) (tgt_ rfl (pgs_cons (tg1_ 2 nd) (pgs_cons (tg1_ 3 nd) pgs_nil))))
    (scons_ (sif_ (tcm_ (o_eq hr) (v_ 2) (cgs_ T.s_LINK) (nomark _)) (sone_ (ret_ (fz_ (mk_ T.m_Forest (F_Forest___init__ T) T.g_Forest hr (by decide) tk (cons_ (call_ (F_replaced T) hr (by decide) tk (cons_ (fld_ (Str.ofString "Forest") T.c_Forest T.n_Forest_parents (v_ 0)) (cons_ (v_ 3) (cons_ (ix_ (v_ 1) ci_ (fun _ _ => rfl)) nil_)))) (cons_ (fld_ (Str.ofString "Forest") T.c_Forest T.n_Forest_worths (v_ 0)) nil_)))))) snil_)
    (scons_ (sif_ (tcm_ (o_eq hr) (v_ 2) (cgs_ T.s_CUT) (nomark _)) (sone_ (ret_ (fz_ (mk_ T.m_Forest (F_Forest___init__ T) T.g_Forest hr (by decide) tk (cons_ (call_ (F_replaced T) hr (by decide) tk (cons_ (fld_ (Str.ofString "Forest") T.c_Forest T.n_Forest_parents (v_ 0)) (cons_ (v_ 3) (cons_ cn_ nil_)))) (cons_ (fld_ (Str.ofString "Forest") T.c_Forest T.n_Forest_worths (v_ 0)) nil_)))))) snil_)
    (scons_ (sif_ (tcm_ (o_eq hr) (v_ 2) (cgs_ T.s_TURN) (nomark _)) (sone_ (ret_ (fz_ (mk_ T.m_Forest (F_Forest___init__ T) T.g_Forest hr (by decide) tk (cons_ (call_ (F_turned_parents T) hr (by decide) tk (cons_ (fld_ (Str.ofString "Forest") T.c_Forest T.n_Forest_parents (v_ 0)) (cons_ (v_ 3) nil_))) (cons_ (fld_ (Str.ofString "Forest") T.c_Forest T.n_Forest_worths (v_ 0)) nil_)))))) snil_)
    (scons_ (sif_ (tcm_ (o_eq hr) (v_ 2) (cgs_ T.s_PUT) (nomark _)) (sone_ (ret_ (fz_ (mk_ T.m_Forest (F_Forest___init__ T) T.g_Forest hr (by decide) tk (cons_ (fld_ (Str.ofString "Forest") T.c_Forest T.n_Forest_parents (v_ 0)) (cons_ (call_ (F_replaced T) hr (by decide) tk (cons_ (fld_ (Str.ofString "Forest") T.c_Forest T.n_Forest_worths (v_ 0)) (cons_ (v_ 3) (cons_ (ix_ (v_ 1) ci_ (fun _ _ => rfl)) nil_)))) nil_)))))) snil_)
    (sone_ (ret_ (fz_ (mk_ T.m_Forest (F_Forest___init__ T) T.g_Forest hr (by decide) tk (cons_ (fld_ (Str.ofString "Forest") T.c_Forest T.n_Forest_parents (v_ 0)) (cons_ (call_ (F_added_values T) hr (by decide) tk (cons_ (v_ 0) (cons_ (v_ 3) (cons_ (ix_ (v_ 1) ci_ (fun _ _ => rfl)) (cons_ (ix_ (v_ 1) ci_ (fun _ _ => rfl)) nil_))))) nil_)))))))))))
set_option maxHeartbeats 4000000 in
theorem sc_has_form : FnScope N_has_form [(Str.ofString "many"), (Str.ofString "thing")] (defScope s_has_form) := ⟨rfl, rfl, rfl, by decide +kernel, rfl, by decide +kernel, by decide +kernel⟩
theorem F_has_form (T : Tx w K mg) : Fn3 P w K mg base (Str.ofString "has_form") 4 sp_has_form := by
  obtain ⟨fd, F⟩ := T.d_has_form
  refine fn3 T.g_has_form F sc_has_form (FunD.bindsN F fun _ _ _ _ _ _ us hl => match us, hl with | [_, _], _ => rfl) (fun ds G Q E h => by unfold sp_has_form at h; split at h <;> first | rfl | exact h.elim) ⟨t_has_form, fun cdv A outer s H E hr => ?_, vc_has_form⟩
  have nd := (sc_has_form).nd
  exact (scons_ (sif_ (tw_ (wor_ (tnot_ (tv_ (isi_ T.f_isinstance (isc_b .tup T.f_tuple) (tb_b T.isf .tup) (v_ 1)))) (wor_ (tcm_ (o_eq hr) (bf_ b_len T.f_len (by decide +kernel) (cons_ (v_ 1) nil_)) ci_ (nomark _)) (w1or_ (tnot_ (tv_ (isi_ T.f_isinstance (isc_b .str T.f_str) (tb_b T.isf .str) (ix_ (v_ 1) ci_ (fun _ _ => rfl))))))))) (sone_ (ret_ cb_)) snil_)
    (scons_ (sif_ (tcm_ (o_ne hr) (kget_ T.g_SIZES T.tb_SIZES (ix_ (v_ 1) ci_ (fun _ _ => rfl)) ci_) (bf_ b_len T.f_len (by decide +kernel) (cons_ (v_ 1) nil_)) (nomark _)) (sone_ (ret_ cb_)) snil_)
    (scons_ (set_ 2 (kix_ T.g_HOUSES T.tb_HOUSES (ix_ (v_ 1) ci_ (fun _ _ => rfl)) (fun _ _ => rfl)) nd)
    (scons_ (sif_ (tnot_ (tv_ (bf_ (b_all rfl) T.f_all (by decide +kernel) (cons_ (lc_ (own := [((Str.ofString "item"), 3)]) false (.n 3) rfl nd (iseq_ (sl_ false (v_ 1) (os_ ci_) (os_ (op_ (o_add false) ci_ (v_ 2))))) (blkOk_by (N := N_has_form) (sc := (defScope s_has_form)) (by decide +kernel)) (by decide) (fun _ _ _ _ _ => (tg1_ 3 nd)) (fun _ _ _ _ _ => no_if) (fun _ _ _ _ _ => (call_ (F_is_below T) hr (by decide) takes_none5 (cons_ (v_ 3) (cons_ (v_ 0) nil_))))) nil_)))) (sone_ (ret_ cb_)) snil_)
    (sone_ (ret_ (bf_ (b_all rfl) T.f_all (by decide +kernel) (cons_ (lc_ (own := [((Str.ofString "item"), 3)]) false (.n 3) rfl nd (iseq_ (sl_ false (v_ 1) (os_ (op_ (o_add false) ci_ (v_ 2))) on_)) (blkOk_by (N := N_has_form) (sc := (defScope s_has_form)) (by decide +kernel)) (by decide) (fun _ _ _ _ _ => (tg1_ 3 nd)) (fun _ _ _ _ _ => no_if) (fun _ _ _ _ _ => (call_ (F_is_integer T) hr (by decide) takes_none5 (cons_ (v_ 3) nil_)))) nil_))))))))
set_option maxHeartbeats 4000000 in
theorem sc_is_possible : FnScope N_is_possible [(Str.ofString "forest"), (Str.ofString "deed")] (defScope s_is_possible) := ⟨rfl, rfl, rfl, by decide +kernel, rfl, by decide +kernel, by decide +kernel⟩
theorem F_is_possible (T : Tx w K mg) : Fn3 P w K mg base (Str.ofString "is_possible") 2 sp_is_possible := by
  obtain ⟨fd, F⟩ := T.d_is_possible
  refine fn3 T.g_is_possible F sc_is_possible (FunD.bindsN F fun _ _ _ _ _ _ us hl => match us, hl with | [_, _], _ => rfl) (fun ds G Q E h => by unfold sp_is_possible at h; split at h <;> first | rfl | exact h.elim) ⟨t_is_possible, fun cdv A outer s H E hr => ?_, vc_is_possible⟩
  have nd := (sc_is_possible).nd
  have tk := tk_of (P := P) (w := w) (K := K) (mg := mg) (base := base) (N := N_is_possible) (qual := (Str.ofString "is_possible")) (scope := defScope s_is_possible) (f := (He.fAd K ((Str.ofString "is_possible"), none))) (cdv := cdv) (A := A) (outer := outer) (s := s) (H := H) (E := E)
  exact (scons_ (set_ 2 (fld_ (Str.ofString "Forest") T.c_Forest T.n_Forest_parents (v_ 0)) nd)
    (scons_ (sif_ (tcm_ (o_eq hr) (ix_ (v_ 1) ci_ (fun _ _ => rfl)) (cgs_ T.s_LINK) (nomark _)) (sone_ (ret_ (and_ (cm_ o_is (ix_ (v_ 2) (ix_ (v_ 1) ci_ (fun _ _ => rfl)) (fun _ _ => rfl)) cn_ (nomark _)) (one_ (cm_ (o_ne hr) (ix_ (call_ (F_up_from T) hr (by decide) tk (cons_ (v_ 2) (cons_ (ix_ (v_ 1) ci_ (fun _ _ => rfl)) nil_))) (neg_ ci_) (fun _ _ => rfl)) (ix_ (v_ 1) ci_ (fun _ _ => rfl)) (nomark _)))))) snil_)
    (scons_ (sif_ (tcm_ (o_eq hr) (ix_ (v_ 1) ci_ (fun _ _ => rfl)) (cgs_ T.s_CUT) (nomark _)) (sone_ (ret_ (cm_ o_isnot (ix_ (v_ 2) (ix_ (v_ 1) ci_ (fun _ _ => rfl)) (fun _ _ => rfl)) cn_ (nomark _)))) snil_)
    (sone_ (ret_ (or_ (cm_ (o_ne hr) (ix_ (v_ 1) ci_ (fun _ _ => rfl)) (cgs_ T.s_ADD) (nomark _)) (one_ (cm_ (o_eq hr) (ix_ (call_ (F_up_from T) hr (by decide) tk (cons_ (v_ 2) (cons_ (ix_ (v_ 1) ci_ (fun _ _ => rfl)) nil_))) (neg_ ci_) (fun _ _ => rfl)) (ix_ (call_ (F_up_from T) hr (by decide) tk (cons_ (v_ 2) (cons_ (ix_ (v_ 1) ci_ (fun _ _ => rfl)) nil_))) (neg_ ci_) (fun _ _ => rfl)) (nomark _)))))))))
set_option maxHeartbeats 4000000 in
theorem sc_is_deed : FnScope N_is_deed [(Str.ofString "forest"), (Str.ofString "thing")] (defScope s_is_deed) := ⟨rfl, rfl, rfl, by decide +kernel, rfl, by decide +kernel, by decide +kernel⟩
theorem F_is_deed (T : Tx w K mg) : Fn3 P w K mg base (Str.ofString "is_deed") 5 sp_is_deed := by
  obtain ⟨fd, F⟩ := T.d_is_deed
  refine fn3 T.g_is_deed F sc_is_deed (FunD.bindsN F fun _ _ _ _ _ _ us hl => match us, hl with | [_, _], _ => rfl) (fun ds G Q E h => by unfold sp_is_deed at h; split at h <;> first | rfl | exact h.elim) ⟨t_is_deed, fun cdv A outer s H E hr => ?_, vc_is_deed⟩
  have nd := (sc_is_deed).nd
  have tk := tk_of (P := P) (w := w) (K := K) (mg := mg) (base := base) (N := N_is_deed) (qual := (Str.ofString "is_deed")) (scope := defScope s_is_deed) (f := (He.fAd K ((Str.ofString "is_deed"), none))) (cdv := cdv) (A := A) (outer := outer) (s := s) (H := H) (E := E)
  exact (sone_ (ret_ (and_ (call_ (F_has_form T) hr (by decide) tk (cons_ (bf_ b_len T.f_len (by decide +kernel) (cons_ (fld_ (Str.ofString "Forest") T.c_Forest T.n_Forest_parents (v_ 0)) nil_)) (cons_ (v_ 1) nil_))) (one_ (call_ (F_is_possible T) hr (by decide) tk (cons_ (v_ 0) (cons_ (v_ 1) nil_)))))))
set_option maxHeartbeats 4000000 in
theorem sc_is_listed : FnScope N_is_listed [(Str.ofString "thing")] (defScope s_is_listed) := ⟨rfl, rfl, rfl, by decide +kernel, rfl, by decide +kernel, by decide +kernel⟩
theorem F_is_listed (T : Tx w K mg) : Fn3 P w K mg base (Str.ofString "is_listed") 1 sp_is_listed := by
  obtain ⟨fd, F⟩ := T.d_is_listed
  refine fn3 T.g_is_listed F sc_is_listed (FunD.bindsN F fun _ _ _ _ _ _ us hl => match us, hl with | [_], _ => rfl) (fun ds G Q E h => by unfold sp_is_listed at h; split at h <;> first | rfl | exact h.elim) ⟨t_is_listed, fun cdv A outer s H E hr => ?_, vc_is_listed⟩
  have nd := (sc_is_listed).nd
  exact (sone_ (ret_ (isi2_ T.isf .lst .tup T.f_isinstance T.f_list T.f_tuple (v_ 0))))
set_option maxHeartbeats 4000000 in
theorem sc_led : FnScope N_led [(Str.ofString "forest"), (Str.ofString "deeds")] (defScope s_led) := ⟨rfl, rfl, rfl, by decide +kernel, rfl, by decide +kernel, by decide +kernel⟩
theorem F_led (T : Tx w K mg) : Fn3 P w K mg base (Str.ofString "led") 8 sp_led := by
  obtain ⟨fd, F⟩ := T.d_led
  refine fn3 T.g_led F sc_led (FunD.bindsN F fun _ _ _ _ _ _ us hl => match us, hl with | [_, _], _ => rfl) (fun ds G Q E h => by unfold sp_led at h; split at h <;> first | rfl | exact h.elim) ⟨t_led, fun cdv A outer s H E hr => ?_, vc_led⟩
  have nd := (sc_led).nd
  have tk := tk_of (P := P) (w := w) (K := K) (mg := mg) (base := base) (N := N_led) (qual := (Str.ofString "led")) (scope := defScope s_led) (f := (He.fAd K ((Str.ofString "led"), none))) (cdv := cdv) (A := A) (outer := outer) (s := s) (H := H) (E := E)
  have pas := pas_of (P := P) (w := w) (K := K) (mg := mg) (base := base) (N := N_led) (qual := (Str.ofString "led")) (scope := defScope s_led) (f := (He.fAd K ((Str.ofString "led"), none))) (cdv := cdv) (A := A) (outer := outer) (s := s) (H := H) (E := E)
  obtain ⟨_, _, bx_BadDeeds, fx_BadDeeds⟩ := FX_BadDeeds (P := P) (w := w) (mg := mg) (base := base) T
  exact (scons_ (sif_ (tnot_ (tv_ (call_ (F_is_listed T) hr (by decide) tk (cons_ (v_ 1) nil_)))) (sone_ (raisef_ rfl tk T.xf_BadDeeds fx_BadDeeds bx_BadDeeds hr (by decide) T.g_BadDeeds (neg_ ci_))) snil_)
    (scons_ (set_ 2 (v_ 0) nd)
    (scons_ (for_ (.t [3, 4]) pas rfl (ienum_ T.f_enumerate (cons_ (v_ 1) nil_)) (tgt_ rfl (pgs_cons (tg1_ 3 nd) (pgs_cons (tg1_ 4 nd) pgs_nil))) (scons_ (sif_ (tnot_ (tv_ (call_ (F_is_deed T) hr (by decide) tk (cons_ (v_ 2) (cons_ (v_ 4) nil_))))) (sone_ (raisef_ rfl tk T.xf_BadDeeds fx_BadDeeds bx_BadDeeds hr (by decide) T.g_BadDeeds (v_ 3))) snil_)
    (sone_ (set_ 2 (call_ (F_after_deed T) hr (by decide) tk (cons_ (v_ 2) (cons_ (v_ 4) nil_))) nd))))
    (sone_ (ret_ (v_ 2))))))
set_option maxHeartbeats 4000000 in
theorem sc__law_led_told : FnScope N__law_led_told [(Str.ofString "_law_forest"), (Str.ofString "_law_deeds")] (defScope s__law_led_told) := ⟨rfl, rfl, rfl, by decide +kernel, rfl, by decide +kernel, by decide +kernel⟩
theorem F__law_led_told (T : Tx w K mg) : Fn3 P w K mg base (Str.ofString "_law_led_told") 9 sp__law_led_told := by
  obtain ⟨fd, F⟩ := T.d__law_led_told
  refine fn3 T.g__law_led_told F sc__law_led_told (FunD.bindsN F fun _ _ _ _ _ _ us hl => match us, hl with | [_, _], _ => rfl) (fun ds G Q E h => by unfold sp__law_led_told at h; split at h <;> first | rfl | exact h.elim) ⟨t__law_led_told, fun cdv A outer s H E hr => ?_, vc__law_led_told⟩
  have nd := (sc__law_led_told).nd
  have tk := tk_of (P := P) (w := w) (K := K) (mg := mg) (base := base) (N := N__law_led_told) (qual := (Str.ofString "_law_led_told")) (scope := defScope s__law_led_told) (f := (He.fAd K ((Str.ofString "_law_led_told"), none))) (cdv := cdv) (A := A) (outer := outer) (s := s) (H := H) (E := E)
  have pas := pas_of (P := P) (w := w) (K := K) (mg := mg) (base := base) (N := N__law_led_told) (qual := (Str.ofString "_law_led_told")) (scope := defScope s__law_led_told) (f := (He.fAd K ((Str.ofString "_law_led_told"), none))) (cdv := cdv) (A := A) (outer := outer) (s := s) (H := H) (E := E)
  exact (sone_ (try_ rfl rfl nd tk T.exm (fun _ _ _ tk pas => (scons_ (set_ 3 (call_ (F_led T) hr (by decide) tk (cons_ (v_ 0) (cons_ (v_ 1) nil_))) nd)
    (sone_ (ret_ (tup_ (cons_ cs_ (cons_ (fld_ (Str.ofString "Forest") T.c_Forest T.n_Forest_parents (v_ 3)) (cons_ (fld_ (Str.ofString "Forest") T.c_Forest T.n_Forest_worths (v_ 3)) nil_)))))))) (.consA 2 ⟨rfl, by decide +kernel, .inl T.g_BadDeeds⟩ rfl rfl (fun _ _ _ _ _ hz hf => (sone_ (ret_ (tup_ (cons_ cs_ (cons_ (xf_ T.xf_BadDeeds hz hf (v_ 2)) nil_)))))) .nil)))
set_option maxHeartbeats 4000000 in
theorem sc__law_take : FnScope N__law_take [(Str.ofString "_law_hand_here"), (Str.ofString "_law_size")] (defScope s__law_take) := ⟨rfl, rfl, rfl, by decide +kernel, rfl, by decide +kernel, by decide +kernel⟩
theorem F__law_take (T : Tx w K mg) : Fn3 P w K mg base (Str.ofString "_law_take") 1 sp__law_take := by
  obtain ⟨fd, F⟩ := T.d__law_take
  refine fn3 T.g__law_take F sc__law_take (FunD.bindsN F fun _ _ _ _ _ _ us hl => match us, hl with | [_, _], _ => rfl) (fun ds G Q E h => by unfold sp__law_take at h; split at h <;> first | rfl | exact h.elim) ⟨t__law_take, fun cdv A outer s H E hr => ?_, vc__law_take⟩
  have nd := (sc__law_take).nd
  exact (scons_ (setIx_ se_list (v_ 0) ci_ (op_ (o_add false) (ix_ (v_ 0) ci_ (fun _ _ => rfl)) ci_))
    (scons_ (sif_ (tw_ (wand_ (tcm_ (o_eq hr) (ix_ (v_ 0) ci_ (fun _ _ => rfl)) ci_ (nomark _)) (w1and_ (tcm_ o_lt (ix_ (v_ 0) ci_ (fun _ _ => rfl)) (bf_ b_len T.f_len (by decide +kernel) (cons_ (ix_ (v_ 0) ci_ (fun _ _ => rfl)) nil_)) (nomark _))))) (scons_ (set_ 3 (bt_ b_int T.f_int (by decide +kernel) (cons_ (ix_ (ix_ (v_ 0) ci_ (fun _ _ => rfl)) (ix_ (v_ 0) ci_ (fun _ _ => rfl)) (fun _ _ => rfl)) nil_)) nd)
    (scons_ (setIx_ se_list (v_ 0) ci_ (op_ (o_add false) (ix_ (v_ 0) ci_ (fun _ _ => rfl)) ci_))
    (sone_ (sif_ (tcm_ o_ge (v_ 3) (op_ o_pow ci_ ci_) (nomark _)) (sone_ (setIx_ se_list (v_ 0) ci_ (v_ 3))) (sone_ (setIx_ se_list (v_ 0) ci_ (op_ o_mod (bt_ b_int T.f_int (by decide +kernel) (cons_ (op_ (o_add false) (op_ (o_add false) (op_ (o_mul false) (ix_ (v_ 0) ci_ (fun _ _ => rfl)) ci_) (op_ o_mod (bt_ b_int T.f_int (by decide +kernel) (cons_ (v_ 3) nil_)) ci_)) ci_) nil_)) ci_))))))) snil_)
    (scons_ (sif_ (tcm_ o_gt (ix_ (v_ 0) ci_ (fun _ _ => rfl)) ci_ (nomark _)) (scons_ (set_ 4 (op_ o_mod (bt_ b_int T.f_int (by decide +kernel) (cons_ (ix_ (v_ 0) ci_ (fun _ _ => rfl)) nil_)) (v_ 1)) nd)
    (scons_ (setIx_ se_list (v_ 0) ci_ (op_ o_fdiv (bt_ b_int T.f_int (by decide +kernel) (cons_ (ix_ (v_ 0) ci_ (fun _ _ => rfl)) nil_)) (v_ 1)))
    (sone_ (ret_ (v_ 4))))) snil_)
    (scons_ (setIx_ se_list (v_ 0) ci_ (op_ o_mod (bt_ b_int T.f_int (by decide +kernel) (cons_ (op_ (o_add false) (op_ (o_mul false) (ix_ (v_ 0) ci_ (fun _ _ => rfl)) ci_) (op_ (o_mul false) ci_ (ix_ (v_ 0) ci_ (fun _ _ => rfl)))) nil_)) ci_))
    (scons_ (set_ 2 (op_ o_mod (bt_ b_int T.f_int (by decide +kernel) (cons_ (op_ (o_mul false) (ix_ (v_ 0) ci_ (fun _ _ => rfl)) (op_ (o_add false) (op_ o_fdiv (ix_ (v_ 0) ci_ (fun _ _ => rfl)) ci_) ci_)) nil_)) ci_) nd)
    (scons_ (set_ 2 (op_ o_mod (bt_ b_int T.f_int (by decide +kernel) (cons_ (op_ (o_mul false) (v_ 2) (op_ (o_add false) (op_ o_fdiv (v_ 2) ci_) ci_)) nil_)) ci_) nd)
    (sone_ (ret_ (op_ o_mod (bt_ b_int T.f_int (by decide +kernel) (cons_ (op_ o_fdiv (v_ 2) ci_) nil_)) (v_ 1))))))))))
set_option maxHeartbeats 4000000 in
theorem sc__law_pick : FnScope N__law_pick [(Str.ofString "_law_hand_here"), (Str.ofString "_law_things")] (defScope s__law_pick) := ⟨rfl, rfl, rfl, by decide +kernel, rfl, by decide +kernel, by decide +kernel⟩
theorem F__law_pick (T : Tx w K mg) : Fn3 P w K mg base (Str.ofString "_law_pick") 2 sp__law_pick := by
  obtain ⟨fd, F⟩ := T.d__law_pick
  refine fn3 T.g__law_pick F sc__law_pick (FunD.bindsN F fun _ _ _ _ _ _ us hl => match us, hl with | [_, _], _ => rfl) (fun ds G Q E h => by unfold sp__law_pick at h; split at h <;> first | rfl | exact h.elim) ⟨t__law_pick, fun cdv A outer s H E hr => ?_, vc__law_pick⟩
  have nd := (sc__law_pick).nd
  have tk := tk_of (P := P) (w := w) (K := K) (mg := mg) (base := base) (N := N__law_pick) (qual := (Str.ofString "_law_pick")) (scope := defScope s__law_pick) (f := (He.fAd K ((Str.ofString "_law_pick"), none))) (cdv := cdv) (A := A) (outer := outer) (s := s) (H := H) (E := E)
  exact (sone_ (ret_ (ix_ (v_ 1) (call_ (F__law_take T) hr (by decide) tk (cons_ (v_ 0) (cons_ (bf_ b_len T.f_len (by decide +kernel) (cons_ (v_ 1) nil_)) nil_))) (fun _ _ => rfl))))
set_option maxHeartbeats 4000000 in
theorem sc__law_parents : FnScope N__law_parents [(Str.ofString "_law_hand_here"), (Str.ofString "_law_size")] (defScope s__law_parents) := ⟨rfl, rfl, rfl, by decide +kernel, rfl, by decide +kernel, by decide +kernel⟩
theorem F__law_parents (T : Tx w K mg) : Fn3 P w K mg base (Str.ofString "_law_parents") 2 sp__law_parents := by
  obtain ⟨fd, F⟩ := T.d__law_parents
  refine fn3 T.g__law_parents F sc__law_parents (FunD.bindsN F fun _ _ _ _ _ _ us hl => match us, hl with | [_, _], _ => rfl) (fun ds G Q E h => by unfold sp__law_parents at h; split at h <;> first | rfl | exact h.elim) ⟨t__law_parents, fun cdv A outer s H E hr => ?_, vc__law_parents⟩
  have nd := (sc__law_parents).nd
  have tk := tk_of (P := P) (w := w) (K := K) (mg := mg) (base := base) (N := N__law_parents) (qual := (Str.ofString "_law_parents")) (scope := defScope s__law_parents) (f := (He.fAd K ((Str.ofString "_law_parents"), none))) (cdv := cdv) (A := A) (outer := outer) (s := s) (H := H) (E := E)
  have pas := pas_of (P := P) (w := w) (K := K) (mg := mg) (base := base) (N := N__law_parents) (qual := (Str.ofString "_law_parents")) (scope := defScope s__law_parents) (f := (He.fAd K ((Str.ofString "_law_parents"), none))) (cdv := cdv) (A := A) (outer := outer) (s := s) (H := H) (E := E)
  exact (scons_ (set_ 2 (lrg_ true rfl T.f_list T.f_range (v_ 1)) nd)
    (scons_ (for_ (.n 3) pas rfl (irng1_ T.f_range (cons_ (v_ 1) nil_)) (tg1_ 3 nd) (scons_ (set_ 6 (op_ (o_add false) (v_ 3) (call_ (F__law_take T) hr (by decide) tk (cons_ (v_ 0) (cons_ (op_ o_sub (v_ 1) (v_ 3)) nil_)))) nd)
    (sone_ (swp_ rfl se_list se_list (v_ 2) (v_ 3) (v_ 2) (v_ 6) (tup_ (cons_ (ix_ (v_ 2) (v_ 6) (fun _ _ => rfl)) (cons_ (ix_ (v_ 2) (v_ 3) (fun _ _ => rfl)) nil_)))))))
    (scons_ (set_ 4 (op_ (o_mul true) (lst_ false (cons_ cn_ nil_)) (v_ 1)) nd)
    (scons_ (set_ 5 (call_ (F__law_take T) hr (by decide) tk (cons_ (v_ 0) (cons_ ci_ nil_))) nd)
    (scons_ (for_ (.n 3) pas rfl (irng2_ T.f_range (cons_ ci_ (cons_ (v_ 1) nil_))) (tg1_ 3 nd) (scons_ (sif_ (tcm_ (o_eq hr) (v_ 5) ci_ (nomark _)) (sone_ (setIx_ se_list (v_ 4) (ix_ (v_ 2) (v_ 3) (fun _ _ => rfl)) (ix_ (v_ 2) (op_ o_sub (v_ 3) ci_) (fun _ _ => rfl)))) (sone_ (sif_ (tcm_ (o_eq hr) (v_ 5) ci_ (nomark _)) (sone_ (setIx_ se_list (v_ 4) (ix_ (v_ 2) (v_ 3) (fun _ _ => rfl)) (ix_ (v_ 2) (bf_ (b_max2 rfl) T.f_max (by decide +kernel) (cons_ ci_ (cons_ (op_ o_sub (op_ o_sub (v_ 3) ci_) (call_ (F__law_take T) hr (by decide) tk (cons_ (v_ 0) (cons_ ci_ nil_)))) nil_))) (fun _ _ => rfl)))) (sone_ (sif_ (tw_ (wor_ (tcm_ o_gt (v_ 5) ci_ (nomark _)) (w1or_ (tcm_ o_gt (call_ (F__law_take T) hr (by decide) tk (cons_ (v_ 0) (cons_ ci_ nil_))) ci_ (nomark _))))) (sone_ (setIx_ se_list (v_ 4) (ix_ (v_ 2) (v_ 3) (fun _ _ => rfl)) (ix_ (v_ 2) (call_ (F__law_take T) hr (by decide) tk (cons_ (v_ 0) (cons_ (v_ 3) nil_))) (fun _ _ => rfl)))) snil_)))))
    (sone_ (sif_ (tw_ (wand_ (tcm_ (o_eq hr) (v_ 5) ci_ (nomark _)) (w1and_ (tcm_ (o_eq hr) (call_ (F__law_take T) hr (by decide) tk (cons_ (v_ 0) (cons_ ci_ nil_))) ci_ (nomark _))))) (sone_ (setIx_ se_list (v_ 4) (ix_ (v_ 2) (v_ 3) (fun _ _ => rfl)) cn_)) snil_))))
    (sone_ (ret_ (fz_ (v_ 4)))))))))
set_option maxHeartbeats 4000000 in
theorem sc__law_value : FnScope N__law_value [(Str.ofString "_law_hand_here")] (defScope s__law_value) := ⟨rfl, rfl, rfl, by decide +kernel, rfl, by decide +kernel, by decide +kernel⟩
theorem F__law_value (T : Tx w K mg) : Fn3 P w K mg base (Str.ofString "_law_value") 3 sp__law_value := by
  obtain ⟨fd, F⟩ := T.d__law_value
  refine fn3 T.g__law_value F sc__law_value (FunD.bindsN F fun _ _ _ _ _ _ us hl => match us, hl with | [_], _ => rfl) (fun ds G Q E h => by unfold sp__law_value at h; split at h <;> first | rfl | exact h.elim) ⟨t__law_value, fun cdv A outer s H E hr => ?_, vc__law_value⟩
  have nd := (sc__law_value).nd
  have tk := tk_of (P := P) (w := w) (K := K) (mg := mg) (base := base) (N := N__law_value) (qual := (Str.ofString "_law_value")) (scope := defScope s__law_value) (f := (He.fAd K ((Str.ofString "_law_value"), none))) (cdv := cdv) (A := A) (outer := outer) (s := s) (H := H) (E := E)
  exact (sone_ (ret_ (call_ (F__law_pick T) hr (by decide) tk (cons_ (v_ 0) (cons_ (lst_ false (cons_ ci_ (cons_ ci_ (cons_ (neg_ ci_) (cons_ ci_ (cons_ ci_ (cons_ (op_ o_pow ci_ ci_) (cons_ (op_ o_sub (call_ (F__law_take T) hr (by decide) tk (cons_ (v_ 0) (cons_ ci_ nil_))) ci_) (cons_ (op_ o_sub (call_ (F__law_take T) hr (by decide) tk (cons_ (v_ 0) (cons_ ci_ nil_))) ci_) (cons_ (call_ (F__law_take T) hr (by decide) tk (cons_ (v_ 0) (cons_ (op_ o_pow ci_ ci_) nil_))) nil_)))))))))) nil_)))))
set_option maxHeartbeats 4000000 in
theorem sc__law_plain : FnScope N__law_plain [(Str.ofString "_law_hand_here"), (Str.ofString "_law_sizes")] (defScope s__law_plain) := ⟨rfl, rfl, rfl, by decide +kernel, rfl, by decide +kernel, by decide +kernel⟩
theorem F__law_plain (T : Tx w K mg) : Fn3 P w K mg base (Str.ofString "_law_plain") 4 sp__law_plain := by
  obtain ⟨fd, F⟩ := T.d__law_plain
  refine fn3 T.g__law_plain F sc__law_plain (FunD.bindsN F fun _ _ _ _ _ _ us hl => match us, hl with | [_, _], _ => rfl) (fun ds G Q E h => by unfold sp__law_plain at h; split at h <;> first | rfl | exact h.elim) ⟨t__law_plain, fun cdv A outer s H E hr => ?_, vc__law_plain⟩
  have nd := (sc__law_plain).nd
  have tk := tk_of (P := P) (w := w) (K := K) (mg := mg) (base := base) (N := N__law_plain) (qual := (Str.ofString "_law_plain")) (scope := defScope s__law_plain) (f := (He.fAd K ((Str.ofString "_law_plain"), none))) (cdv := cdv) (A := A) (outer := outer) (s := s) (H := H) (E := E)
  exact (scons_ (set_ 2 (call_ (F__law_pick T) hr (by decide) tk (cons_ (v_ 0) (cons_ (v_ 1) nil_))) nd)
    (sone_ (ret_ (lst_ false (cons_ (call_ (F__law_parents T) hr (by decide) tk (cons_ (v_ 0) (cons_ (v_ 2) nil_))) (cons_ (lc_ (own := [((Str.ofString "_law_k"), 3)]) false (.n 3) rfl nd (irng1_ T.f_range (cons_ (v_ 2) nil_)) (blkOk_by (N := N__law_plain) (sc := (defScope s__law_plain)) (by decide +kernel)) (by decide) (fun _ _ _ _ _ => (tg1_ 3 nd)) (fun _ _ _ _ _ => no_if) (fun _ _ _ _ _ => (call_ (F__law_value T) hr (by decide) takes_none5 (cons_ (v_ 0) nil_)))) nil_))))))
set_option maxHeartbeats 4000000 in
theorem sc__law_same : FnScope N__law_same [(Str.ofString "_law_actual"), (Str.ofString "_law_due")] (defScope s__law_same) := ⟨rfl, rfl, rfl, by decide +kernel, rfl, by decide +kernel, by decide +kernel⟩
theorem F__law_same (T : Tx w K mg) : ∀ n : Nat, Fn3 P w K mg base (Str.ofString "_law_same") (n + 2) (sp__law_same n) := by
  obtain ⟨fd, F⟩ := T.d__law_same
  have B := (FunD.bindsN (ps := [(Str.ofString "_law_actual"), (Str.ofString "_law_due")]) F fun _ _ _ _ _ _ us hl => match us, hl with | [_, _], _ => rfl)
  intro n
  induction n with
  | zero => exact fn3 T.g__law_same F sc__law_same B (fun ds G Q E h => h.elim) ⟨sdead, fun cdv A outer s H E hr => ssdead_, fun ds G Q E h => h.elim⟩
  | succ n ih =>
    rw [show n + 1 + 2 = (n + 2) + 1 by omega]
    refine fn3 T.g__law_same F sc__law_same B (fun ds G Q E h => by unfold sp__law_same at h; split at h <;> first | rfl | exact h.elim) ⟨t__law_same (sp__law_same n), fun cdv A outer s H E hr => ?_, vc__law_same n⟩
    have nd := (sc__law_same).nd
    have tk := tk_of (P := P) (w := w) (K := K) (mg := mg) (base := base) (N := N__law_same) (qual := (Str.ofString "_law_same")) (scope := defScope s__law_same) (f := (He.fAd K ((Str.ofString "_law_same"), none))) (cdv := cdv) (A := A) (outer := outer) (s := s) (H := H) (E := E)
    have pas := pas_of (P := P) (w := w) (K := K) (mg := mg) (base := base) (N := N__law_same) (qual := (Str.ofString "_law_same")) (scope := defScope s__law_same) (f := (He.fAd K ((Str.ofString "_law_same"), none))) (cdv := cdv) (A := A) (outer := outer) (s := s) (H := H) (E := E)
    exact (scons_ (sif_ (tcm_ o_is (v_ 1) cn_ (nomark _)) (sone_ (ret_ (cm_ o_is (v_ 0) cn_ (nomark _)))) snil_)
    (scons_ (sif_ (tcm_ o_is (v_ 1) cb_ (nomark _)) (sone_ (ret_ (cm_ o_is (v_ 0) cb_ (nomark _)))) snil_)
    (scons_ (sif_ (tcm_ o_is (v_ 1) cb_ (nomark _)) (sone_ (ret_ (cm_ o_is (v_ 0) cb_ (nomark _)))) snil_)
    (scons_ (sif_ (tv_ (isi_ T.f_isinstance (isc_b .int T.f_int) (tb_b T.isf .int) (v_ 1))) (sone_ (ret_ (and_ (call_ (F__law_is_integer T) hr (by omega) tk (cons_ (v_ 0) nil_)) (one_ (cm_ (o_eq hr) (v_ 0) (v_ 1) (nomark _)))))) snil_)
    (scons_ (sif_ (tv_ (isi_ T.f_isinstance (isc_b .str T.f_str) (tb_b T.isf .str) (v_ 1))) (sone_ (ret_ (and_ (isi_ T.f_isinstance (isc_b .str T.f_str) (tb_b T.isf .str) (v_ 0)) (one_ (cm_ (o_eq hr) (v_ 0) (v_ 1) (nomark _)))))) snil_)
    (scons_ (sif_ (tw_ (wor_ (tcm_ (o_ne hr) (isi_ T.f_isinstance (isc_b .tup T.f_tuple) (tb_b T.isf .tup) (v_ 1)) (isi_ T.f_isinstance (isc_b .tup T.f_tuple) (tb_b T.isf .tup) (v_ 0)) (nomark _)) (w1or_ (tcm_ (o_ne hr) (isi_ T.f_isinstance (isc_b .lst T.f_list) (tb_b T.isf .lst) (v_ 1)) (isi_ T.f_isinstance (isc_b .lst T.f_list) (tb_b T.isf .lst) (v_ 0)) (nomark _))))) (sone_ (ret_ cb_)) snil_)
    (scons_ (sif_ (tcm_ (o_ne hr) (bf_ b_len T.f_len (by decide +kernel) (cons_ (v_ 0) nil_)) (bf_ b_len T.f_len (by decide +kernel) (cons_ (v_ 1) nil_)) (nomark _)) (sone_ (ret_ cb_)) snil_)
    (scons_ (for_ (.t [2, 3]) pas rfl (izip_ T.f_zip (cons_ (v_ 0) (cons_ (v_ 1) nil_))) (tgt_ rfl (pgs_cons (tg1_ 2 nd) (pgs_cons (tg1_ 3 nd) pgs_nil))) (sone_ (sif_ (tnot_ (tv_ (call_ ih hr (by omega) tk (cons_ (v_ 2) (cons_ (v_ 3) nil_))))) (sone_ (ret_ cb_)) snil_)))
    (sone_ (ret_ cb_))))))))))
set_option maxHeartbeats 4000000 in
theorem sc__law_odd : FnScope N__law_odd [(Str.ofString "_law_hand_here")] (defScope s__law_odd) := ⟨rfl, rfl, rfl, by decide +kernel, rfl, by decide +kernel, by decide +kernel⟩
theorem F__law_odd (T : Tx w K mg) : Fn3 P w K mg base (Str.ofString "_law_odd") 2 sp__law_odd := by
  obtain ⟨fd, F⟩ := T.d__law_odd
  refine fn3 T.g__law_odd F sc__law_odd (FunD.bindsN F fun _ _ _ _ _ _ us hl => match us, hl with | [_], _ => rfl) (fun ds G Q E h => by unfold sp__law_odd at h; split at h <;> first | rfl | exact h.elim) ⟨t__law_odd, fun cdv A outer s H E hr => ?_, vc__law_odd⟩
  have nd := (sc__law_odd).nd
  have tk := tk_of (P := P) (w := w) (K := K) (mg := mg) (base := base) (N := N__law_odd) (qual := (Str.ofString "_law_odd")) (scope := defScope s__law_odd) (f := (He.fAd K ((Str.ofString "_law_odd"), none))) (cdv := cdv) (A := A) (outer := outer) (s := s) (H := H) (E := E)
  exact (scons_ (set_ 1 (call_ (F__law_take T) hr (by decide) tk (cons_ (v_ 0) (cons_ ci_ nil_))) nd)
    (scons_ (sif_ (tcm_ o_lt (v_ 1) ci_ (nomark _)) (sone_ (ret_ (ix_ (lst_ false (cons_ cn_ (cons_ cb_ (cons_ cb_ (cons_ cs_ (cons_ cs_ (cons_ cs_ nil_))))))) (v_ 1) (fun _ _ => rfl)))) snil_)
    (scons_ (sif_ (tcm_ o_lt (v_ 1) ci_ (nomark _)) (sone_ (ret_ (ix_ (lst_ false (cons_ (tup_ nil_) (cons_ (lst_ false nil_) (cons_ emp_ (cons_ (tup_ (cons_ ci_ nil_)) (cons_ (lst_ false (cons_ ci_ (cons_ ci_ nil_))) (cons_ (tup_ (cons_ (tup_ nil_) nil_)) nil_))))))) (op_ o_sub (v_ 1) ci_) (fun _ _ => rfl)))) snil_)
    (sone_ (ret_ (ix_ (lst_ false (cons_ (neg_ ci_) (cons_ ci_ (cons_ (op_ o_sub (op_ o_pow ci_ ci_) ci_) (cons_ (tup_ (cons_ ci_ (cons_ ci_ nil_))) (cons_ (tup_ (cons_ cs_ nil_)) (cons_ (tup_ (cons_ cs_ (cons_ ci_ nil_))) nil_))))))) (op_ o_sub (v_ 1) ci_) (fun _ _ => rfl)))))))
set_option maxHeartbeats 4000000 in
theorem sc__law_bent : FnScope N__law_bent [(Str.ofString "_law_hand_here"), (Str.ofString "_law_thing")] (defScope s__law_bent) := ⟨rfl, rfl, rfl, by decide +kernel, rfl, by decide +kernel, by decide +kernel⟩
theorem F__law_bent (T : Tx w K mg) : Fn3 P w K mg base (Str.ofString "_law_bent") 3 sp__law_bent := by
  obtain ⟨fd, F⟩ := T.d__law_bent
  refine fn3 T.g__law_bent F sc__law_bent (FunD.bindsN F fun _ _ _ _ _ _ us hl => match us, hl with | [_, _], _ => rfl) (fun ds G Q E h => by unfold sp__law_bent at h; split at h <;> first | rfl | exact h.elim) ⟨t__law_bent, fun cdv A outer s H E hr => ?_, vc__law_bent⟩
  have nd := (sc__law_bent).nd
  have tk := tk_of (P := P) (w := w) (K := K) (mg := mg) (base := base) (N := N__law_bent) (qual := (Str.ofString "_law_bent")) (scope := defScope s__law_bent) (f := (He.fAd K ((Str.ofString "_law_bent"), none))) (cdv := cdv) (A := A) (outer := outer) (s := s) (H := H) (E := E)
  exact (scons_ (set_ 2 (call_ (F__law_take T) hr (by decide) tk (cons_ (v_ 0) (cons_ ci_ nil_))) nd)
    (scons_ (sif_ (tcm_ (o_eq hr) (v_ 2) ci_ (nomark _)) (sone_ (ret_ (call_ (F__law_pick T) hr (by decide) tk (cons_ (v_ 0) (cons_ (lst_ false (cons_ (call_ (F__law_odd T) hr (by decide) tk (cons_ (v_ 0) nil_)) (cons_ (bt_ (b_list false) T.f_list (by decide +kernel) (cons_ (v_ 1) nil_)) (cons_ (op_ (o_add false) (v_ 1) (tup_ (cons_ ci_ nil_))) (cons_ (sl_ false (v_ 1) on_ (os_ (op_ o_sub (bf_ b_len T.f_len (by decide +kernel) (cons_ (v_ 1) nil_)) ci_))) (cons_ (sl_ false (v_ 1) on_ (os_ ci_)) nil_)))))) nil_))))) snil_)
    (scons_ (sif_ (tcm_ (o_eq hr) (v_ 2) ci_ (nomark _)) (sone_ (ret_ (op_ (o_add false) (tup_ (cons_ (call_ (F__law_pick T) hr (by decide) tk (cons_ (v_ 0) (cons_ (lst_ false (cons_ cs_ (cons_ cs_ (cons_ cs_ (cons_ cs_ (cons_ cs_ (cons_ cs_ (cons_ cs_ (cons_ cs_ (cons_ cs_ (cons_ cn_ (cons_ ci_ nil_)))))))))))) nil_))) nil_)) (sl_ false (v_ 1) (os_ ci_) on_)))) snil_)
    (scons_ (set_ 3 (op_ (o_add false) ci_ (call_ (F__law_take T) hr (by decide) tk (cons_ (v_ 0) (cons_ (op_ o_sub (bf_ b_len T.f_len (by decide +kernel) (cons_ (v_ 1) nil_)) ci_) nil_)))) nd)
    (scons_ (set_ 4 (lst_ false (cons_ (call_ (F__law_odd T) hr (by decide) tk (cons_ (v_ 0) nil_)) (cons_ (neg_ ci_) (cons_ ci_ (cons_ cb_ (cons_ cn_ (cons_ ci_ (cons_ cs_ (cons_ (op_ o_pow ci_ ci_) (cons_ (ix_ (v_ 1) (v_ 3) (fun _ _ => rfl)) (cons_ ci_ nil_))))))))))) nd)
    (sone_ (ret_ (op_ (o_add false) (op_ (o_add false) (sl_ false (v_ 1) on_ (os_ (v_ 3))) (tup_ (cons_ (call_ (F__law_pick T) hr (by decide) tk (cons_ (v_ 0) (cons_ (v_ 4) nil_))) nil_))) (sl_ false (v_ 1) (os_ (op_ (o_add false) (v_ 3) ci_)) on_)))))))))
set_option maxHeartbeats 4000000 in
theorem sc__law_deed : FnScope N__law_deed [(Str.ofString "_law_hand_here"), (Str.ofString "_law_plain_here")] (defScope s__law_deed) := ⟨rfl, rfl, rfl, by decide +kernel, rfl, by decide +kernel, by decide +kernel⟩
theorem F__law_deed (T : Tx w K mg) : Fn3 P w K mg base (Str.ofString "_law_deed") 4 sp__law_deed := by
  obtain ⟨fd, F⟩ := T.d__law_deed
  refine fn3 T.g__law_deed F sc__law_deed (FunD.bindsN F fun _ _ _ _ _ _ us hl => match us, hl with | [_, _], _ => rfl) (fun ds G Q E h => by unfold sp__law_deed at h; split at h <;> first | rfl | exact h.elim) ⟨t__law_deed, fun cdv A outer s H E hr => ?_, vc__law_deed⟩
  have nd := (sc__law_deed).nd
  have tk := tk_of (P := P) (w := w) (K := K) (mg := mg) (base := base) (N := N__law_deed) (qual := (Str.ofString "_law_deed")) (scope := defScope s__law_deed) (f := (He.fAd K ((Str.ofString "_law_deed"), none))) (cdv := cdv) (A := A) (outer := outer) (s := s) (H := H) (E := E)
  exact (scons_ (set_ 2 (ix_ (v_ 1) ci_ (fun _ _ => rfl)) nd)
    (scons_ (set_ 3 (bf_ b_len T.f_len (by decide +kernel) (cons_ (v_ 2) nil_)) nd)
    (scons_ (set_ 4 (call_ (F__law_take T) hr (by decide) tk (cons_ (v_ 0) (cons_ (v_ 3) nil_))) nd)
    (scons_ (set_ 5 (call_ (F__law_take T) hr (by decide) tk (cons_ (v_ 0) (cons_ (v_ 3) nil_))) nd)
    (scons_ (set_ 6 (call_ (F__law_take T) hr (by decide) tk (cons_ (v_ 0) (cons_ ci_ nil_))) nd)
    (scons_ (sif_ (tcm_ o_lt (v_ 6) ci_ (nomark _)) (scons_ (set_ 7 (call_ (F__law_root T) hr (by decide) tk (cons_ (v_ 2) (cons_ (v_ 4) nil_))) nd)
    (sone_ (sif_ (tcm_ (o_ne hr) (call_ (F__law_root T) hr (by decide) tk (cons_ (v_ 2) (cons_ (v_ 5) nil_))) (v_ 7) (nomark _)) (sone_ (ret_ (tup_ (cons_ cs_ (cons_ (v_ 7) (cons_ (v_ 5) nil_)))))) snil_))) snil_)
    (scons_ (sif_ (tw_ (wand_ (tcm_ o_lt (v_ 6) ci_ (nomark _)) (w1and_ (tcm_ o_isnot (ix_ (v_ 2) (v_ 4) (fun _ _ => rfl)) cn_ (nomark _))))) (sone_ (ret_ (tup_ (cons_ cs_ (cons_ (v_ 4) nil_))))) snil_)
    (scons_ (sif_ (tcm_ (o_eq hr) (v_ 6) ci_ (nomark _)) (sone_ (ret_ (tup_ (cons_ cs_ (cons_ (v_ 4) (cons_ (call_ (F__law_value T) hr (by decide) tk (cons_ (v_ 0) nil_)) nil_)))))) snil_)
    (scons_ (sif_ (tw_ (wand_ (tcm_ (o_eq hr) (v_ 6) ci_ (nomark _)) (w1and_ (tcm_ o_isnot (call_ (F__law_common T) hr (by decide) tk (cons_ (v_ 2) (cons_ (v_ 4) (cons_ (v_ 5) nil_)))) cn_ (nomark _))))) (sone_ (ret_ (tup_ (cons_ cs_ (cons_ (v_ 4) (cons_ (v_ 5) (cons_ (call_ (F__law_value T) hr (by decide) tk (cons_ (v_ 0) nil_)) nil_))))))) snil_)
    (scons_ (sif_ (tcm_ (o_eq hr) (v_ 6) ci_ (nomark _)) (sone_ (ret_ (tup_ (cons_ cs_ (cons_ (v_ 4) (cons_ (v_ 4) (cons_ (call_ (F__law_value T) hr (by decide) tk (cons_ (v_ 0) nil_)) nil_))))))) snil_)
    (sone_ (ret_ (tup_ (cons_ cs_ (cons_ (v_ 4) nil_)))))))))))))))
set_option maxHeartbeats 4000000 in
theorem sc__law_some : FnScope N__law_some [(Str.ofString "_law_hand_here"), (Str.ofString "_law_plain_here")] (defScope s__law_some) := ⟨rfl, rfl, rfl, by decide +kernel, rfl, by decide +kernel, by decide +kernel⟩
theorem F__law_some (T : Tx w K mg) : Fn3 P w K mg base (Str.ofString "_law_some") 5 sp__law_some := by
  obtain ⟨fd, F⟩ := T.d__law_some
  refine fn3 T.g__law_some F sc__law_some (FunD.bindsN F fun _ _ _ _ _ _ us hl => match us, hl with | [_, _], _ => rfl) (fun ds G Q E h => by unfold sp__law_some at h; split at h <;> first | rfl | exact h.elim) ⟨t__law_some, fun cdv A outer s H E hr => ?_, vc__law_some⟩
  have nd := (sc__law_some).nd
  have tk := tk_of (P := P) (w := w) (K := K) (mg := mg) (base := base) (N := N__law_some) (qual := (Str.ofString "_law_some")) (scope := defScope s__law_some) (f := (He.fAd K ((Str.ofString "_law_some"), none))) (cdv := cdv) (A := A) (outer := outer) (s := s) (H := H) (E := E)
  exact (scons_ (set_ 2 (bf_ b_len T.f_len (by decide +kernel) (cons_ (ix_ (v_ 1) ci_ (fun _ _ => rfl)) nil_)) nd)
    (scons_ (set_ 3 (call_ (F__law_deed T) hr (by decide) tk (cons_ (v_ 0) (cons_ (v_ 1) nil_))) nd)
    (scons_ (set_ 4 (call_ (F__law_take T) hr (by decide) tk (cons_ (v_ 0) (cons_ ci_ nil_))) nd)
    (scons_ (sif_ (tcm_ o_lt (v_ 4) ci_ (nomark _)) (sone_ (ret_ (v_ 3))) snil_)
    (scons_ (sif_ (tcm_ o_lt (v_ 4) ci_ (nomark _)) (sone_ (ret_ (call_ (F__law_bent T) hr (by decide) tk (cons_ (v_ 0) (cons_ (v_ 3) nil_))))) snil_)
    (scons_ (set_ 5 (call_ (F__law_take T) hr (by decide) tk (cons_ (v_ 0) (cons_ (v_ 2) nil_))) nd)
    (scons_ (set_ 6 (call_ (F__law_take T) hr (by decide) tk (cons_ (v_ 0) (cons_ (v_ 2) nil_))) nd)
    (sone_ (ret_ (call_ (F__law_pick T) hr (by decide) tk (cons_ (v_ 0) (cons_ (lst_ false (cons_ (tup_ (cons_ cs_ (cons_ (v_ 5) (cons_ (v_ 6) nil_)))) (cons_ (tup_ (cons_ cs_ (cons_ (v_ 5) nil_))) (cons_ (tup_ (cons_ cs_ (cons_ (v_ 5) (cons_ (v_ 6) (cons_ ci_ nil_))))) (cons_ (tup_ (cons_ cs_ (cons_ (v_ 5) nil_))) (cons_ (tup_ (cons_ cs_ (cons_ (v_ 5) (cons_ (v_ 6) nil_)))) nil_)))))) nil_))))))))))))
set_option maxHeartbeats 4000000 in
theorem sc_behind : FnScope N_behind [(Str.ofString "forest"), (Str.ofString "deed")] (defScope s_behind) := ⟨rfl, rfl, rfl, by decide +kernel, rfl, by decide +kernel, by decide +kernel⟩
theorem F_behind (T : Tx w K mg) : Fn3 P w K mg base (Str.ofString "behind") 8 sp_behind := by
  obtain ⟨fd, F⟩ := T.d_behind
  refine fn3 T.g_behind F sc_behind (FunD.bindsN F fun _ _ _ _ _ _ us hl => match us, hl with | [_, _], _ => rfl) (fun ds G Q E h => by unfold sp_behind at h; split at h <;> first | rfl | exact h.elim) ⟨t_behind, fun cdv A outer s H E hr => ?_, vc_behind⟩
  have nd := (sc_behind).nd
  have tk := tk_of (P := P) (w := w) (K := K) (mg := mg) (base := base) (N := N_behind) (qual := (Str.ofString "behind")) (scope := defScope s_behind) (f := (He.fAd K ((Str.ofString "behind"), none))) (cdv := cdv) (A := A) (outer := outer) (s := s) (H := H) (E := E)
  exact (scons_ (sif_ (tnot_ (tv_ (call_ (F_is_deed T) hr (by decide) tk (cons_ (v_ 0) (cons_ (v_ 1) nil_))))) (sone_ (raise0_ rfl tk T.x_NoDeed T.g_NoDeed)) snil_)
    (sone_ (ret_ (call_ (F_after_deed T) hr (by decide) tk (cons_ (v_ 0) (cons_ (v_ 1) nil_))))))
set_option maxHeartbeats 4000000 in
theorem sc__law_told : FnScope N__law_told [(Str.ofString "_law_forest"), (Str.ofString "_law_thing")] (defScope s__law_told) := ⟨rfl, rfl, rfl, by decide +kernel, rfl, by decide +kernel, by decide +kernel⟩
theorem F__law_told (T : Tx w K mg) : Fn3 P w K mg base (Str.ofString "_law_told") 9 sp__law_told := by
  obtain ⟨fd, F⟩ := T.d__law_told
  refine fn3 T.g__law_told F sc__law_told (FunD.bindsN F fun _ _ _ _ _ _ us hl => match us, hl with | [_, _], _ => rfl) (fun ds G Q E h => by unfold sp__law_told at h; split at h <;> first | rfl | exact h.elim) ⟨t__law_told, fun cdv A outer s H E hr => ?_, vc__law_told⟩
  have nd := (sc__law_told).nd
  have tk := tk_of (P := P) (w := w) (K := K) (mg := mg) (base := base) (N := N__law_told) (qual := (Str.ofString "_law_told")) (scope := defScope s__law_told) (f := (He.fAd K ((Str.ofString "_law_told"), none))) (cdv := cdv) (A := A) (outer := outer) (s := s) (H := H) (E := E)
  have pas := pas_of (P := P) (w := w) (K := K) (mg := mg) (base := base) (N := N__law_told) (qual := (Str.ofString "_law_told")) (scope := defScope s__law_told) (f := (He.fAd K ((Str.ofString "_law_told"), none))) (cdv := cdv) (A := A) (outer := outer) (s := s) (H := H) (E := E)
  exact (sone_ (try_ rfl rfl nd tk T.exm (fun _ _ _ tk pas => (scons_ (set_ 2 (call_ (F_behind T) hr (by decide) tk (cons_ (v_ 0) (cons_ (v_ 1) nil_))) nd)
    (sone_ (ret_ (tup_ (cons_ cs_ (cons_ (fld_ (Str.ofString "Forest") T.c_Forest T.n_Forest_parents (v_ 2)) (cons_ (fld_ (Str.ofString "Forest") T.c_Forest T.n_Forest_worths (v_ 2)) nil_)))))))) (.cons ⟨rfl, by decide +kernel, .inl T.g_NoDeed⟩ (fun _ _ _ _ _ hz hf => (sone_ (ret_ (tup_ (cons_ cs_ nil_))))) .nil)))
set_option maxHeartbeats 4000000 in
theorem sc_law : FnScope N_law [(Str.ofString "_law_script")] (defScope s_law) := ⟨rfl, rfl, rfl, by decide +kernel, rfl, by decide +kernel, by decide +kernel⟩
theorem F_law (T : Tx w K mg) : ∃ fd, (∀ (s : Shared) (u : Value), BindsTo s fd ⟨[u], []⟩ [((Str.ofString "_law_script"), u)]) ∧ ∀ base : Heap, FnOk P w K mg base (L2.CX P w) 10 (ga K (Str.ofString "law")) fd [(Str.ofString "_law_script")] (liftSp ⟨K, Z0⟩ sp_law) := by
  obtain ⟨fd, F⟩ := T.d_law
  refine ⟨fd, fun s u => (FunD.bindsA (ps := [(Str.ofString "_law_script")]) F fun _ _ _ _ _ _ us hl => match us, hl with | [_], _ => rfl) s [u] rfl, fun base => fn3_of F sc_law (fun ds G Q E h => by unfold sp_law at h; split at h <;> first | rfl | exact h.elim) ⟨t_law, fun cdv A outer s H E hr => ?_, vc_law⟩⟩
  have nd := (sc_law).nd
  have tk := tk_of (P := P) (w := w) (K := K) (mg := mg) (base := base) (N := N_law) (qual := (Str.ofString "law")) (scope := defScope s_law) (f := (He.fAd K ((Str.ofString "law"), none))) (cdv := cdv) (A := A) (outer := outer) (s := s) (H := H) (E := E)
  have pas := pas_of (P := P) (w := w) (K := K) (mg := mg) (base := base) (N := N_law) (qual := (Str.ofString "law")) (scope := defScope s_law) (f := (He.fAd K ((Str.ofString "law"), none))) (cdv := cdv) (A := A) (outer := outer) (s := s) (H := H) (E := E)
  exact (scons_ (set_ 1 (call_ (F__law_hand T) hr (by decide) tk (cons_ (v_ 0) nil_)) nd)
    (scons_ (set_ 2 (call_ (F__law_plain T) hr (by decide) tk (cons_ (v_ 1) (cons_ (lst_ false (cons_ ci_ (cons_ ci_ (cons_ ci_ (cons_ ci_ (cons_ ci_ (cons_ ci_ nil_))))))) nil_))) nd)
    (scons_ (set_ 3 (call_ (F__law_forest_of T) hr (by decide) tk (cons_ (v_ 2) nil_)) nd)
    (scons_ (set_ 4 (v_ 2) nd)
    (scons_ (set_ 5 (tup_ (cons_ (fld_ (Str.ofString "Forest") T.c_Forest T.n_Forest_parents (v_ 3)) (cons_ (fld_ (Str.ofString "Forest") T.c_Forest T.n_Forest_worths (v_ 3)) nil_))) nd)
    (scons_ (set_ 6 (lst_ true nil_) nd)
    (scons_ (for_ (.n 7) pas rfl (irng1_ T.f_range (cons_ (call_ (F__law_take T) hr (by decide) tk (cons_ (v_ 1) (cons_ ci_ nil_))) nil_)) (tg1_ 7 nd) (scons_ (set_ 13 (call_ (F__law_some T) hr (by decide) tk (cons_ (v_ 1) (cons_ (v_ 2) nil_))) nd)
    (scons_ (set_ 14 (call_ (F__law_can T) hr (by decide) tk (cons_ (v_ 2) (cons_ (v_ 13) nil_))) nd)
    (scons_ (set_ 15 (call_ (F__law_forest_of T) hr (by decide) tk (cons_ (v_ 2) nil_)) nd)
    (scons_ (sif_ (tnot_ (tv_ (call_ (F__law_same T 4) hr (by decide) tk (cons_ (call_ (F_is_deed T) hr (by decide) tk (cons_ (v_ 15) (cons_ (v_ 13) nil_))) (cons_ (v_ 14) nil_))))) (sone_ (ret_ cb_)) snil_)
    (scons_ (set_ 8 (tup_ (cons_ cs_ nil_)) nd)
    (scons_ (sif_ (tv_ (v_ 14)) (scons_ (set_ 2 (call_ (F__law_behind T) hr (by decide) tk (cons_ (v_ 2) (cons_ (v_ 13) nil_))) nd)
    (scons_ (expr_ (m_ PySem.F.plainAttrs_list PySem.F.slot_list_append PySem.F.type_list_append ty_list me_append (v_ 6) (cons_ (v_ 13) nil_)))
    (sone_ (set_ 8 (tup_ (cons_ cs_ (cons_ (bt_ b_tup T.f_tuple (by decide +kernel) (cons_ (ix_ (v_ 2) ci_ (fun _ _ => rfl)) nil_)) (cons_ (bt_ b_tup T.f_tuple (by decide +kernel) (cons_ (ix_ (v_ 2) ci_ (fun _ _ => rfl)) nil_)) nil_)))) nd)))) snil_)
    (sone_ (sif_ (tnot_ (tv_ (call_ (F__law_same T 4) hr (by decide) tk (cons_ (call_ (F__law_told T) hr (by decide) tk (cons_ (v_ 15) (cons_ (v_ 13) nil_))) (cons_ (v_ 8) nil_))))) (sone_ (ret_ cb_)) snil_)))))))))
    (scons_ (set_ 8 (tup_ (cons_ cs_ (cons_ (bt_ b_tup T.f_tuple (by decide +kernel) (cons_ (ix_ (v_ 2) ci_ (fun _ _ => rfl)) nil_)) (cons_ (bt_ b_tup T.f_tuple (by decide +kernel) (cons_ (ix_ (v_ 2) ci_ (fun _ _ => rfl)) nil_)) nil_)))) nd)
    (scons_ (sif_ (tw_ (wor_ (tnot_ (tv_ (call_ (F__law_same T 4) hr (by decide) tk (cons_ (call_ (F__law_led_told T) hr (by decide) tk (cons_ (v_ 3) (cons_ (v_ 6) nil_))) (cons_ (v_ 8) nil_))))) (w1or_ (tnot_ (tv_ (call_ (F__law_same T 4) hr (by decide) tk (cons_ (call_ (F__law_led_told T) hr (by decide) tk (cons_ (v_ 3) (cons_ (bt_ b_tup T.f_tuple (by decide +kernel) (cons_ (v_ 6) nil_)) nil_))) (cons_ (v_ 8) nil_)))))))) (sone_ (ret_ cb_)) snil_)
    (scons_ (set_ 9 (call_ (F__law_take T) hr (by decide) tk (cons_ (v_ 1) (cons_ (op_ (o_add false) (bf_ b_len T.f_len (by decide +kernel) (cons_ (v_ 6) nil_)) ci_) nil_))) nd)
    (scons_ (set_ 10 (v_ 4) nd)
    (scons_ (for_ (.n 11) pas rfl (iseq_ (sl_ false (v_ 6) on_ (os_ (v_ 9)))) (tg1_ 11 nd) (sone_ (set_ 10 (call_ (F__law_behind T) hr (by decide) tk (cons_ (v_ 10) (cons_ (v_ 11) nil_))) nd)))
    (scons_ (set_ 12 (call_ (F__law_some T) hr (by decide) tk (cons_ (v_ 1) (cons_ (v_ 10) nil_))) nd)
    (scons_ (sif_ (tw_ (wand_ (tnot_ (tv_ (call_ (F__law_can T) hr (by decide) tk (cons_ (v_ 10) (cons_ (v_ 12) nil_))))) (w1and_ (tcm_ (o_ne hr) (call_ (F__law_led_told T) hr (by decide) tk (cons_ (v_ 3) (cons_ (op_ (o_add false) (op_ (o_add false) (sl_ false (v_ 6) on_ (os_ (v_ 9))) (lst_ false (cons_ (v_ 12) nil_))) (sl_ false (v_ 6) (os_ (v_ 9)) on_)) nil_))) (tup_ (cons_ cs_ (cons_ (v_ 9) nil_))) (nomark _))))) (sone_ (ret_ cb_)) snil_)
    (scons_ (sif_ (tcm_ (o_ne hr) (call_ (F__law_led_told T) hr (by decide) tk (cons_ (v_ 3) (cons_ (call_ (F__law_pick T) hr (by decide) tk (cons_ (v_ 1) (cons_ (lst_ false (cons_ cn_ (cons_ ci_ (cons_ cs_ (cons_ emp_ (cons_ cb_ nil_)))))) nil_))) nil_))) (tup_ (cons_ cs_ (cons_ (neg_ ci_) nil_))) (nomark _)) (sone_ (ret_ cb_)) snil_)
    (sone_ (ret_ (call_ (F__law_same T 4) hr (by decide) tk (cons_ (tup_ (cons_ (fld_ (Str.ofString "Forest") T.c_Forest T.n_Forest_parents (v_ 3)) (cons_ (fld_ (Str.ofString "Forest") T.c_Forest T.n_Forest_worths (v_ 3)) nil_))) (cons_ (v_ 5) nil_))))))))))))))))))))
end
theorem law_start (ns : List Int) (Q : QK) (E : EK) (l : ns.length ≤ 63) (h : ∀ G, Q (.bl true) G) : sp_law [.sl (ns.map D.int)] (fun _ => none) Q E :=
  ⟨fun x hx => by obtain ⟨i, _, e⟩ := List.mem_map.mp hx; exact ⟨i, e.symm⟩, by simpa using l, h⟩
/-! ### the head -/
def dd__law_up : He.DefD := ⟨((Str.ofString "_law_up"), none), (Str.ofString "_law_up"), (Str.ofString "_law_up"), defArgs s__law_up, defBody s__law_up, defScope s__law_up, [], []⟩
def dd__law_common : He.DefD := ⟨((Str.ofString "_law_common"), none), (Str.ofString "_law_common"), (Str.ofString "_law_common"), defArgs s__law_common, defBody s__law_common, defScope s__law_common, [], []⟩
def dd__law_way : He.DefD := ⟨((Str.ofString "_law_way"), none), (Str.ofString "_law_way"), (Str.ofString "_law_way"), defArgs s__law_way, defBody s__law_way, defScope s__law_way, [], []⟩
def dd__law_behind : He.DefD := ⟨((Str.ofString "_law_behind"), none), (Str.ofString "_law_behind"), (Str.ofString "_law_behind"), defArgs s__law_behind, defBody s__law_behind, defScope s__law_behind, [], []⟩
def dd__law_is_integer : He.DefD := ⟨((Str.ofString "_law_is_integer"), none), (Str.ofString "_law_is_integer"), (Str.ofString "_law_is_integer"), defArgs s__law_is_integer, defBody s__law_is_integer, defScope s__law_is_integer, [], []⟩
def dd__law_is_within : He.DefD := ⟨((Str.ofString "_law_is_within"), none), (Str.ofString "_law_is_within"), (Str.ofString "_law_is_within"), defArgs s__law_is_within, defBody s__law_is_within, defScope s__law_is_within, [], []⟩
def dd__law_are_houses : He.DefD := ⟨((Str.ofString "_law_are_houses"), none), (Str.ofString "_law_are_houses"), (Str.ofString "_law_are_houses"), defArgs s__law_are_houses, defBody s__law_are_houses, defScope s__law_are_houses, [], []⟩
def dd__law_deed_form : He.DefD := ⟨((Str.ofString "_law_deed_form"), none), (Str.ofString "_law_deed_form"), (Str.ofString "_law_deed_form"), defArgs s__law_deed_form, defBody s__law_deed_form, defScope s__law_deed_form, [], []⟩
def dd__law_root : He.DefD := ⟨((Str.ofString "_law_root"), none), (Str.ofString "_law_root"), (Str.ofString "_law_root"), defArgs s__law_root, defBody s__law_root, defScope s__law_root, [], []⟩
def dd__law_can : He.DefD := ⟨((Str.ofString "_law_can"), none), (Str.ofString "_law_can"), (Str.ofString "_law_can"), defArgs s__law_can, defBody s__law_can, defScope s__law_can, [], []⟩
def dd_comes_to_none : He.DefD := ⟨((Str.ofString "comes_to_none"), none), (Str.ofString "comes_to_none"), (Str.ofString "comes_to_none"), defArgs s_comes_to_none, defBody s_comes_to_none, defScope s_comes_to_none, [], []⟩
def dd_is_integer : He.DefD := ⟨((Str.ofString "is_integer"), none), (Str.ofString "is_integer"), (Str.ofString "is_integer"), defArgs s_is_integer, defBody s_is_integer, defScope s_is_integer, [], []⟩
def dd_is_within : He.DefD := ⟨((Str.ofString "is_within"), none), (Str.ofString "is_within"), (Str.ofString "is_within"), defArgs s_is_within, defBody s_is_within, defScope s_is_within, [], []⟩
def dd_is_below : He.DefD := ⟨((Str.ofString "is_below"), none), (Str.ofString "is_below"), (Str.ofString "is_below"), defArgs s_is_below, defBody s_is_below, defScope s_is_below, [], []⟩
def dd_is_sized : He.DefD := ⟨((Str.ofString "is_sized"), none), (Str.ofString "is_sized"), (Str.ofString "is_sized"), defArgs s_is_sized, defBody s_is_sized, defScope s_is_sized, [], []⟩
def dd_are_parents : He.DefD := ⟨((Str.ofString "are_parents"), none), (Str.ofString "are_parents"), (Str.ofString "are_parents"), defArgs s_are_parents, defBody s_are_parents, defScope s_are_parents, [], []⟩
def dd_Forest___init__ : He.DefD := ⟨((Str.ofString "Forest"), some (Str.ofString "__init__")), (Str.ofString "__init__"), (Str.ofString "Forest.__init__"), defArgs s_Forest___init__, defBody s_Forest___init__, defScope s_Forest___init__, [], []⟩
def dd__law_forest_of : He.DefD := ⟨((Str.ofString "_law_forest_of"), none), (Str.ofString "_law_forest_of"), (Str.ofString "_law_forest_of"), defArgs s__law_forest_of, defBody s__law_forest_of, defScope s__law_forest_of, [], []⟩
def dd__law_hand : He.DefD := ⟨((Str.ofString "_law_hand"), none), (Str.ofString "_law_hand"), (Str.ofString "_law_hand"), defArgs s__law_hand, defBody s__law_hand, defScope s__law_hand, [], []⟩
def dd_up_from : He.DefD := ⟨((Str.ofString "up_from"), none), (Str.ofString "up_from"), (Str.ofString "up_from"), defArgs s_up_from, defBody s_up_from, defScope s_up_from, [], []⟩
def dd_common_of : He.DefD := ⟨((Str.ofString "common_of"), none), (Str.ofString "common_of"), (Str.ofString "common_of"), defArgs s_common_of, defBody s_common_of, defScope s_common_of, [], []⟩
def dd_way_of : He.DefD := ⟨((Str.ofString "way_of"), none), (Str.ofString "way_of"), (Str.ofString "way_of"), defArgs s_way_of, defBody s_way_of, defScope s_way_of, [], []⟩
def dd_added_values : He.DefD := ⟨((Str.ofString "added_values"), none), (Str.ofString "added_values"), (Str.ofString "added_values"), defArgs s_added_values, defBody s_added_values, defScope s_added_values, [], []⟩
def dd_replaced : He.DefD := ⟨((Str.ofString "replaced"), none), (Str.ofString "replaced"), (Str.ofString "replaced"), defArgs s_replaced, defBody s_replaced, defScope s_replaced, [], []⟩
def dd_turned_parents : He.DefD := ⟨((Str.ofString "turned_parents"), none), (Str.ofString "turned_parents"), (Str.ofString "turned_parents"), defArgs s_turned_parents, defBody s_turned_parents, defScope s_turned_parents, [], []⟩
def dd_after_deed : He.DefD := ⟨((Str.ofString "after_deed"), none), (Str.ofString "after_deed"), (Str.ofString "after_deed"), defArgs s_after_deed, defBody s_after_deed, defScope s_after_deed, [], []⟩
def dd_has_form : He.DefD := ⟨((Str.ofString "has_form"), none), (Str.ofString "has_form"), (Str.ofString "has_form"), defArgs s_has_form, defBody s_has_form, defScope s_has_form, [], []⟩
def dd_is_possible : He.DefD := ⟨((Str.ofString "is_possible"), none), (Str.ofString "is_possible"), (Str.ofString "is_possible"), defArgs s_is_possible, defBody s_is_possible, defScope s_is_possible, [], []⟩
def dd_is_deed : He.DefD := ⟨((Str.ofString "is_deed"), none), (Str.ofString "is_deed"), (Str.ofString "is_deed"), defArgs s_is_deed, defBody s_is_deed, defScope s_is_deed, [], []⟩
def dd_is_listed : He.DefD := ⟨((Str.ofString "is_listed"), none), (Str.ofString "is_listed"), (Str.ofString "is_listed"), defArgs s_is_listed, defBody s_is_listed, defScope s_is_listed, [], []⟩
def dd_led : He.DefD := ⟨((Str.ofString "led"), none), (Str.ofString "led"), (Str.ofString "led"), defArgs s_led, defBody s_led, defScope s_led, [], []⟩
def dd__law_led_told : He.DefD := ⟨((Str.ofString "_law_led_told"), none), (Str.ofString "_law_led_told"), (Str.ofString "_law_led_told"), defArgs s__law_led_told, defBody s__law_led_told, defScope s__law_led_told, [], []⟩
def dd__law_take : He.DefD := ⟨((Str.ofString "_law_take"), none), (Str.ofString "_law_take"), (Str.ofString "_law_take"), defArgs s__law_take, defBody s__law_take, defScope s__law_take, [], []⟩
def dd__law_pick : He.DefD := ⟨((Str.ofString "_law_pick"), none), (Str.ofString "_law_pick"), (Str.ofString "_law_pick"), defArgs s__law_pick, defBody s__law_pick, defScope s__law_pick, [], []⟩
def dd__law_parents : He.DefD := ⟨((Str.ofString "_law_parents"), none), (Str.ofString "_law_parents"), (Str.ofString "_law_parents"), defArgs s__law_parents, defBody s__law_parents, defScope s__law_parents, [], []⟩
def dd__law_value : He.DefD := ⟨((Str.ofString "_law_value"), none), (Str.ofString "_law_value"), (Str.ofString "_law_value"), defArgs s__law_value, defBody s__law_value, defScope s__law_value, [], []⟩
def dd__law_plain : He.DefD := ⟨((Str.ofString "_law_plain"), none), (Str.ofString "_law_plain"), (Str.ofString "_law_plain"), defArgs s__law_plain, defBody s__law_plain, defScope s__law_plain, [], []⟩
def dd__law_same : He.DefD := ⟨((Str.ofString "_law_same"), none), (Str.ofString "_law_same"), (Str.ofString "_law_same"), defArgs s__law_same, defBody s__law_same, defScope s__law_same, [], []⟩
def dd__law_odd : He.DefD := ⟨((Str.ofString "_law_odd"), none), (Str.ofString "_law_odd"), (Str.ofString "_law_odd"), defArgs s__law_odd, defBody s__law_odd, defScope s__law_odd, [], []⟩
def dd__law_bent : He.DefD := ⟨((Str.ofString "_law_bent"), none), (Str.ofString "_law_bent"), (Str.ofString "_law_bent"), defArgs s__law_bent, defBody s__law_bent, defScope s__law_bent, [], []⟩
def dd__law_deed : He.DefD := ⟨((Str.ofString "_law_deed"), none), (Str.ofString "_law_deed"), (Str.ofString "_law_deed"), defArgs s__law_deed, defBody s__law_deed, defScope s__law_deed, [], []⟩
def dd__law_some : He.DefD := ⟨((Str.ofString "_law_some"), none), (Str.ofString "_law_some"), (Str.ofString "_law_some"), defArgs s__law_some, defBody s__law_some, defScope s__law_some, [], []⟩
def dd_behind : He.DefD := ⟨((Str.ofString "behind"), none), (Str.ofString "behind"), (Str.ofString "behind"), defArgs s_behind, defBody s_behind, defScope s_behind, [], []⟩
def dd__law_told : He.DefD := ⟨((Str.ofString "_law_told"), none), (Str.ofString "_law_told"), (Str.ofString "_law_told"), defArgs s__law_told, defBody s__law_told, defScope s__law_told, [], []⟩
def dd_law : He.DefD := ⟨((Str.ofString "law"), none), (Str.ofString "law"), (Str.ofString "law"), defArgs s_law, defBody s_law, defScope s_law, [], []⟩
def dd_BadDeeds___init__ : He.DefD := ⟨((Str.ofString "BadDeeds"), some (Str.ofString "__init__")), (Str.ofString "__init__"), (Str.ofString "BadDeeds.__init__"), defArgs s_BadDeeds___init__, defBody s_BadDeeds___init__, defScope s_BadDeeds___init__, [], []⟩
def fn : List He.DefD := [dd__law_up, dd__law_common, dd__law_way, dd__law_behind, dd__law_is_integer, dd__law_is_within, dd__law_are_houses, dd__law_deed_form, dd__law_root, dd__law_can, dd_comes_to_none, dd_is_integer, dd_is_within, dd_is_below, dd_is_sized, dd_are_parents, dd_Forest___init__, dd__law_forest_of, dd__law_hand, dd_up_from, dd_common_of, dd_way_of, dd_added_values, dd_replaced, dd_turned_parents, dd_after_deed, dd_has_form, dd_is_possible, dd_is_deed, dd_is_listed, dd_led, dd__law_led_told, dd__law_take, dd__law_pick, dd__law_parents, dd__law_value, dd__law_plain, dd__law_same, dd__law_odd, dd__law_bent, dd__law_deed, dd__law_some, dd_behind, dd__law_told, dd_law, dd_BadDeeds___init__]
def fa : List He.Fa := [.free (Str.ofString "isinstance"), .free (Str.ofString "int"), .free (Str.ofString "bool"), .glo (Str.ofString "is_integer"), .glo (Str.ofString "is_within"), .free (Str.ofString "tuple"), .free (Str.ofString "len"), .free (Str.ofString "list"), .free (Str.ofString "range"), .int (Str.ofString "MOST_HOUSES") 64, .glo (Str.ofString "is_sized"), .glo (Str.ofString "is_below"), .free (Str.ofString "all"), .glo (Str.ofString "comes_to_none"), .glo (Str.ofString "are_parents"), .cls (Str.ofString "Forest"), .noat (Str.ofString "Forest") (Str.ofString "parents"), .noat (Str.ofString "Forest") (Str.ofString "worths"), .glo (Str.ofString "up_from"), .free (Str.ofString "dict"), .glo (Str.ofString "common_of"), .free (Str.ofString "str"), .glo (Str.ofString "SIZES"), .glo (Str.ofString "HOUSES"), .str (Str.ofString "LINK") (Str.ofString "link"), .str (Str.ofString "CUT") (Str.ofString "cut"), .str (Str.ofString "ADD") (Str.ofString "add"), .glo (Str.ofString "has_form"), .glo (Str.ofString "is_possible"), .free (Str.ofString "zip"), .glo (Str.ofString "way_of"), .free (Str.ofString "enumerate"), .glo (Str.ofString "replaced"), .glo (Str.ofString "Forest"), .mkr (Str.ofString "Forest"), .str (Str.ofString "TURN") (Str.ofString "turn"), .glo (Str.ofString "turned_parents"), .str (Str.ofString "PUT") (Str.ofString "put"), .glo (Str.ofString "added_values"), .glo (Str.ofString "is_deed"), .exc (Str.ofString "NoDeed"), .glo (Str.ofString "NoDeed"), .glo (Str.ofString "after_deed"), .glo (Str.ofString "is_listed"), .glo (Str.ofString "BadDeeds"), .glo (Str.ofString "_law_take"), .glo (Str.ofString "_law_is_integer"), .glo (Str.ofString "_law_same"), .glo (Str.ofString "_law_pick"), .free (Str.ofString "max"), .glo (Str.ofString "_law_value"), .glo (Str.ofString "_law_parents"), .glo (Str.ofString "_law_up"), .glo (Str.ofString "_law_common"), .glo (Str.ofString "_law_is_within"), .glo (Str.ofString "_law_are_houses"), .glo (Str.ofString "_law_deed_form"), .glo (Str.ofString "_law_root"), .glo (Str.ofString "_law_way"), .glo (Str.ofString "_law_odd"), .glo (Str.ofString "behind"), .glo (Str.ofString "led"), .glo (Str.ofString "_law_deed"), .glo (Str.ofString "_law_bent"), .glo (Str.ofString "_law_hand"), .glo (Str.ofString "_law_plain"), .glo (Str.ofString "_law_forest_of"), .glo (Str.ofString "_law_some"), .glo (Str.ofString "_law_can"), .glo (Str.ofString "_law_behind"), .glo (Str.ofString "_law_told"), .glo (Str.ofString "_law_led_told"), .glo (Str.ofString "law")]
def ts : List He.Tab := [((fun K => ga K (Str.ofString "SIZES")), [(Str.ofString "link"), (Str.ofString "cut"), (Str.ofString "turn"), (Str.ofString "put"), (Str.ofString "add")]), ((fun K => ga K (Str.ofString "HOUSES")), [(Str.ofString "link"), (Str.ofString "cut"), (Str.ofString "turn"), (Str.ofString "put"), (Str.ofString "add")])]
def exAll (K : PySem.W.Frag) : Bool := isfB OC K && (tabI (Str.ofString "SIZES") [((Str.ofString "link"), 3), ((Str.ofString "cut"), 2), ((Str.ofString "turn"), 2), ((Str.ofString "put"), 3), ((Str.ofString "add"), 4)] K && (tabI (Str.ofString "HOUSES") [((Str.ofString "link"), 2), ((Str.ofString "cut"), 1), ((Str.ofString "turn"), 1), ((Str.ofString "put"), 1), ((Str.ofString "add"), 2)] K && (exfB (Str.ofString "BadDeeds") (Str.ofString "index") K && (exmB EXM K && (true)))))
theorem tx_of {w : World} {K : PySem.W.Frag} {h : Heap} {mg : Str → Option Value} (X : K.In h) (G : h.Ns mainGlobals mg) (c : He.SaysX fa fn ts [] exAll w h K) : Tx w K mg where
  f_isinstance := He.free_ok X G (c.t.d.fact 0 (f := .free (Str.ofString "isinstance")) rfl)
  f_int := He.free_ok X G (c.t.d.fact 1 (f := .free (Str.ofString "int")) rfl)
  isf := isf_ok (He.ba c.more).1
  f_bool := He.free_ok X G (c.t.d.fact 2 (f := .free (Str.ofString "bool")) rfl)
  g_is_integer := He.glo_ok X G (c.t.d.fact 3 (f := .glo (Str.ofString "is_integer")) rfl)
  g_is_within := He.glo_ok X G (c.t.d.fact 4 (f := .glo (Str.ofString "is_within")) rfl)
  f_tuple := He.free_ok X G (c.t.d.fact 5 (f := .free (Str.ofString "tuple")) rfl)
  f_len := He.free_ok X G (c.t.d.fact 6 (f := .free (Str.ofString "len")) rfl)
  f_list := He.free_ok X G (c.t.d.fact 7 (f := .free (Str.ofString "list")) rfl)
  f_range := He.free_ok X G (c.t.d.fact 8 (f := .free (Str.ofString "range")) rfl)
  i_MOST_HOUSES := He.int_ok X G (c.t.d.fact 9 (f := .int (Str.ofString "MOST_HOUSES") 64) rfl)
  g_is_sized := He.glo_ok X G (c.t.d.fact 10 (f := .glo (Str.ofString "is_sized")) rfl)
  g_is_below := He.glo_ok X G (c.t.d.fact 11 (f := .glo (Str.ofString "is_below")) rfl)
  f_all := He.free_ok X G (c.t.d.fact 12 (f := .free (Str.ofString "all")) rfl)
  g_comes_to_none := He.glo_ok X G (c.t.d.fact 13 (f := .glo (Str.ofString "comes_to_none")) rfl)
  g_are_parents := He.glo_ok X G (c.t.d.fact 14 (f := .glo (Str.ofString "are_parents")) rfl)
  c_Forest := He.cls_ok (c.t.d.fact 15 (f := .cls (Str.ofString "Forest")) rfl)
  n_Forest_parents := He.noat_ok (c.t.d.fact 16 (f := .noat (Str.ofString "Forest") (Str.ofString "parents")) rfl)
  n_Forest_worths := He.noat_ok (c.t.d.fact 17 (f := .noat (Str.ofString "Forest") (Str.ofString "worths")) rfl)
  g_up_from := He.glo_ok X G (c.t.d.fact 18 (f := .glo (Str.ofString "up_from")) rfl)
  f_dict := He.free_ok X G (c.t.d.fact 19 (f := .free (Str.ofString "dict")) rfl)
  g_common_of := He.glo_ok X G (c.t.d.fact 20 (f := .glo (Str.ofString "common_of")) rfl)
  f_str := He.free_ok X G (c.t.d.fact 21 (f := .free (Str.ofString "str")) rfl)
  g_SIZES := He.glo_ok X G (c.t.d.fact 22 (f := .glo (Str.ofString "SIZES")) rfl)
  tb_SIZES := tabF_ok (He.ba (He.ba c.more).2).1 (c.t.tab 0)
  g_HOUSES := He.glo_ok X G (c.t.d.fact 23 (f := .glo (Str.ofString "HOUSES")) rfl)
  tb_HOUSES := tabF_ok (He.ba (He.ba (He.ba c.more).2).2).1 (c.t.tab 1)
  s_LINK := He.str_ok X G (c.t.d.fact 24 (f := .str (Str.ofString "LINK") (Str.ofString "link")) rfl)
  s_CUT := He.str_ok X G (c.t.d.fact 25 (f := .str (Str.ofString "CUT") (Str.ofString "cut")) rfl)
  s_ADD := He.str_ok X G (c.t.d.fact 26 (f := .str (Str.ofString "ADD") (Str.ofString "add")) rfl)
  g_has_form := He.glo_ok X G (c.t.d.fact 27 (f := .glo (Str.ofString "has_form")) rfl)
  g_is_possible := He.glo_ok X G (c.t.d.fact 28 (f := .glo (Str.ofString "is_possible")) rfl)
  f_zip := He.free_ok X G (c.t.d.fact 29 (f := .free (Str.ofString "zip")) rfl)
  g_way_of := He.glo_ok X G (c.t.d.fact 30 (f := .glo (Str.ofString "way_of")) rfl)
  f_enumerate := He.free_ok X G (c.t.d.fact 31 (f := .free (Str.ofString "enumerate")) rfl)
  g_replaced := He.glo_ok X G (c.t.d.fact 32 (f := .glo (Str.ofString "replaced")) rfl)
  g_Forest := He.glo_ok X G (c.t.d.fact 33 (f := .glo (Str.ofString "Forest")) rfl)
  m_Forest := He.mkr_ok (c.t.d.fact 34 (f := .mkr (Str.ofString "Forest")) rfl)
  s_TURN := He.str_ok X G (c.t.d.fact 35 (f := .str (Str.ofString "TURN") (Str.ofString "turn")) rfl)
  g_turned_parents := He.glo_ok X G (c.t.d.fact 36 (f := .glo (Str.ofString "turned_parents")) rfl)
  s_PUT := He.str_ok X G (c.t.d.fact 37 (f := .str (Str.ofString "PUT") (Str.ofString "put")) rfl)
  g_added_values := He.glo_ok X G (c.t.d.fact 38 (f := .glo (Str.ofString "added_values")) rfl)
  g_is_deed := He.glo_ok X G (c.t.d.fact 39 (f := .glo (Str.ofString "is_deed")) rfl)
  x_NoDeed := excF_ok (c.t.d.fact 40 (f := .exc (Str.ofString "NoDeed")) rfl)
  g_NoDeed := He.glo_ok X G (c.t.d.fact 41 (f := .glo (Str.ofString "NoDeed")) rfl)
  g_after_deed := He.glo_ok X G (c.t.d.fact 42 (f := .glo (Str.ofString "after_deed")) rfl)
  g_is_listed := He.glo_ok X G (c.t.d.fact 43 (f := .glo (Str.ofString "is_listed")) rfl)
  xf_BadDeeds := exfF_ok (He.ba (He.ba (He.ba (He.ba c.more).2).2).2).1
  g_BadDeeds := He.glo_ok X G (c.t.d.fact 44 (f := .glo (Str.ofString "BadDeeds")) rfl)
  g__law_take := He.glo_ok X G (c.t.d.fact 45 (f := .glo (Str.ofString "_law_take")) rfl)
  g__law_is_integer := He.glo_ok X G (c.t.d.fact 46 (f := .glo (Str.ofString "_law_is_integer")) rfl)
  g__law_same := He.glo_ok X G (c.t.d.fact 47 (f := .glo (Str.ofString "_law_same")) rfl)
  g__law_pick := He.glo_ok X G (c.t.d.fact 48 (f := .glo (Str.ofString "_law_pick")) rfl)
  f_max := He.free_ok X G (c.t.d.fact 49 (f := .free (Str.ofString "max")) rfl)
  g__law_value := He.glo_ok X G (c.t.d.fact 50 (f := .glo (Str.ofString "_law_value")) rfl)
  g__law_parents := He.glo_ok X G (c.t.d.fact 51 (f := .glo (Str.ofString "_law_parents")) rfl)
  g__law_up := He.glo_ok X G (c.t.d.fact 52 (f := .glo (Str.ofString "_law_up")) rfl)
  g__law_common := He.glo_ok X G (c.t.d.fact 53 (f := .glo (Str.ofString "_law_common")) rfl)
  g__law_is_within := He.glo_ok X G (c.t.d.fact 54 (f := .glo (Str.ofString "_law_is_within")) rfl)
  g__law_are_houses := He.glo_ok X G (c.t.d.fact 55 (f := .glo (Str.ofString "_law_are_houses")) rfl)
  g__law_deed_form := He.glo_ok X G (c.t.d.fact 56 (f := .glo (Str.ofString "_law_deed_form")) rfl)
  g__law_root := He.glo_ok X G (c.t.d.fact 57 (f := .glo (Str.ofString "_law_root")) rfl)
  g__law_way := He.glo_ok X G (c.t.d.fact 58 (f := .glo (Str.ofString "_law_way")) rfl)
  g__law_odd := He.glo_ok X G (c.t.d.fact 59 (f := .glo (Str.ofString "_law_odd")) rfl)
  g_behind := He.glo_ok X G (c.t.d.fact 60 (f := .glo (Str.ofString "behind")) rfl)
  exm := exmF_ok (He.ba (He.ba (He.ba (He.ba (He.ba c.more).2).2).2).2).1
  g_led := He.glo_ok X G (c.t.d.fact 61 (f := .glo (Str.ofString "led")) rfl)
  g__law_deed := He.glo_ok X G (c.t.d.fact 62 (f := .glo (Str.ofString "_law_deed")) rfl)
  g__law_bent := He.glo_ok X G (c.t.d.fact 63 (f := .glo (Str.ofString "_law_bent")) rfl)
  g__law_hand := He.glo_ok X G (c.t.d.fact 64 (f := .glo (Str.ofString "_law_hand")) rfl)
  g__law_plain := He.glo_ok X G (c.t.d.fact 65 (f := .glo (Str.ofString "_law_plain")) rfl)
  g__law_forest_of := He.glo_ok X G (c.t.d.fact 66 (f := .glo (Str.ofString "_law_forest_of")) rfl)
  g__law_some := He.glo_ok X G (c.t.d.fact 67 (f := .glo (Str.ofString "_law_some")) rfl)
  g__law_can := He.glo_ok X G (c.t.d.fact 68 (f := .glo (Str.ofString "_law_can")) rfl)
  g__law_behind := He.glo_ok X G (c.t.d.fact 69 (f := .glo (Str.ofString "_law_behind")) rfl)
  g__law_told := He.glo_ok X G (c.t.d.fact 70 (f := .glo (Str.ofString "_law_told")) rfl)
  g__law_led_told := He.glo_ok X G (c.t.d.fact 71 (f := .glo (Str.ofString "_law_led_told")) rfl)
  g_law := He.glo_ok X G (c.t.d.fact 72 (f := .glo (Str.ofString "law")) rfl)
  d__law_up := by obtain ⟨fd, F⟩ := c.t.d.def_ 0 (d := dd__law_up) rfl; exact ⟨fd, F⟩
  d__law_common := by obtain ⟨fd, F⟩ := c.t.d.def_ 1 (d := dd__law_common) rfl; exact ⟨fd, F⟩
  d__law_way := by obtain ⟨fd, F⟩ := c.t.d.def_ 2 (d := dd__law_way) rfl; exact ⟨fd, F⟩
  d__law_behind := by obtain ⟨fd, F⟩ := c.t.d.def_ 3 (d := dd__law_behind) rfl; exact ⟨fd, F⟩
  d__law_is_integer := by obtain ⟨fd, F⟩ := c.t.d.def_ 4 (d := dd__law_is_integer) rfl; exact ⟨fd, F⟩
  d__law_is_within := by obtain ⟨fd, F⟩ := c.t.d.def_ 5 (d := dd__law_is_within) rfl; exact ⟨fd, F⟩
  d__law_are_houses := by obtain ⟨fd, F⟩ := c.t.d.def_ 6 (d := dd__law_are_houses) rfl; exact ⟨fd, F⟩
  d__law_deed_form := by obtain ⟨fd, F⟩ := c.t.d.def_ 7 (d := dd__law_deed_form) rfl; exact ⟨fd, F⟩
  d__law_root := by obtain ⟨fd, F⟩ := c.t.d.def_ 8 (d := dd__law_root) rfl; exact ⟨fd, F⟩
  d__law_can := by obtain ⟨fd, F⟩ := c.t.d.def_ 9 (d := dd__law_can) rfl; exact ⟨fd, F⟩
  d_comes_to_none := by obtain ⟨fd, F⟩ := c.t.d.def_ 10 (d := dd_comes_to_none) rfl; exact ⟨fd, F⟩
  d_is_integer := by obtain ⟨fd, F⟩ := c.t.d.def_ 11 (d := dd_is_integer) rfl; exact ⟨fd, F⟩
  d_is_within := by obtain ⟨fd, F⟩ := c.t.d.def_ 12 (d := dd_is_within) rfl; exact ⟨fd, F⟩
  d_is_below := by obtain ⟨fd, F⟩ := c.t.d.def_ 13 (d := dd_is_below) rfl; exact ⟨fd, F⟩
  d_is_sized := by obtain ⟨fd, F⟩ := c.t.d.def_ 14 (d := dd_is_sized) rfl; exact ⟨fd, F⟩
  d_are_parents := by obtain ⟨fd, F⟩ := c.t.d.def_ 15 (d := dd_are_parents) rfl; exact ⟨fd, F⟩
  d_Forest___init__ := by obtain ⟨fd, F⟩ := c.t.d.def_ 16 (d := dd_Forest___init__) rfl; exact ⟨fd, F⟩
  d__law_forest_of := by obtain ⟨fd, F⟩ := c.t.d.def_ 17 (d := dd__law_forest_of) rfl; exact ⟨fd, F⟩
  d__law_hand := by obtain ⟨fd, F⟩ := c.t.d.def_ 18 (d := dd__law_hand) rfl; exact ⟨fd, F⟩
  d_up_from := by obtain ⟨fd, F⟩ := c.t.d.def_ 19 (d := dd_up_from) rfl; exact ⟨fd, F⟩
  d_common_of := by obtain ⟨fd, F⟩ := c.t.d.def_ 20 (d := dd_common_of) rfl; exact ⟨fd, F⟩
  d_way_of := by obtain ⟨fd, F⟩ := c.t.d.def_ 21 (d := dd_way_of) rfl; exact ⟨fd, F⟩
  d_added_values := by obtain ⟨fd, F⟩ := c.t.d.def_ 22 (d := dd_added_values) rfl; exact ⟨fd, F⟩
  d_replaced := by obtain ⟨fd, F⟩ := c.t.d.def_ 23 (d := dd_replaced) rfl; exact ⟨fd, F⟩
  d_turned_parents := by obtain ⟨fd, F⟩ := c.t.d.def_ 24 (d := dd_turned_parents) rfl; exact ⟨fd, F⟩
  d_after_deed := by obtain ⟨fd, F⟩ := c.t.d.def_ 25 (d := dd_after_deed) rfl; exact ⟨fd, F⟩
  d_has_form := by obtain ⟨fd, F⟩ := c.t.d.def_ 26 (d := dd_has_form) rfl; exact ⟨fd, F⟩
  d_is_possible := by obtain ⟨fd, F⟩ := c.t.d.def_ 27 (d := dd_is_possible) rfl; exact ⟨fd, F⟩
  d_is_deed := by obtain ⟨fd, F⟩ := c.t.d.def_ 28 (d := dd_is_deed) rfl; exact ⟨fd, F⟩
  d_is_listed := by obtain ⟨fd, F⟩ := c.t.d.def_ 29 (d := dd_is_listed) rfl; exact ⟨fd, F⟩
  d_led := by obtain ⟨fd, F⟩ := c.t.d.def_ 30 (d := dd_led) rfl; exact ⟨fd, F⟩
  d__law_led_told := by obtain ⟨fd, F⟩ := c.t.d.def_ 31 (d := dd__law_led_told) rfl; exact ⟨fd, F⟩
  d__law_take := by obtain ⟨fd, F⟩ := c.t.d.def_ 32 (d := dd__law_take) rfl; exact ⟨fd, F⟩
  d__law_pick := by obtain ⟨fd, F⟩ := c.t.d.def_ 33 (d := dd__law_pick) rfl; exact ⟨fd, F⟩
  d__law_parents := by obtain ⟨fd, F⟩ := c.t.d.def_ 34 (d := dd__law_parents) rfl; exact ⟨fd, F⟩
  d__law_value := by obtain ⟨fd, F⟩ := c.t.d.def_ 35 (d := dd__law_value) rfl; exact ⟨fd, F⟩
  d__law_plain := by obtain ⟨fd, F⟩ := c.t.d.def_ 36 (d := dd__law_plain) rfl; exact ⟨fd, F⟩
  d__law_same := by obtain ⟨fd, F⟩ := c.t.d.def_ 37 (d := dd__law_same) rfl; exact ⟨fd, F⟩
  d__law_odd := by obtain ⟨fd, F⟩ := c.t.d.def_ 38 (d := dd__law_odd) rfl; exact ⟨fd, F⟩
  d__law_bent := by obtain ⟨fd, F⟩ := c.t.d.def_ 39 (d := dd__law_bent) rfl; exact ⟨fd, F⟩
  d__law_deed := by obtain ⟨fd, F⟩ := c.t.d.def_ 40 (d := dd__law_deed) rfl; exact ⟨fd, F⟩
  d__law_some := by obtain ⟨fd, F⟩ := c.t.d.def_ 41 (d := dd__law_some) rfl; exact ⟨fd, F⟩
  d_behind := by obtain ⟨fd, F⟩ := c.t.d.def_ 42 (d := dd_behind) rfl; exact ⟨fd, F⟩
  d__law_told := by obtain ⟨fd, F⟩ := c.t.d.def_ 43 (d := dd__law_told) rfl; exact ⟨fd, F⟩
  d_law := by obtain ⟨fd, F⟩ := c.t.d.def_ 44 (d := dd_law) rfl; exact ⟨fd, F⟩
  d_BadDeeds___init__ := by obtain ⟨fd, F⟩ := c.t.d.def_ 45 (d := dd_BadDeeds___init__) rfl; exact ⟨fd, F⟩
def names0 : List Str := [(Str.ofString "__name__"), (Str.ofString "ForestError"), (Str.ofString "BadForest"), (Str.ofString "NoDeed"), (Str.ofString "BadDeeds"), (Str.ofString "MOST_HOUSES"), (Str.ofString "is_integer"), (Str.ofString "is_within"), (Str.ofString "is_below"), (Str.ofString "is_sized"), (Str.ofString "is_listed"), (Str.ofString "replaced"), (Str.ofString "comes_to_none"), (Str.ofString "are_parents"), (Str.ofString "Forest"), (Str.ofString "up_from"), (Str.ofString "common_of"), (Str.ofString "way_of"), (Str.ofString "LINK"), (Str.ofString "CUT"), (Str.ofString "TURN"), (Str.ofString "PUT"), (Str.ofString "ADD"), (Str.ofString "SIZES"), (Str.ofString "HOUSES"), (Str.ofString "has_form"), (Str.ofString "is_possible"), (Str.ofString "is_deed"), (Str.ofString "turned_parents"), (Str.ofString "added_values")]
def names1 : List Str := [(Str.ofString "after_deed"), (Str.ofString "behind"), (Str.ofString "led"), (Str.ofString "_law_hand"), (Str.ofString "_law_take"), (Str.ofString "_law_pick"), (Str.ofString "_law_is_integer"), (Str.ofString "_law_is_within"), (Str.ofString "_law_same"), (Str.ofString "_law_odd"), (Str.ofString "_law_value"), (Str.ofString "_law_parents"), (Str.ofString "_law_plain"), (Str.ofString "_law_forest_of"), (Str.ofString "_law_up"), (Str.ofString "_law_root"), (Str.ofString "_law_common"), (Str.ofString "_law_way"), (Str.ofString "_law_are_houses"), (Str.ofString "_law_deed_form"), (Str.ofString "_law_can"), (Str.ofString "_law_behind"), (Str.ofString "_law_deed"), (Str.ofString "_law_bent"), (Str.ofString "_law_told"), (Str.ofString "_law_led_told"), (Str.ofString "_law_some")]
def names : List Str := names0 ++ names1
abbrev R : PySem.W.OpenRow := PySem.W.OpenLaw.row PySem.Challenge.rw_cutlinked_k03_whole_deeds_on_plain_fores
abbrev hk : PySem.W.Hook := He.hookX 6 fa fn ts [] exAll
def ob (s : PySem.W.SharedT) : He.AlX := He.obsX 6 fa fn ts [] exAll (HandSHeadRun.getT s)
theorem ob_eq (s : PySem.W.SharedT) : ob s = hk.obs s.abs := He.obsX_eq (HandSHeadRun.getT_eq s)
set_option maxHeartbeats 0 in
theorem run (w : World) : HandSHeadRun.RunEq R (PySem.W.view R.prog [61]) hk ob 6000 names w := by
  exact PySem.W.byRow2 "special-get-raises" (P := fun w => HandSHeadRun.RunEq R (PySem.W.view R.prog [61]) hk ob 6000 names w) (fun w os => by kernel_rfl) (fun w os => by kernel_rfl) w
end C3
open PySem PySem.W PySem.Calls PyProof.Rows
set_option maxRecDepth 100000 in
set_option maxHeartbeats 0 in
theorem PySem.Challenge.cw_cutlinked_k03_whole_deeds_on_plain_fores_holds : PySem.Challenge.rw_cutlinked_k03_whole_deeds_on_plain_fores.Holds := by
  w_on; o_law
  refine HandSHeadRun.head_any (r := OpenLaw.row PySem.Challenge.rw_cutlinked_k03_whole_deeds_on_plain_fores) (q := view (OpenLaw.row PySem.Challenge.rw_cutlinked_k03_whole_deeds_on_plain_fores).prog [61]) (H := C3.hk) (ob := C3.ob) (M := 6000) (loose := C3.names) (d := HandSHeadRun.topDef (OpenLaw.row PySem.Challenge.rw_cutlinked_k03_whole_deeds_on_plain_fores).prog 61) (kwd := []) C3.ob_eq
    (by kernel_rfl) (fun s => by kernel_rfl) C3.run (by kernel_rfl) (by kernel_rfl) (by kernel_rfl) (by rfl) (by first | assumption | decide +kernel) (by decide +kernel) ⟨rfl, rfl, rfl, rfl, rfl, by decide +kernel⟩ ?hw ?hc
  case hw => w_witness2
  case hc =>
    refine L3.walk3 (l := PySem.Challenge.rw_cutlinked_k03_whole_deeds_on_plain_fores) (n := 63) (k := 10) (x := (Str.ofString "_law_script")) (sp := C3.sp_law) rfl (by decide) (by kernel_rfl) ⟨rfl, by decide, by decide⟩ ?F C3.law_start
    intro w mg fa h Y G hmg0
    obtain ⟨K, KX, c⟩ := Y
    have T := C3.tx_of KX G c
    have hmg : mg (Str.ofString "law") = some (.ref fa) := by
      have e : (HandSHeadRun.topDef (OpenLaw.row PySem.Challenge.rw_cutlinked_k03_whole_deeds_on_plain_fores).prog 61).name = Str.ofString "law" := by kernel_rfl
      rw [← e]
      exact hmg0
    have e := hmg.symm.trans T.g_law
    cases e
    obtain ⟨fd, hb, hF⟩ := C3.F_law (P := (PySem.Challenge.rw_cutlinked_k03_whole_deeds_on_plain_fores).prog) (w := w) T
    exact ⟨K, fd, KX, hb, fun base _ _ => hF base⟩
