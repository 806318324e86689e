import PyProof.Rows.All
import Wide.All
import OpenK.AllK
import Wide.FinOn
import HandS.ForMost
import HandS.CallSlots
import HandS.ExcInit
import HandS.TryMany
import HandS.TryOnly
import HandS.ExcField
import HandS.ExcIs
import HandS.Small
import HandS.IsInst
import HandS.Defaults
import HandS.Head2
import HandS.HeadEnd
import HandS.HeadHook3
import HandS.TupAny
import HandS.TupMul
import HandS.Rev
import HandS.Zip
import HandS.Conv
import HandS.OwnEq
import HandS.Flow
import HandS.Style
import HandS.Wide
import HandS.Lambda
import HandS.EndTab
import HandS.HeadHook4
import HandS.Ends
import KE.GoesEnum
import KE.GoesMore
import PyProof.EnumMake
import KE.KDictZip
import HandS.ExcValue
import KE.KLam
import KE.KNestM
import HandS.HeadWalk
import PyProof.EqAt
import PySem.Challenge.RW_cutlinked_k15_reachings_refused
set_option Elab.async false
set_option linter.all false
set_option maxRecDepth 100000
set_option maxHeartbeats 4000000
/-! L3: deep data over the hand layer. -/
namespace L3
open PySem PySem.Spec PyProof.Rows L2
open He (ga)

/-! ### data -/
/-- the exception that an except suite holds: where, its class, its dict -/
structure Zx where
  a : Addr
  c : Value
  d : Option Addr
structure K3 where
  f : PySem.W.Frag
  z : Zx
abbrev Z0 : Zx := ⟨0, .none, none⟩
abbrev Cxk (X : Cx) (Z : Zx) : K3 := ⟨X.K, Z⟩
inductive D where
  | non | bl (b : Bool) | int (i : Int) | str (x : Str)
  | tup (xs : List D)
  | fl (xs : List D)
  | sl (xs : List D)
  | ob (c : Str) (ns : List Str) (xs : List D)
  | emp
  | ref (a : Addr)
  | ex (c : Str)
  | exf (c f : Str) (y : D)
  | fn (x : Str)
  | lam (f c : Addr) (q : Str) (xs : List D) (vs : List V)
inductive GO where
  | lst (xs : List D) | dic (kvs : List (Key × D)) | ins (c : Str) (fs : List (Str × D)) | tb (q : Str)
abbrev Gp := Addr → Option GO
def up (G : Gp) (a : Addr) (o : GO) : Gp := fun b => if b = a then some o else G b
def dl (G : Gp) (a : Addr) : Gp := fun b => if b = a then none else G b
theorem up_same {G : Gp} {a : Addr} {o : GO} : up G a o a = some o := if_pos rfl
theorem up_ne {G : Gp} {a b : Addr} {o : GO} (h : b ≠ a) : up G a o b = G b := if_neg h
theorem dl_same {G : Gp} {a : Addr} : dl G a a = none := if_pos rfl
theorem dl_ne {G : Gp} {a b : Addr} (h : b ≠ a) : dl G a b = G b := if_neg h
theorem up_up {G : Gp} {a : Addr} {o u : GO} : up (up G a o) a u = up G a u := by
  funext b; unfold up; split <;> rfl
theorem up_self {G : Gp} {a : Addr} {o : GO} (h : G a = some o) : up G a o = G := by
  funext b; unfold up; split
  · rename_i e; rw [e, h]
  · rfl
theorem dl_up {G : Gp} {a : Addr} {o : GO} (h : G a = none) : dl (up G a o) a = G := by
  funext b; unfold dl up; split
  · rename_i e; rw [e, h]
  · rfl
theorem up_comm {G : Gp} {a b : Addr} {o u : GO} (h : a ≠ b) : up (up G b u) a o = up (up G a o) b u := by
  funext c; unfold up
  by_cases h1 : c = a
  · subst h1; rw [if_pos rfl, if_neg h, if_pos rfl]
  · rw [if_neg h1]; by_cases h2 : c = b
    · rw [if_pos h2, if_pos h2]
    · rw [if_neg h2, if_neg h2, if_neg h1]

/-- an exception: its class, its field -/
structure X3 where
  c : Str
  f : Option (Str × D) := none

/-- the written part's lists -/
def KL (K : PySem.W.Frag) (a : Addr) (xs : List V) : Prop :=
  ∃ (o : Obj) (its : Array Value) (n : Nat), K.lookup a = some o ∧ o.cls = .type "list" ∧ o.dict = none ∧ o.data = .seq its n ∧ its.size ≤ sizeLine ∧ Vals xs its.toList
/-- a list that is only read -/
def SqF (K : K3) (G : Gp) (H : Hp) (a : Addr) (vs : List V) : Prop := (Rd H a (.lst vs) ∧ G a = none) ∨ KL K.f a vs
mutual
inductive Dv (K : K3) (G : Gp) (H : Hp) : D → V → Prop
  | non : Dv K G H .non .non
  | bl (b : Bool) : Dv K G H (.bl b) (.bl b)
  | int (i : Int) : Dv K G H (.int i) (.int i)
  | str (x : Str) : Dv K G H (.str x) (.str x)
  | tup {a : Addr} {vs : List V} {xs : List D} : SqT K.f H a vs → DvL K G H xs vs → Dv K G H (.tup xs) (.ref a)
  | fl {a : Addr} {vs : List V} {xs : List D} : H a = some (.lst vs) → G a = none → DvL K G H xs vs → Dv K G H (.fl xs) (.ref a)
  | sl {a : Addr} {vs : List V} {xs : List D} : SqF K G H a vs → DvL K G H xs vs → Dv K G H (.sl xs) (.ref a)
  | ob {a dx : Addr} {c : Str} {ns : List Str} {vs : List V} {xs : List D} : H a = some (.ins (ga K.f c) dx (ns.zip vs)) → ns.length = vs.length → G a = none → DvL K G H xs vs → Dv K G H (.ob c ns xs) (.ref a)
  | emp {a : Addr} {kvs : List (Key × V)} : H a = some (.dK kvs) → G a = none → Dv K G H .emp (.ref a)
  | ref (a : Addr) : Dv K G H (.ref a) (.ref a)
  | ex {c : Str} : K.z.c = .ref (ga K.f c) → K.z.d = none → Dv K G H (.ex c) (.ref K.z.a)
  | fn (x : Str) : Dv K G H (.fn x) (.ref (ga K.f x))
  | lam {f c : Addr} {q : Str} {xs : List D} {vs : List V} : H c = some (LamX.CodeO c q) → G c = none → DvL K G H xs vs → Dv K G H (.lam f c q xs vs) (.ref f)
  | exf {c f : Str} {y : D} {d : Addr} {v : V} : K.z.c = .ref (ga K.f c) → K.z.d = some d → H d = some (.xd [(f, v)]) → Dv K G H y v → Dv K G H (.exf c f y) (.ref K.z.a)
inductive DvL (K : K3) (G : Gp) (H : Hp) : List D → List V → Prop
  | nil : DvL K G H [] []
  | cons {d : D} {v : V} {ds : List D} {vs : List V} : Dv K G H d v → DvL K G H ds vs → DvL K G H (d :: ds) (v :: vs)
end

def OkO (K : K3) (G : Gp) (H : Hp) (a : Addr) : GO → Prop
  | .tb q => LamX.TabS H a q
  | .lst xs => ∃ vs, H a = some (.lst vs) ∧ DvL K G H xs vs
  | .dic kvs => ∃ vs, H a = some (.dK ((kvs.map (·.1)).zip vs)) ∧ DvL K G H (kvs.map (·.2)) vs
  | .ins c fs => ∃ dx vs, H a = some (.ins (ga K.f c) dx ((fs.map (·.1)).zip vs)) ∧ DvL K G H (fs.map (·.2)) vs
def GH (K : K3) (G : Gp) (H : Hp) : Prop := ∀ a o, G a = some o → OkO K G H a o
/-- what is outside G is kept, and stays outside -/
def Keep (G : Gp) (H : Hp) (G' : Gp) (H' : Hp) : Prop := ∀ a o, H a = some o → G a = none → H' a = some o ∧ G' a = none

section
variable {K : K3} {G G' G1 G2 : Gp} {H H' H1 H2 : Hp}
theorem Keep.refl : Keep G H G H := fun _ _ h g => ⟨h, g⟩
theorem Keep.trans (a : Keep G H G1 H1) (b : Keep G1 H1 G2 H2) : Keep G H G2 H2 := fun c o h g => let ⟨h1, g1⟩ := a c o h g; b c o h1 g1
theorem DvL.length : ∀ {xs : List D} {vs : List V}, DvL K G H xs vs → xs.length = vs.length
  | _, _, .nil => rfl
  | _, _, .cons _ r => congrArg Nat.succ (DvL.length r)
theorem DvL.get : ∀ {xs : List D} {vs : List V} {i : Nat} {d : D}, DvL K G H xs vs → xs[i]? = some d → ∃ v, vs[i]? = some v ∧ Dv K G H d v
  | _, _, _, _, .nil, e => by simp at e
  | _, _, 0, _, .cons r _, e => by simp at e; subst e; exact ⟨_, rfl, r⟩
  | _, _, i + 1, d, .cons _ t, e => by
    obtain ⟨u, h1, h2⟩ := DvL.get (i := i) (d := d) t (by simpa using e)
    exact ⟨u, by simpa using h1, h2⟩
theorem DvL.append : ∀ {xs ys : List D} {us ws : List V}, DvL K G H xs us → DvL K G H ys ws → DvL K G H (xs ++ ys) (us ++ ws)
  | _, _, _, _, .nil, s => s
  | _, _, _, _, .cons r t, s => .cons r (DvL.append t s)
theorem DvL.take : ∀ {xs : List D} {us : List V} (n : Nat), DvL K G H xs us → DvL K G H (xs.take n) (us.take n)
  | _, _, 0, _ => .nil
  | _, _, _ + 1, .nil => .nil
  | _, _, n + 1, .cons r t => .cons r (DvL.take n t)
theorem DvL.drop : ∀ {xs : List D} {us : List V} (n : Nat), DvL K G H xs us → DvL K G H (xs.drop n) (us.drop n)
  | _, _, 0, r => r
  | _, _, _ + 1, .nil => .nil
  | _, _, n + 1, .cons _ t => DvL.drop n t
theorem DvL.set {d : D} {u : V} (r : Dv K G H d u) : ∀ {xs : List D} {us : List V} (i : Nat), DvL K G H xs us → DvL K G H (xs.set i d) (us.set i u)
  | _, _, _, .nil => .nil
  | _, _, 0, .cons _ t => .cons r t
  | _, _, i + 1, .cons q t => .cons q (DvL.set r i t)
theorem DvL.dropLast : ∀ {xs : List D} {us : List V}, DvL K G H xs us → DvL K G H xs.dropLast us.dropLast
  | _, _, .nil => .nil
  | _, _, .cons _ .nil => .nil
  | _, _, .cons r (.cons q t) => .cons r (DvL.dropLast (.cons q t))
theorem DvL.eraseIdx : ∀ {xs : List D} {us : List V} (i : Nat), DvL K G H xs us → DvL K G H (xs.eraseIdx i) (us.eraseIdx i)
  | _, _, _, .nil => .nil
  | _, _, 0, .cons _ t => t
  | _, _, i + 1, .cons r t => .cons r (DvL.eraseIdx i t)
theorem DvL.reverse {xs : List D} {us : List V} (h : DvL K G H xs us) : DvL K G H xs.reverse us.reverse := by
  induction xs generalizing us with
  | nil => cases h; exact .nil
  | cons x xs ih =>
    cases h with
    | cons r t =>
      rw [List.reverse_cons, List.reverse_cons]
      exact (ih t).append (.cons r .nil)
theorem DvL.rep {d : D} {v : V} (r : Dv K G H d v) : ∀ n, DvL K G H (List.replicate n d) (List.replicate n v)
  | 0 => .nil
  | n + 1 => .cons r (DvL.rep r n)
theorem DvL.flat {xs : List D} {us : List V} (h : DvL K G H xs us) : ∀ k : Nat, DvL K G H (List.replicate k xs).flatten (List.replicate k us).flatten
  | 0 => .nil
  | k + 1 => by
    rw [List.replicate_succ, List.replicate_succ, List.flatten_cons, List.flatten_cons]
    exact h.append (h.flat k)

theorem GH.none_of (g : GH K G H) {a : Addr} {o : HO} (h : H a = some o) (hl : ∀ xs, o ≠ .lst xs) (hd : ∀ kvs, o ≠ .dK kvs) (hi : ∀ C dx fs, o ≠ .ins C dx fs) (ht : ∀ ps, o ≠ .tbl ps := by intros; intro z; cases z) : G a = none := by
  cases e : G a with
  | none => rfl
  | some u =>
    have q := g a u e
    cases u with
    | lst xs => obtain ⟨vs, h2, _⟩ := q; rw [h] at h2; exact absurd (Option.some.inj h2) (hl _)
    | dic kvs => obtain ⟨vs, h2, _⟩ := q; rw [h] at h2; exact absurd (Option.some.inj h2) (hd _)
    | ins c fs => obtain ⟨dx, vs, h2, _⟩ := q; rw [h] at h2; exact absurd (Option.some.inj h2) (hi _ _ _)
    | tb c => obtain ⟨ps, h2, _⟩ := q; rw [h] at h2; exact absurd (Option.some.inj h2) (ht _)
theorem GH.some_of (g : GH K G H) {a : Addr} {o : GO} (h : G a = some o) : ∃ u, H a = some u := by
  have q := g a o h
  cases o with
  | lst xs => obtain ⟨vs, h2, _⟩ := q; exact ⟨_, h2⟩
  | dic kvs => obtain ⟨vs, h2, _⟩ := q; exact ⟨_, h2⟩
  | ins c fs => obtain ⟨dx, vs, h2, _⟩ := q; exact ⟨_, h2⟩
  | tb c => obtain ⟨ps, h2, _⟩ := q; exact ⟨_, h2⟩
theorem GH.free (g : GH K G H) {a : Addr} (h : H a = none) : G a = none := by
  cases e : G a with
  | none => rfl
  | some o => obtain ⟨u, h2⟩ := g.some_of e; rw [h] at h2; cases h2
theorem sqT_keep (g : GH K G H) (k : Keep G H G' H') {a : Addr} {vs : List V} (s : SqT K.f H a vs) : SqT K.f H' a vs := by
  rcases s with (h | ⟨o, h⟩) | h
  · exact .inl (.inl (k a _ h (g.none_of h (by intros; intro z; cases z) (by intros; intro z; cases z) (by intros; intro z; cases z))).1)
  · exact .inl (.inr ⟨o, (k a _ h (g.none_of h (by intros; intro z; cases z) (by intros; intro z; cases z) (by intros; intro z; cases z))).1⟩)
  · exact .inr h
theorem SqF.sql {a : Addr} {vs : List V} (s : SqF K G H a vs) : SqL K.f H a vs := by
  rcases s with ⟨h, _⟩ | h
  · exact .inl h
  · exact .inr h
theorem SqF.of (g : GH K G H) {a : Addr} {vs : List V} (s : SqL K.f H a vs) (n : G a = none) : SqF K G H a vs := by
  rcases s with h | h
  · exact .inl ⟨h, n⟩
  · exact .inr h
theorem SqF.keep (k : Keep G H G' H') {a : Addr} {vs : List V} (s : SqF K G H a vs) : SqF K G' H' a vs := by
  rcases s with ⟨h | ⟨o, h⟩, n⟩ | h
  · obtain ⟨h1, h2⟩ := k a _ h n; exact .inl ⟨.inl h1, h2⟩
  · obtain ⟨h1, h2⟩ := k a _ h n; exact .inl ⟨.inr ⟨o, h1⟩, h2⟩
  · exact .inr h
mutual
theorem Dv.keep (g : GH K G H) (k : Keep G H G' H') : ∀ {d : D} {v : V}, Dv K G H d v → Dv K G' H' d v
  | _, _, .non => .non
  | _, _, .bl b => .bl b
  | _, _, .int b => .int b
  | _, _, .str b => .str b
  | _, _, .tup s r => .tup (sqT_keep g k s) (DvL.keep g k r)
  | _, _, .fl h n r => .fl (k _ _ h n).1 (k _ _ h n).2 (DvL.keep g k r)
  | _, _, .sl s r => .sl (s.keep k) (DvL.keep g k r)
  | _, _, .ob h l n r => .ob (k _ _ h n).1 l (k _ _ h n).2 (DvL.keep g k r)
  | _, _, .emp h n => .emp (k _ _ h n).1 (k _ _ h n).2
  | _, _, .ref a => .ref a
  | _, _, .ex h h2 => .ex h h2
  | _, _, .fn x => .fn x
  | _, _, .lam h n r => .lam (k _ _ h n).1 (k _ _ h n).2 (DvL.keep g k r)
  | _, _, .exf h h1 h2 r => .exf h h1 (k _ _ h2 (g.none_of h2 (by intros; intro z; cases z) (by intros; intro z; cases z) (by intros; intro z; cases z))).1 (Dv.keep g k r)
theorem DvL.keep (g : GH K G H) (k : Keep G H G' H') : ∀ {d : List D} {v : List V}, DvL K G H d v → DvL K G' H' d v
  | _, _, .nil => .nil
  | _, _, .cons r t => .cons (Dv.keep g k r) (DvL.keep g k t)
end
theorem OkO.keep (g : GH K G H) (k : Keep G H G' H') {a : Addr} {o : GO} (h : OkO K G H a o) (e : H' a = H a) : OkO K G' H' a o := by
  cases o with
  | lst xs => obtain ⟨vs, h2, r⟩ := h; exact ⟨vs, e.trans h2, r.keep g k⟩
  | dic kvs => obtain ⟨vs, h2, r⟩ := h; exact ⟨vs, e.trans h2, r.keep g k⟩
  | ins c fs => obtain ⟨dx, vs, h2, r⟩ := h; exact ⟨dx, vs, e.trans h2, r.keep g k⟩
  | tb q =>
    obtain ⟨ps, h1, h2, h3⟩ := h
    refine ⟨ps, e.trans h1, h2, fun pos cv hc => ?_⟩
    obtain ⟨c, e1, e2⟩ := h3 pos cv hc
    exact ⟨c, e1, (k c _ e2 (g.none_of e2 (by intros; intro z; unfold LamX.CodeO at z; cases z) (by intros; intro z; unfold LamX.CodeO at z; cases z) (by intros; intro z; unfold LamX.CodeO at z; cases z) (by intros; intro z; unfold LamX.CodeO at z; cases z))).1⟩
/-! ### steps of the heap -/
/-- a new object, not in G -/
theorem Keep.new {p : Addr} {o : HO} (n : H p = none) : Keep G H G (upd H p o) := fun a u h e => ⟨by rw [upd_ne (ne_of_none h n)]; exact h, e⟩
theorem GH.new (g : GH K G H) {p : Addr} {o : HO} (n : H p = none) : GH K G (upd H p o) := fun a u h => by
  obtain ⟨w, q⟩ := g.some_of h
  exact (g a u h).keep g (Keep.new n) (upd_ne (ne_of_none q n))
/-- a new object, into G -/
theorem Keep.newG {p : Addr} {o : HO} {u : GO} (n : H p = none) : Keep G H (up G p u) (upd H p o) := fun a w h e => by
  have ne := ne_of_none h n
  exact ⟨by rw [upd_ne ne]; exact h, by rw [up_ne ne]; exact e⟩
theorem GH.newG (g : GH K G H) {p : Addr} {o : HO} {u : GO} (n : H p = none) (q : OkO K (up G p u) (upd H p o) p u) : GH K (up G p u) (upd H p o) := fun a w h => by
  by_cases e : a = p
  · subst e; rw [up_same] at h; cases h; exact q
  · rw [up_ne e] at h
    exact (g a w h).keep g (Keep.newG n) (upd_ne e)
/-- an object of G, changed -/
theorem Keep.set {p : Addr} {o : HO} {u u' : GO} (n : G p = some u) : Keep G H (up G p u') (upd H p o) := fun a w h e => by
  have ne : a ≠ p := fun z => by rw [z, n] at e; cases e
  exact ⟨by rw [upd_ne ne]; exact h, by rw [up_ne ne]; exact e⟩
theorem GH.set (g : GH K G H) {p : Addr} {o : HO} {u u' : GO} (n : G p = some u) (q : OkO K (up G p u') (upd H p o) p u') : GH K (up G p u') (upd H p o) := fun a w h => by
  by_cases e : a = p
  · subst e; rw [up_same] at h; cases h; exact q
  · rw [up_ne e] at h
    exact (g a w h).keep g (Keep.set n) (upd_ne e)
/-- less of G -/
def Sub (G' G : Gp) : Prop := ∀ a o, G' a = some o → G a = some o
theorem Sub.refl : Sub G G := fun _ _ h => h
theorem Sub.trans (a : Sub G G1) (b : Sub G1 G2) : Sub G G2 := fun c o h => b c o (a c o h)
theorem Sub.no (s : Sub G' G) {a : Addr} (h : G a = none) : G' a = none := by
  cases e : G' a with
  | none => rfl
  | some o => rw [s a o e] at h; cases h
theorem Keep.sub (s : Sub G' G) : Keep G H G' H := fun a o h e => ⟨h, s.no e⟩
theorem GH.sub (g : GH K G H) (s : Sub G' G) : GH K G' H := fun a o h => (g a o (s a o h)).keep g (Keep.sub s) rfl
theorem Sub.dl {a : Addr} : Sub (dl G a) G := fun b o h => by
  by_cases e : b = a
  · subst e; rw [dl_same] at h; cases h
  · rw [dl_ne e] at h; exact h
theorem Sub.up {a : Addr} {o : GO} (n : G a = none) : Sub G (up G a o) := fun b u h => by
  rw [up_ne (fun z => by rw [z, n] at h; cases h)]; exact h
end
end L3
namespace L3
open PySem PySem.Spec PyProof.Rows L2
open He (ga)
abbrev St := L2.St
abbrev St3 := List (Option D)
abbrev QK := D → Gp → Prop
abbrev EK := X3 → Gp → Prop
abbrev TE3 := St3 → Gp → QK → EK → Prop
abbrev TT3 := St3 → Gp → (Bool → Gp → Prop) → EK → Prop
abbrev TA3 := St3 → Gp → (List D → Gp → Prop) → EK → Prop
structure Ends3 where
  nx : St3 → Gp → Prop
  rt : QK
  bk : St3 → Gp → Prop := fun _ _ => False
  ct : St3 → Gp → Prop := fun _ _ => False
  ex : X3 → St3 → Gp → Prop := fun _ _ _ => False
abbrev TS3 := Ends3 → St3 → Gp → Prop
/-- the slots -/
def gt (σ : St3) (i : Nat) : Option D := match σ, i with
  | [], _ => none
  | d :: _, 0 => d
  | _ :: r, i + 1 => gt r i
theorem gt_eq : ∀ (σ : St3) (i : Nat) {d : D}, gt σ i = some d → σ[i]? = some (some d)
  | [], _, _, h => by cases h
  | x :: r, 0, d, h => by
    have h' : x = some d := h
    simp [h']
  | x :: r, i + 1, d, h => by simpa using gt_eq r i h
def Rs (K : K3) (G : Gp) (H : Hp) (σ3 : St3) (σ : St) : Prop := σ3.length = σ.length ∧ ∀ (i : Nat) d, σ3[i]? = some (some d) → ∃ v, σ[i]? = some (some v) ∧ Dv K G H d v
/-- an exception's data -/
def Xv (K : K3) (G : Gp) (H : Hp) (x : X3) (c : Value) (d : Option Addr) : Prop := c = .ref (ga K.f x.c) ∧ match x.f with
  | none => d = none
  | some (f, y) => ∃ (a : Addr) (v : V), d = some a ∧ H a = some (.xd [(f, v)]) ∧ Dv K G H y v
section
variable {K : K3} {G G' G1 G2 : Gp} {H H' H1 H2 : Hp} {σ3 : St3} {σ : St}
theorem Rs.keep (g : GH K G H) (k : Keep G H G' H') (r : Rs K G H σ3 σ) : Rs K G' H' σ3 σ := ⟨r.1, fun i d e => let ⟨v, h1, h2⟩ := r.2 i d e; ⟨v, h1, h2.keep g k⟩⟩
theorem Rs.set (r : Rs K G H σ3 σ) {d : D} {v : V} (h : Dv K G H d v) (i : Nat) : Rs K G H (σ3.set i (some d)) (σ.set i (some v)) := ⟨by simp [r.1], fun j e q => by
  by_cases hj : i = j
  · subst hj
    by_cases hl : i < σ3.length
    · rw [List.getElem?_set_self hl] at q; cases q
      exact ⟨v, List.getElem?_set_self (by rw [← r.1]; exact hl), h⟩
    · rw [List.getElem?_eq_none (by simpa using hl)] at q; cases q
  · rw [List.getElem?_set_ne hj] at q ⊢
    exact r.2 j e q⟩
theorem Rs.clear (r : Rs K G H σ3 σ) (i : Nat) : Rs K G H (σ3.set i none) (σ.set i none) := ⟨by simp [r.1], fun j e q => by
  by_cases hj : i = j
  · subst hj
    by_cases hl : i < σ3.length
    · rw [List.getElem?_set_self hl] at q; cases q
    · rw [List.getElem?_eq_none (by simpa using hl)] at q; cases q
  · rw [List.getElem?_set_ne hj] at q ⊢
    exact r.2 j e q⟩
end
/-- what is wanted of a value, lifted -/
def Qk (K : K3) (G : Gp) (H : Hp) (Q3 : QK) (Q : VK) : Prop := ∀ d G' v H', Q3 d G' → GH K G' H' → Dv K G' H' d v → Keep G H G' H' → Q v H'
def Bk (K : K3) (G : Gp) (H : Hp) (Q3 : Bool → Gp → Prop) (Q : Bool → Hp → Prop) : Prop := ∀ b G' H', Q3 b G' → GH K G' H' → Keep G H G' H' → Q b H'
def Ak (K : K3) (G : Gp) (H : Hp) (Q3 : List D → Gp → Prop) (Q : List V → Hp → Prop) : Prop := ∀ d G' v H', Q3 d G' → GH K G' H' → DvL K G' H' d v → Keep G H G' H' → Q v H'
def Sk (K : K3) (G : Gp) (H : Hp) (Q3 : St3 → Gp → Prop) (Q : St → Hp → Prop) : Prop := ∀ σ3 G' σ H', Q3 σ3 G' → GH K G' H' → Rs K G' H' σ3 σ → Keep G H G' H' → Q σ H'
def Xk (K : K3) (G : Gp) (H : Hp) (E3 : EK) (E : XK) : Prop := ∀ x G' c d H', E3 x G' → GH K G' H' → Xv K G' H' x c d → Keep G H G' H' → E c d H'
structure Dk (K : K3) (G : Gp) (H : Hp) (W : WX) (D3 : Ends3) (D : Ends) : Prop where
  nx : Sk K G H D3.nx D.nx
  rt : Qk K G H D3.rt D.rt
  bk : Sk K G H D3.bk D.bk
  ct : Sk K G H D3.ct D.ct
  ex : ∀ x σ3 G' c d σ H', D3.ex x σ3 G' → GH K G' H' → Rs K G' H' σ3 σ → Xv K G' H' x c d → Keep G H G' H' → W c d σ H'
def liftE (K : K3) (W : WX) (t : TE3) : TE := fun σ H Q => ∃ σ3 G Q3 E3, GH K G H ∧ Rs K G H σ3 σ ∧ t σ3 G Q3 E3 ∧ Qk K G H Q3 Q ∧ Xk K G H E3 (fun c d H' => W c d σ H')
def liftT (K : K3) (W : WX) (t : TT3) : TT := fun σ H Q => ∃ σ3 G Q3 E3, GH K G H ∧ Rs K G H σ3 σ ∧ t σ3 G Q3 E3 ∧ Bk K G H Q3 Q ∧ Xk K G H E3 (fun c d H' => W c d σ H')
def liftA (K : K3) (W : WX) (t : TA3) : TA := fun σ H Q => ∃ σ3 G Q3 E3, GH K G H ∧ Rs K G H σ3 σ ∧ t σ3 G Q3 E3 ∧ Ak K G H Q3 Q ∧ Xk K G H E3 (fun c d H' => W c d σ H')
def liftS (K : K3) (W : WX) (t : TS3) : TS := fun D σ H => ∃ σ3 G D3, GH K G H ∧ Rs K G H σ3 σ ∧ t D3 σ3 G ∧ Dk K G H W D3 D
section
variable {K : K3} {G G' G1 G2 : Gp} {H H' H1 H2 : Hp} {W : WX}
theorem Qk.keep {Q3 : QK} {Q : VK} (k : Keep G H G' H') (q : Qk K G H Q3 Q) : Qk K G' H' Q3 Q := fun d G1 v H1 a b c e => q d G1 v H1 a b c (k.trans e)
theorem Bk.keep {Q3 : Bool → Gp → Prop} {Q : Bool → Hp → Prop} (k : Keep G H G' H') (q : Bk K G H Q3 Q) : Bk K G' H' Q3 Q := fun d G1 H1 a b e => q d G1 H1 a b (k.trans e)
theorem Ak.keep {Q3 : List D → Gp → Prop} {Q : List V → Hp → Prop} (k : Keep G H G' H') (q : Ak K G H Q3 Q) : Ak K G' H' Q3 Q := fun d G1 v H1 a b c e => q d G1 v H1 a b c (k.trans e)
theorem Sk.keep {Q3 : St3 → Gp → Prop} {Q : St → Hp → Prop} (k : Keep G H G' H') (q : Sk K G H Q3 Q) : Sk K G' H' Q3 Q := fun d G1 v H1 a b c e => q d G1 v H1 a b c (k.trans e)
theorem Xk.keep {E3 : EK} {E : XK} (k : Keep G H G' H') (q : Xk K G H E3 E) : Xk K G' H' E3 E := fun d G1 v u H1 a b c e => q d G1 v u H1 a b c (k.trans e)
theorem Dk.keep {D3 : Ends3} {D : Ends} (k : Keep G H G' H') (q : Dk K G H W D3 D) : Dk K G' H' W D3 D :=
  ⟨q.nx.keep k, q.rt.keep k, q.bk.keep k, q.ct.keep k, fun x σ3 G1 c d σ H1 a b r e f => q.ex x σ3 G1 c d σ H1 a b r e (k.trans f)⟩
end
/-! ### the judgements -/
section
variable (X : Cx) (Z : Zx) (W : WX)
def PE3 (e : Expr) (t : TE3) : Prop := PE X e (liftE (Cxk X Z) W t)
def PT3 (e : Expr) (t : TT3) : Prop := PT X e (liftT (Cxk X Z) W t)
def PW3 (e : Expr) (t : TT3) : Prop := PW X e (liftT (Cxk X Z) W t)
def PA3 (es : List Expr) (t : TA3) : Prop := PA X es (liftA (Cxk X Z) W t)
def PS3 (s : Stmt) (t : TS3) : Prop := PS X s (liftS (Cxk X Z) W t)
def PSs3 (s : List Stmt) (t : TS3) : Prop := PSs X s (liftS (Cxk X Z) W t)
end
theorem PE.imp {X : Cx} {e : Expr} {t u : TE} (h : PE X e t) (k : ∀ σ H Q, u σ H Q → t σ H Q) : PE X e u := ⟨fun pins s σ H Q I q => h.run pins s σ H Q I (k _ _ _ q)⟩
theorem PT.imp {X : Cx} {e : Expr} {t u : TT} (h : PT X e t) (k : ∀ σ H Q, u σ H Q → t σ H Q) : PT X e u := ⟨fun pins s σ H Q I q => h.run pins s σ H Q I (k _ _ _ q)⟩
theorem PW.imp {X : Cx} {e : Expr} {t u : TT} (h : PW X e t) (k : ∀ σ H Q, u σ H Q → t σ H Q) : PW X e u := ⟨fun wh pins s σ H Q I q => h.run wh pins s σ H Q I (k _ _ _ q)⟩
theorem PA.imp {X : Cx} {e : List Expr} {t u : TA} (h : PA X e t) (k : ∀ σ H Q, u σ H Q → t σ H Q) : PA X e u := ⟨fun pos pins s σ H Q I q => h.run pos pins s σ H Q I (k _ _ _ q)⟩
theorem PS.imp {X : Cx} {e : Stmt} {t u : TS} (h : PS X e t) (k : ∀ D σ H, u D σ H → t D σ H) : PS X e u := ⟨fun pins s σ H D I q => h.run pins s σ H D I (k _ _ _ q)⟩
theorem PSs.imp {X : Cx} {e : List Stmt} {t u : TS} (h : PSs X e t) (k : ∀ D σ H, u D σ H → t D σ H) : PSs X e u := ⟨fun pins s σ H D I q => h.run pins s σ H D I (k _ _ _ q)⟩
section
variable {K : K3} {G : Gp} {H : Hp} {W : WX} {σ : St} {σ3 : St3}
theorem liftE_one {t : TE3} {R3 : QK} {E3 : EK} {R : VK} (g : GH K G H) (r : Rs K G H σ3 σ) (h : t σ3 G R3 E3) (x : Xk K G H E3 (fun c d H' => W c d σ H'))
    (k : ∀ d G' v H', R3 d G' → GH K G' H' → Dv K G' H' d v → Keep G H G' H' → R v H') : liftE K W t σ H R := ⟨σ3, G, R3, E3, g, r, h, k, x⟩
end
/-! ### names, constants -/
def tv (i : Nat) : TE3 := fun σ G Q _ => ∃ d, gt σ i = some d ∧ Q d G
def tc (d : D) : TE3 := fun _ G Q _ => Q d G
section
variable {X : Cx} {Z : Zx} {W : WX} {pos : Pos}
theorem q_of {K : K3} {G : Gp} {H : Hp} {Q3 : QK} {Q : VK} {d : D} {v : V} (q : Qk K G H Q3 Q) (g : GH K G H) (h : Q3 d G) (r : Dv K G H d v) : Q v H := q d G v H h g r Keep.refl
theorem v_ (i : Nat) {x : Str} (hN : X.N[i]? = some x := by rfl) (hv : Vis X.env.scope x := by first | exact Or.inl rfl | exact Or.inr (Or.inl rfl) | exact Or.inr (Or.inr rfl)) (hd : (x == ("__debug__" : Str)) = false := by decide)
    (hcd : (x == ("__classdict__" : Str)) = false := by decide) : PE3 X Z W (.Name x pos) (tv i) := PE.imp (pe_var (i := i) hN hv hd hcd) fun σ H Q h => by
  obtain ⟨σ3, G, Q3, E3, g, r, h, q, _⟩ := h
  obtain ⟨d, e, h⟩ := h
  obtain ⟨v, e1, e2⟩ := r.2 i d (gt_eq _ _ e)
  exact ⟨v, e1, q_of q g h e2⟩
theorem pc_ {e : Expr} {d : D} {v : V} (h : PE X e (tC v)) (r : ∀ K G H, Dv K G H d v) : PE3 X Z W e (tc d) := PE.imp h fun σ H Q ⟨σ3, G, Q3, E3, g, _, h, q, x⟩ => q_of q g h (r _ _ _)
theorem ci_ {i j} : PE3 X Z W (.Constant (.int i) j pos) (tc (.int i)) := pc_ pe_int fun _ _ _ => .int i
theorem cb_ {b j} : PE3 X Z W (.Constant (.bool b) j pos) (tc (.bl b)) := pc_ pe_bl fun _ _ _ => .bl b
theorem cn_ {j} : PE3 X Z W (.Constant .none j pos) (tc .non) := pc_ pe_non fun _ _ _ => .non
theorem cs_ {x j} : PE3 X Z W (.Constant (.str x) j pos) (tc (.str x)) := pc_ pe_str fun _ _ _ => .str x
/-- a constant of the module -/
theorem cg_ {x : Str} {v : V} {u : Value} {d : D} (hm : X.mg x = some u) (r : RelV v u) (rd : ∀ G H, Dv (Cxk X Z) G H d v) (hg : Gl X x := by rfl) (hd : (x == ("__debug__" : Str)) = false := by decide) : PE3 X Z W (.Name x pos) (tc d) :=
  PE.imp (pe_glob hg hm r hd) fun σ H Q ⟨σ3, G, Q3, E3, g, _, h, q, x⟩ => q_of q g h (rd _ _)
end
end L3
namespace L3
open PySem PySem.Spec PyProof.Rows L2
open He (ga)
/-! ### new things -/
/-- a new list: written later (m), or frozen -/
def outL (m : Bool) (xs : List D) (G : Gp) (Q : QK) : Prop := match m with
  | true => ∀ p, G p = none → Q (.ref p) (up G p (.lst xs))
  | false => Q (.fl xs) G
section
variable {K : K3} {G : Gp} {H : Hp} {Q3 : QK} {Q : VK}
theorem outL_ok (m : Bool) {xs : List D} {vs : List V} (g : GH K G H) (r : DvL K G H xs vs) (q : Qk K G H Q3 Q) (h : outL m xs G Q3) {p : Addr} (n : H p = none) : Q (.ref p) (upd H p (.lst vs)) := by
  cases m with
  | true => exact q _ _ _ _ (h p (g.free n)) (g.newG n ⟨vs, upd_same, r.keep g (Keep.newG n)⟩) (.ref p) (Keep.newG n)
  | false => exact q _ _ _ _ h (g.new n) (.fl upd_same (g.free n) (r.keep g (Keep.new n))) (Keep.new n)
theorem outT_ok {xs : List D} {vs : List V} (g : GH K G H) (r : DvL K G H xs vs) (q : Qk K G H Q3 Q) (h : Q3 (.tup xs) G) {p : Addr} (n : H p = none) : Q (.ref p) (upd H p (.tup vs)) :=
  q _ _ _ _ h (g.new n) (.tup (SqT.of upd_same) (r.keep g (Keep.new n))) (Keep.new n)
end
/-- a list or tuple as it stands -/
def sq (G : Gp) : D → Option (List D)
  | .tup xs => some xs
  | .fl xs => some xs
  | .sl xs => some xs
  | .ref p => (match G p with
    | some (.lst xs) => some xs
    | _ => none)
  | _ => none
/-- a list -/
def lq (G : Gp) : D → Option (List D)
  | .fl xs => some xs
  | .sl xs => some xs
  | .ref p => (match G p with
    | some (.lst xs) => some xs
    | _ => none)
  | _ => none
/-- a list of ours (not the script) -/
def mq (G : Gp) : D → Option (List D)
  | .fl xs => some xs
  | .ref p => (match G p with
    | some (.lst xs) => some xs
    | _ => none)
  | _ => none
section
variable {K : K3} {G : Gp} {H : Hp}
theorem lq_ok {d : D} {v : V} {xs : List D} (g : GH K G H) (r : Dv K G H d v) (h : lq G d = some xs) : ∃ a vs, v = .ref a ∧ SqL K.f H a vs ∧ DvL K G H xs vs := by
  cases r with
  | fl hs n r => cases h; exact ⟨_, _, rfl, SqL.of hs, r⟩
  | sl hs r => cases h; exact ⟨_, _, rfl, hs.sql, r⟩
  | ref a =>
    unfold lq at h
    simp only at h
    split at h
    · rename_i ys e
      cases h
      obtain ⟨vs, h2, r⟩ := g a _ e
      exact ⟨_, _, rfl, SqL.of h2, r⟩
    · cases h
  | _ => cases h
theorem mq_ok {d : D} {v : V} {xs : List D} (g : GH K G H) (r : Dv K G H d v) (h : mq G d = some xs) : ∃ a vs, v = .ref a ∧ H a = some (.lst vs) ∧ DvL K G H xs vs := by
  cases r with
  | fl hs n r => cases h; exact ⟨_, _, rfl, hs, r⟩
  | ref a =>
    unfold mq at h
    simp only at h
    split at h
    · rename_i ys e
      cases h
      obtain ⟨vs, h2, r⟩ := g a _ e
      exact ⟨_, _, rfl, h2, r⟩
    · cases h
  | _ => cases h
theorem sq_ok {d : D} {v : V} {xs : List D} (g : GH K G H) (r : Dv K G H d v) (h : sq G d = some xs) : ∃ a vs, v = .ref a ∧ (SqL K.f H a vs ∨ SqT K.f H a vs) ∧ DvL K G H xs vs := by
  cases r with
  | tup hs r => cases h; exact ⟨_, _, rfl, .inr hs, r⟩
  | fl hs n r => cases h; exact ⟨_, _, rfl, .inl (SqL.of hs), r⟩
  | sl hs r => cases h; exact ⟨_, _, rfl, .inl hs.sql, r⟩
  | ref a =>
    unfold sq at h
    simp only at h
    split at h
    · rename_i ys e
      cases h
      obtain ⟨vs, h2, r⟩ := g a _ e
      exact ⟨_, _, rfl, .inl (SqL.of h2), r⟩
    · cases h
  | _ => cases h
end
/-! ### operators -/
abbrev Q2 := D → D → Gp → QK → Prop
def OpR3 (X : Cx) (Z : Zx) (f : Value → Value → Sem Value) (t : Q2) : Prop :=
  ∃ r : R2, OpR X f r ∧ ∀ G H x y v u Q3 Q, GH (Cxk X Z) G H → Dv (Cxk X Z) G H x v → Dv (Cxk X Z) G H y u → t x y G Q3 → Qk (Cxk X Z) G H Q3 Q → r v u H Q
def t2 (t : Q2) (ta tb : TE3) : TE3 := fun σ G Q E => ta σ G (fun x G1 => tb σ G1 (fun y G2 => t x y G2 Q) E) E
section
variable {X : Cx} {Z : Zx} {W : WX} {a b : Expr} {ta tb : TE3} {pos : Pos}
theorem two_ {r : R2} {t : Q2} (k : ∀ G H x y v u Q3 Q, GH (Cxk X Z) G H → Dv (Cxk X Z) G H x v → Dv (Cxk X Z) G H y u → t x y G Q3 → Qk (Cxk X Z) G H Q3 Q → r v u H Q) (σ : St) (H : Hp) (Q : VK) (h : liftE (Cxk X Z) W (t2 t ta tb) σ H Q) : tOp r (liftE (Cxk X Z) W ta) (liftE (Cxk X Z) W tb) σ H Q := by
  obtain ⟨σ3, G, Q3, E3, g, rs, h, q, x⟩ := h
  refine ⟨σ3, G, _, E3, g, rs, h, fun d1 G1 v1 H1 h1 g1 r1 k1 => ?_, x⟩
  refine ⟨σ3, G1, _, E3, g1, rs.keep g k1, h1, fun d2 G2 v2 H2 h2 g2 r2 k2 => ?_, x.keep k1⟩
  exact k G2 H2 d1 d2 v1 v2 Q3 Q g2 (r1.keep g1 k2) r2 h2 (q.keep (k1.trans k2))
theorem op_ {op : Operator} {t : Q2} (ho : OpR3 X Z (binaryOp op) t) (ha : PE3 X Z W a ta) (hb : PE3 X Z W b tb) : PE3 X Z W (.BinOp a op b pos) (t2 t ta tb) := by
  obtain ⟨r, h, k⟩ := ho
  exact PE.imp (pe_op h ha hb) (two_ k)
theorem cm_ {op : CmpOp} {t : Q2} (ho : OpR3 X Z (compareOp op) t) (ha : PE3 X Z W a ta) (hb : PE3 X Z W b tb) (hm : behindInMarks op b = false) : PE3 X Z W (.Compare a [op] [b] pos) (t2 t ta tb) := by
  obtain ⟨r, h, k⟩ := ho
  exact PE.imp (pe_cmpR h ha hb hm) (two_ k)
/-- as a test -/
def tb3 (t : TE3) : TT3 := fun σ G Q E => t σ G (fun d G1 => ∃ b, d = .bl b ∧ Q b G1) E
theorem tcm_ {op : CmpOp} {t : Q2} (ho : OpR3 X Z (compareOp op) t) (ha : PE3 X Z W a ta) (hb : PE3 X Z W b tb) (hm : behindInMarks op b = false) : PT3 X Z W (.Compare a [op] [b] pos) (tb3 (t2 t ta tb)) := by
  obtain ⟨r, h, k⟩ := ho
  refine PT.imp (pt_cmpR h ha hb hm) fun σ H Q hq => two_ (W := W) k σ H (fun x H' => ∃ k, x = .bl k ∧ Q k H') ?_
  obtain ⟨σ3, G, Q3, E3, g, rs, h, q, x⟩ := hq
  refine ⟨σ3, G, _, E3, g, rs, h, fun d G1 v H1 ⟨b, e, h1⟩ g1 r1 k1 => ?_, x⟩
  subst e
  cases r1
  exact ⟨b, rfl, q b G1 H1 h1 g1 k1⟩
end
def two64 (i : Int) : Prop := -(2 ^ 64) < i ∧ i < 2 ^ 64
def mulOk (i j : Int) : Prop := two64 i ∨ two64 j ∨ CMulW i j
def divOk (j : Int) : Prop := (j ≠ 0 ∧ j.natAbs < 1073741824)
def add3 (m : Bool) : Q2 := fun x y G Q => match x, y with
  | .int i, .int j => Q (.int (i + j)) G
  | .str i, .str j => i.length + j.length ≤ sizeLine ∧ Q (.str (i ++ j)) G
  | .tup xs, .tup ys => xs.length + ys.length ≤ sizeLine ∧ Q (.tup (xs ++ ys)) G
  | x, y => ∃ xs ys, mq G x = some xs ∧ mq G y = some ys ∧ xs.length + ys.length ≤ sizeLine ∧ outL m (xs ++ ys) G Q
def sub3 : Q2 := fun x y G Q => match x, y with
  | .int i, .int j => Q (.int (i - j)) G
  | _, _ => False
def repOk (n : Nat) (k : Int) : Prop := -(2 ^ 63) ≤ k ∧ k < 2 ^ 63 ∧ n * k.toNat ≤ sizeLine
def mul3 (m : Bool) : Q2 := fun x y G Q => match x, y with
  | .int i, .int j => mulOk i j ∧ Q (.int (i * j)) G
  | .tup xs, .int k => xs ≠ [] ∧ 2 ≤ k ∧ k ≤ 1000 ∧ xs.length ≤ 1000 ∧ Q (.tup (List.replicate k.toNat xs).flatten) G
  | x, .int k => ∃ xs, mq G x = some xs ∧ repOk xs.length k ∧ outL m (List.replicate k.toNat xs).flatten G Q
  | _, _ => False
def fdiv3 : Q2 := fun x y G Q => match x, y with
  | .int i, .int j => 0 < j ∧ j < 1073741824 ∧ Q (.int (i / j)) G
  | _, _ => False
def mod3 : Q2 := fun x y G Q => match x, y with
  | .int i, .int j => 0 < j ∧ Q (.int (i % j)) G
  | _, _ => False
def pow3 : Q2 := fun x y G Q => match x, y with
  | .int i, .int j => CPow i j ∧ Q (.int (i ^ j.toNat)) G
  | _, _ => False
section
variable {X : Cx} {Z : Zx}
theorem SqT.nonnil {K : K3} {G : Gp} {H : Hp} {xs : List D} {vs : List V} (r : DvL K G H xs vs) (h : xs ≠ []) : vs ≠ [] := by
  intro e; subst e; cases r; exact h rfl
theorem o_add (m : Bool) : OpR3 X Z (binaryOp .Add) (add3 m) := by
  refine ⟨_, op_add.or (op_add_str.or (op_catA.or op_cat)), fun G H x y v u Q3 Q g rx ry h q => ?_⟩
  unfold add3 at h
  split at h
  · cases rx; cases ry
    exact .inl ⟨_, _, rfl, rfl, q_of q g h (.int _)⟩
  · cases rx; cases ry
    exact .inr (.inl ⟨_, _, rfl, rfl, h.1, q_of q g h.2 (.str _)⟩)
  · cases rx with
    | tup s1 r1 =>
    cases ry with
    | tup s2 r2 =>
    rename_i a vs b ws
    refine .inr (.inr (.inl ⟨_, _, _, _, rfl, rfl, s1, s2, by rw [← r1.length, ← r2.length]; exact h.1, ?_⟩))
    have rr := r1.append r2
    have hq := h.2
    refine ⟨fun e => ?_, fun _ e => ?_, fun e1 e2 p n => outT_ok g rr q hq n⟩
    · subst e
      cases r1
      exact q_of q g hq (.tup s2 r2)
    · subst e
      cases r2
      rw [List.append_nil] at hq
      exact q_of q g hq (.tup s1 r1)
  · obtain ⟨xs, ys, e1, e2, l, h⟩ := h
    obtain ⟨a, vs, ea, s1, r1⟩ := mq_ok g rx e1
    obtain ⟨b, ws, eb, s2, r2⟩ := mq_ok g ry e2
    exact .inr (.inr (.inr ⟨a, b, vs, ws, ea, eb, s1, s2, by rw [← r1.length, ← r2.length]; exact l, fun p n => outL_ok m g (r1.append r2) q h n⟩))
theorem o_sub : OpR3 X Z (binaryOp .Sub) sub3 := by
  refine ⟨_, op_sub, fun G H x y v u Q3 Q g rx ry h q => ?_⟩
  unfold sub3 at h
  split at h
  · cases rx; cases ry
    exact ⟨_, _, rfl, rfl, q_of q g h (.int _)⟩
  · exact h.elim
theorem o_fdiv : OpR3 X Z (binaryOp .FloorDiv) fdiv3 := by
  refine ⟨_, op_fdiv, fun G H x y v u Q3 Q g rx ry h q => ?_⟩
  unfold fdiv3 at h
  split at h
  · cases rx; cases ry
    exact ⟨_, _, rfl, rfl, ⟨h.1, h.2.1⟩, q_of q g h.2.2 (.int _)⟩
  · exact h.elim
theorem o_mod : OpR3 X Z (binaryOp .Mod) mod3 := by
  refine ⟨_, op_mod, fun G H x y v u Q3 Q g rx ry h q => ?_⟩
  unfold mod3 at h
  split at h
  · cases rx; cases ry
    exact ⟨_, _, rfl, rfl, h.1, q_of q g h.2 (.int _)⟩
  · exact h.elim
theorem o_pow : OpR3 X Z (binaryOp .Pow) pow3 := by
  refine ⟨_, op_pow, fun G H x y v u Q3 Q g rx ry h q => ?_⟩
  unfold pow3 at h
  split at h
  · cases rx; cases ry
    exact ⟨_, _, rfl, rfl, h.1, q_of q g h.2 (.int _)⟩
  · exact h.elim
theorem o_mul (m : Bool) : OpR3 X Z (binaryOp .Mult) (mul3 m) := by
  refine ⟨_, op_mul.or (op_mulW.or (op_repT.or op_rep)), fun G H x y v u Q3 Q g rx ry h q => ?_⟩
  unfold mul3 at h
  split at h
  · cases rx; cases ry
    obtain ⟨c, h⟩ := h
    have hq := q_of q g h (.int _)
    rcases c with c | c | c
    · exact .inl ⟨_, _, rfl, rfl, .inl c, hq⟩
    · exact .inl ⟨_, _, rfl, rfl, .inr c, hq⟩
    · exact .inr (.inl ⟨_, _, rfl, rfl, c, hq⟩)
  · cases ry
    cases rx with
    | tup s r =>
    obtain ⟨h1, h2, h3, h4, h⟩ := h
    exact .inr (.inr (.inl ⟨_, _, _, rfl, rfl, s, SqT.nonnil r h1, h2, h3, by rw [← r.length]; exact h4, fun p n => outT_ok g (r.flat _) q h n⟩))
  · cases ry
    obtain ⟨xs, e1, ⟨h1, h2, h3⟩, h⟩ := h
    obtain ⟨a, vs, ea, s, r⟩ := mq_ok g rx e1
    exact .inr (.inr (.inr ⟨_, _, _, ea, rfl, s, h1, h2, by rw [← r.length]; exact h3, fun p n => outL_ok m g (r.flat _) q h n⟩))
  · exact h.elim
/-! ### comparisons of ints -/
def lt3 : Q2 := fun x y G Q => match x, y with
  | .int i, .int j => Q (.bl (decide (i < j))) G
  | _, _ => False
def le3 : Q2 := fun x y G Q => match x, y with
  | .int i, .int j => Q (.bl (decide (i ≤ j))) G
  | _, _ => False
theorem o_lt : OpR3 X Z (compareOp .Lt) lt3 := by
  refine ⟨_, op_lt, fun G H x y v u Q3 Q g rx ry h q => ?_⟩
  unfold lt3 at h
  split at h
  · cases rx; cases ry
    exact ⟨_, _, rfl, rfl, q_of q g h (.bl _)⟩
  · exact h.elim
theorem o_le : OpR3 X Z (compareOp .LtE) le3 := by
  refine ⟨_, op_le, fun G H x y v u Q3 Q g rx ry h q => ?_⟩
  unfold le3 at h
  split at h
  · cases rx; cases ry
    exact ⟨_, _, rfl, rfl, q_of q g h (.bl _)⟩
  · exact h.elim
def gt3 : Q2 := fun x y => lt3 y x
def ge3 : Q2 := fun x y => le3 y x
theorem o_gt : OpR3 X Z (compareOp .Gt) gt3 := by
  refine ⟨_, op_gt, fun G H x y v u Q3 Q g rx ry h q => ?_⟩
  unfold gt3 lt3 at h
  split at h
  · cases rx; cases ry
    exact ⟨_, _, rfl, rfl, q_of q g h (.bl _)⟩
  · exact h.elim
theorem o_ge : OpR3 X Z (compareOp .GtE) ge3 := by
  refine ⟨_, op_ge, fun G H x y v u Q3 Q g rx ry h q => ?_⟩
  unfold ge3 le3 at h
  split at h
  · cases rx; cases ry
    exact ⟨_, _, rfl, rfl, q_of q g h (.bl _)⟩
  · exact h.elim
end
end L3
namespace L3
open PySem PySem.Spec PyProof.Rows L2
open He (ga)
/-! ### texts by their letters -/
theorem ofString_inj {a b : String} : (Str.ofString a = Str.ofString b) ↔ a = b := by
  constructor
  · intro h
    have h1 := congrArg (fun z : Str => z.cps.toList) h
    have e : ∀ s : String, (Str.ofString s).cps.toList = s.toList.map Char.toNat := fun s => by
      show (cpsOfBytes 0 0 s.toByteArray.data.toList).toArray.toList = _
      rw [List.toList_toArray, cpsOfBytes_string]
    simp only [e] at h1
    have inj : ∀ l m : List Char, l.map Char.toNat = m.map Char.toNat → l = m := by
      intro l
      induction l with
      | nil => intro m h; cases m with
        | nil => rfl
        | cons _ _ => cases h
      | cons c l ih => intro m h; cases m with
        | nil => cases h
        | cons d m =>
          injection h with h1 h2
          have : c = d := Char.toNat_inj.mp h1
          rw [this, ih m h2]
    have h2 := inj _ _ h1
    have := congrArg String.ofList h2
    simpa using this
  · intro h; rw [h]
/-! ### equality -/
mutual
def eqD : D → D → Bool
  | .non, .non => true
  | .bl a, .bl b => a == b
  | .bl a, .int j => (if a then 1 else 0) == j
  | .int i, .bl b => i == (if b then 1 else 0)
  | .int i, .int j => i == j
  | .str x, .str y => x == y
  | .tup xs, .tup ys => eqL xs ys
  | .fl xs, .fl ys => eqL xs ys
  | .fl xs, .sl ys => eqL xs ys
  | .sl xs, .fl ys => eqL xs ys
  | .sl xs, .sl ys => eqL xs ys
  | _, _ => false
def eqL : List D → List D → Bool
  | [], [] => true
  | x :: xs, y :: ys => eqD x y && eqL xs ys
  | _, _ => false
end
mutual
def sh : Nat → D → Bool
  | _, .non => true
  | _, .bl _ => true
  | _, .int _ => true
  | _, .str x => PyData.strOk x
  | n + 1, .tup xs => shL n xs
  | n + 1, .fl xs => shL n xs
  | n + 1, .sl xs => shL n xs
  | _, _ => false
def shL : Nat → List D → Bool
  | _, [] => true
  | n, x :: xs => sh n x && shL n xs
end
mutual
def py : D → PyData
  | .non => .none
  | .bl b => .bool b
  | .int i => .int i
  | .str x => .str x
  | .tup xs => .tuple (pyL xs)
  | .fl xs => .list (pyL xs)
  | .sl xs => .list (pyL xs)
  | _ => .none
def pyL : List D → List PyData
  | [] => []
  | x :: xs => py x :: pyL xs
end
mutual
theorem sh_lay : ∀ (n : Nat) (d : D), sh n d = true → (py d).canLay0 = true ∧ (py d).depth ≤ n
  | _, .non, _ => by simp [py, PyData.canLay0, PyData.depth]
  | _, .bl _, _ => by simp [py, PyData.canLay0, PyData.depth]
  | _, .int _, _ => by simp [py, PyData.canLay0, PyData.depth]
  | _, .str x, h => by
    have h : PyData.strOk x = true := by simpa [sh] using h
    simp [py, PyData.canLay0, PyData.depth, h]
  | n + 1, .tup xs, h => by
    have := shL_lay n xs (by simpa [sh] using h)
    simp only [py, PyData.canLay0, PyData.depth]
    exact ⟨this.1, by omega⟩
  | n + 1, .fl xs, h => by
    have := shL_lay n xs (by simpa [sh] using h)
    simp only [py, PyData.canLay0, PyData.depth]
    exact ⟨this.1, by omega⟩
  | n + 1, .sl xs, h => by
    have := shL_lay n xs (by simpa [sh] using h)
    simp only [py, PyData.canLay0, PyData.depth]
    exact ⟨this.1, by omega⟩
  | 0, .tup xs, h => by simp [sh] at h
  | 0, .fl xs, h => by simp [sh] at h
  | 0, .sl xs, h => by simp [sh] at h
  | _, .ob _ _ _, h => by simp [sh] at h
  | _, .emp, h => by simp [sh] at h
  | _, .ref _, h => by simp [sh] at h
  | _, .ex _, h => by simp [sh] at h
  | _, .exf _ _ _, h => by simp [sh] at h
theorem shL_lay : ∀ (n : Nat) (d : List D), shL n d = true → PyData.canLayAll0 (pyL d) = true ∧ PyData.depthAll (pyL d) ≤ n
  | _, [], _ => by simp [pyL, PyData.canLayAll0, PyData.depthAll]
  | n, x :: xs, h => by
    simp only [shL, Bool.and_eq_true] at h
    have h1 := sh_lay n x h.1
    have h2 := shL_lay n xs h.2
    simp only [pyL, PyData.canLayAll0, PyData.depthAll, h1.1, h2.1, Bool.and_true, true_and]
    omega
end
theorem sh_shaped {d : D} (h : sh 64 d = true) : SeqAt.shaped (py d) = true := by
  have := sh_lay 64 d h
  unfold SeqAt.shaped
  rw [this.1, decide_eq_true this.2]; rfl
mutual
theorem eqv_py : ∀ (n : Nat) (d e : D), sh n d = true → sh n e = true → PyData.eqv (py d) (py e) = eqD d e
  | n, d, e, hd, he => by
    cases d with
    | ob _ _ _ => cases n <;> simp [sh] at hd
    | emp => cases n <;> simp [sh] at hd
    | ref _ => cases n <;> simp [sh] at hd
    | ex _ => cases n <;> simp [sh] at hd
    | exf _ _ _ => cases n <;> simp [sh] at hd
    | fn _ => cases n <;> simp [sh] at hd
    | lam _ _ _ _ _ => cases n <;> simp [sh] at hd
    | tup xs =>
      cases n with
      | zero => simp [sh] at hd
      | succ n =>
        cases e with
        | tup ys => simp only [py, PyData.eqv, eqD]; exact eqv_pyL n xs ys (by simpa [sh] using hd) (by simpa [sh] using he)
        | ob _ _ _ => simp [sh] at he
        | emp => simp [sh] at he
        | ref _ => simp [sh] at he
        | ex _ => simp [sh] at he
        | exf _ _ _ => simp [sh] at he
        | fn _ => simp [sh] at he
        | lam _ _ _ _ _ => simp [sh] at he
        | _ => simp [py, PyData.eqv, eqD]
    | fl xs =>
      cases n with
      | zero => simp [sh] at hd
      | succ n =>
        cases e with
        | fl ys => simp only [py, PyData.eqv, eqD]; exact eqv_pyL n xs ys (by simpa [sh] using hd) (by simpa [sh] using he)
        | sl ys => simp only [py, PyData.eqv, eqD]; exact eqv_pyL n xs ys (by simpa [sh] using hd) (by simpa [sh] using he)
        | ob _ _ _ => simp [sh] at he
        | emp => simp [sh] at he
        | ref _ => simp [sh] at he
        | ex _ => simp [sh] at he
        | exf _ _ _ => simp [sh] at he
        | fn _ => simp [sh] at he
        | lam _ _ _ _ _ => simp [sh] at he
        | _ => simp [py, PyData.eqv, eqD]
    | sl xs =>
      cases n with
      | zero => simp [sh] at hd
      | succ n =>
        cases e with
        | fl ys => simp only [py, PyData.eqv, eqD]; exact eqv_pyL n xs ys (by simpa [sh] using hd) (by simpa [sh] using he)
        | sl ys => simp only [py, PyData.eqv, eqD]; exact eqv_pyL n xs ys (by simpa [sh] using hd) (by simpa [sh] using he)
        | ob _ _ _ => simp [sh] at he
        | emp => simp [sh] at he
        | ref _ => simp [sh] at he
        | ex _ => simp [sh] at he
        | exf _ _ _ => simp [sh] at he
        | fn _ => simp [sh] at he
        | lam _ _ _ _ _ => simp [sh] at he
        | _ => simp [py, PyData.eqv, eqD]
    | non => cases e with
      | ob _ _ _ => cases n <;> simp [sh] at he
      | emp => cases n <;> simp [sh] at he
      | ref _ => cases n <;> simp [sh] at he
      | ex _ => cases n <;> simp [sh] at he
      | exf _ _ _ => cases n <;> simp [sh] at he
      | fn _ => cases n <;> simp [sh] at he
      | lam _ _ _ _ _ => cases n <;> simp [sh] at he
      | _ => simp [py, PyData.eqv, eqD]
    | bl b => cases e with
      | ob _ _ _ => cases n <;> simp [sh] at he
      | emp => cases n <;> simp [sh] at he
      | ref _ => cases n <;> simp [sh] at he
      | ex _ => cases n <;> simp [sh] at he
      | exf _ _ _ => cases n <;> simp [sh] at he
      | fn _ => cases n <;> simp [sh] at he
      | lam _ _ _ _ _ => cases n <;> simp [sh] at he
      | _ => simp [py, PyData.eqv, eqD]
    | int b => cases e with
      | ob _ _ _ => cases n <;> simp [sh] at he
      | emp => cases n <;> simp [sh] at he
      | ref _ => cases n <;> simp [sh] at he
      | ex _ => cases n <;> simp [sh] at he
      | exf _ _ _ => cases n <;> simp [sh] at he
      | fn _ => cases n <;> simp [sh] at he
      | lam _ _ _ _ _ => cases n <;> simp [sh] at he
      | _ => simp [py, PyData.eqv, eqD]
    | str b => cases e with
      | ob _ _ _ => cases n <;> simp [sh] at he
      | emp => cases n <;> simp [sh] at he
      | ref _ => cases n <;> simp [sh] at he
      | ex _ => cases n <;> simp [sh] at he
      | exf _ _ _ => cases n <;> simp [sh] at he
      | fn _ => cases n <;> simp [sh] at he
      | lam _ _ _ _ _ => cases n <;> simp [sh] at he
      | _ => simp [py, PyData.eqv, eqD]
theorem eqv_pyL : ∀ (n : Nat) (d e : List D), shL n d = true → shL n e = true → PyData.eqvAll (pyL d) (pyL e) = eqL d e
  | _, [], [], _, _ => by simp [pyL, PyData.eqvAll, eqL]
  | _, [], _ :: _, _, _ => by simp [pyL, PyData.eqvAll, eqL]
  | _, _ :: _, [], _, _ => by simp [pyL, PyData.eqvAll, eqL]
  | n, x :: xs, y :: ys, hd, he => by
    simp only [shL, Bool.and_eq_true] at hd he
    simp only [pyL, PyData.eqvAll, eqL]
    rw [eqv_py n x y hd.1 he.1, eqv_pyL n xs ys hd.2 he.2]
end
section
variable {K : K3} {G : Gp} {H : Hp}
mutual
theorem Dv.dp : ∀ {d : D} {v : V} {n : Nat}, Dv K G H d v → sh n d = true → Dp K.f H v (py d)
  | _, _, _, .non, _ => by simp only [py]; exact .non
  | _, _, _, .bl b, _ => by simp only [py]; exact .bl b
  | _, _, _, .int b, _ => by simp only [py]; exact .int b
  | _, _, _, .str b, _ => by simp only [py]; exact .str b
  | _, _, 0, .tup s r, h => by simp [sh] at h
  | _, _, n + 1, .tup s r, h => by simp only [py]; exact .tup s (DvL.dp r (n := n) (by simpa [sh] using h))
  | _, _, 0, .fl s n r, h => by simp [sh] at h
  | _, _, n + 1, .fl s _ r, h => by simp only [py]; exact .lst (SqL.of s) (DvL.dp r (n := n) (by simpa [sh] using h))
  | _, _, 0, .sl s r, h => by simp [sh] at h
  | _, _, n + 1, .sl s r, h => by simp only [py]; exact .lst s.sql (DvL.dp r (n := n) (by simpa [sh] using h))
  | _, _, n, .ob _ _ _ _, h => by cases n <;> simp [sh] at h
  | _, _, n, .emp _ _, h => by cases n <;> simp [sh] at h
  | _, _, n, .ref _, h => by cases n <;> simp [sh] at h
  | _, _, n, .ex _ _, h => by cases n <;> simp [sh] at h
  | _, _, n, .fn _, h => by cases n <;> simp [sh] at h
  | _, _, n, .lam _ _ _, h => by cases n <;> simp [sh] at h
  | _, _, n, .exf _ _ _ _, h => by cases n <;> simp [sh] at h
theorem DvL.dp : ∀ {d : List D} {v : List V} {n : Nat}, DvL K G H d v → shL n d = true → DpAll K.f H v (pyL d)
  | _, _, _, .nil, _ => by simp only [pyL]; exact .nil
  | _, _, n, .cons r t, h => by
    simp only [shL, Bool.and_eq_true] at h
    simp only [pyL]
    exact .cons (Dv.dp r h.1) (DvL.dp t h.2)
end
end
/-- scalars that == tells apart without a condition -/
def scD : D → D → Bool
  | .non, .non => true | .non, .int _ => true | .int _, .non => true | .non, .bl _ => true | .bl _, .non => true | .non, .str _ => true | .str _, .non => true
  | .int _, .int _ => true | .bl _, .bl _ => true | .str _, .str _ => true
  | .int _, .str _ => true | .str _, .int _ => true | .bl _, .str _ => true | .str _, .bl _ => true
  | _, _ => false
def eqOk (x y : D) : Bool := scD x y || (sh 64 x && sh 64 y)
def eq3 : Q2 := fun x y G Q => eqOk x y = true ∧ Q (.bl (eqD x y)) G
def ne3 : Q2 := fun x y G Q => eqOk x y = true ∧ Q (.bl (!eqD x y)) G
section
variable {K : K3} {G : Gp} {H : Hp}
theorem scal_of {x y : D} {v u : V} (rx : Dv K G H x v) (ry : Dv K G H y u) (h : scD x y = true) : scal v u = true ∧ decide (v = u) = eqD x y := by
  cases rx <;> cases ry <;> first | (simp [scD] at h; done) | (constructor <;> simp [scal, eqD] <;> rfl) | (constructor <;> simp [scal, eqD])
variable {X : Cx} {Z : Zx}
theorem o_eq {k : Nat} (hr : Room k X.A) : OpR3 X Z (compareOp .Eq) eq3 := by
  refine ⟨_, op_eq.or (op_eqD hr.units), fun G H x y v u Q3 Q g rx ry h q => ?_⟩
  obtain ⟨c, h⟩ := h
  cases e : scD x y with
  | true =>
    obtain ⟨h1, h2⟩ := scal_of rx ry e
    exact .inl ⟨h1, by rw [h2]; exact q_of q g h (.bl _)⟩
  | false =>
    unfold eqOk at c
    rw [e, Bool.false_or, Bool.and_eq_true] at c
    refine .inr ⟨_, _, rx.dp c.1, ry.dp c.2, sh_shaped c.1, sh_shaped c.2, ?_⟩
    rw [eqv_py 64 x y c.1 c.2]
    exact q_of q g h (.bl _)
theorem o_ne {k : Nat} (hr : Room k X.A) : OpR3 X Z (compareOp .NotEq) ne3 := by
  refine ⟨_, op_ne.or (op_neD hr.units), fun G H x y v u Q3 Q g rx ry h q => ?_⟩
  obtain ⟨c, h⟩ := h
  cases e : scD x y with
  | true =>
    obtain ⟨h1, h2⟩ := scal_of rx ry e
    exact .inl ⟨h1, by rw [h2]; exact q_of q g h (.bl _)⟩
  | false =>
    unfold eqOk at c
    rw [e, Bool.false_or, Bool.and_eq_true] at c
    refine .inr ⟨_, _, rx.dp c.1, ry.dp c.2, sh_shaped c.1, sh_shaped c.2, ?_⟩
    rw [eqv_py 64 x y c.1 c.2]
    exact q_of q g h (.bl _)
end
/-! ### is None, is True, is False -/
def isN : D → Bool
  | .non => true
  | _ => false
def isB (b : Bool) : D → Bool
  | .bl c => c == b
  | _ => false
def is3 (neg : Bool) : Q2 := fun x y G Q => match y with
  | .non => Q (.bl (if neg then !isN x else isN x)) G
  | .bl b => Q (.bl (if neg then !isB b x else isB b x)) G
  | _ => False
theorem isn_ok {K : K3} {G : Gp} {H : Hp} {x : D} {v : V} (r : Dv K G H x v) : decide (v = V.non) = isN x := by
  cases r <;> simp [isN]
theorem op_isAny {X : Cx} : OpR X (compareOp .Is) (fun x y H Q => ∃ b : Bool, y = .bl b ∧ Q (.bl (decide (x = .bl b))) H) := by
  intro pins s σ H x y v u Q I rx ry h
  obtain ⟨b, rfl, q⟩ := h
  cases (show u = Value.bool b from ry)
  cases x with
  | bl c =>
    cases (show v = Value.bool c from rx)
    refine wpAny_pure (fin_bl I q ?_)
    cases b <;> cases c <;> rfl
  | int i => obtain ⟨t, rfl⟩ := rx; exact wpAny_pure (fin_bl I q rfl)
  | str i => obtain ⟨t, rfl⟩ := rx; exact wpAny_pure (fin_bl I q rfl)
  | byt i => obtain ⟨t, rfl⟩ := rx; exact wpAny_pure (fin_bl I q rfl)
  | flt i => obtain ⟨t, rfl⟩ := rx; exact wpAny_pure (fin_bl I q rfl)
  | non => cases (show v = Value.none from rx); exact wpAny_pure (fin_bl I q rfl)
  | ref a => cases (show v = Value.ref a from rx); exact wpAny_pure (fin_bl I q rfl)
  | ty a => cases (show v = Value.type a from rx); exact wpAny_pure (fin_bl I q rfl)
theorem op_notAny {X : Cx} : OpR X (compareOp .IsNot) (fun x y H Q => ∃ b : Bool, y = .bl b ∧ Q (.bl (!decide (x = .bl b))) H) := by
  intro pins s σ H x y v u Q I rx ry h
  obtain ⟨b, rfl, q⟩ := h
  cases (show u = Value.bool b from ry)
  cases x with
  | bl c =>
    cases (show v = Value.bool c from rx)
    refine wpAny_pure (fin_bl I q ?_)
    cases b <;> cases c <;> rfl
  | int i => obtain ⟨t, rfl⟩ := rx; exact wpAny_pure (fin_bl I q rfl)
  | str i => obtain ⟨t, rfl⟩ := rx; exact wpAny_pure (fin_bl I q rfl)
  | byt i => obtain ⟨t, rfl⟩ := rx; exact wpAny_pure (fin_bl I q rfl)
  | flt i => obtain ⟨t, rfl⟩ := rx; exact wpAny_pure (fin_bl I q rfl)
  | non => cases (show v = Value.none from rx); exact wpAny_pure (fin_bl I q rfl)
  | ref a => cases (show v = Value.ref a from rx); exact wpAny_pure (fin_bl I q rfl)
  | ty a => cases (show v = Value.type a from rx); exact wpAny_pure (fin_bl I q rfl)
theorem isb_ok {K : K3} {G : Gp} {H : Hp} {x : D} {v : V} {b : Bool} (r : Dv K G H x v) : decide (v = V.bl b) = isB b x := by
  cases r <;> simp [isB] <;> rfl
section
variable {X : Cx} {Z : Zx}
theorem o_is : OpR3 X Z (compareOp .Is) (is3 false) := by
  refine ⟨_, op_isN.or op_isAny, fun G H x y v u Q3 Q g rx ry h q => ?_⟩
  unfold is3 at h
  split at h
  · cases ry
    exact .inl ⟨rfl, by rw [isn_ok rx]; exact q_of q g h (.bl _)⟩
  · cases ry
    exact .inr ⟨_, rfl, by rw [isb_ok rx]; exact q_of q g h (.bl _)⟩
  · exact h.elim
theorem o_isnot : OpR3 X Z (compareOp .IsNot) (is3 true) := by
  refine ⟨_, op_notN.or op_notAny, fun G H x y v u Q3 Q g rx ry h q => ?_⟩
  unfold is3 at h
  split at h
  · cases ry
    exact .inl ⟨rfl, by rw [isn_ok rx]; exact q_of q g h (.bl _)⟩
  · cases ry
    exact .inr ⟨_, rfl, by rw [isb_ok rx]; exact q_of q g h (.bl _)⟩
  · exact h.elim
end
end L3
namespace L3
open PySem PySem.Spec PyProof.Rows L2
open He (ga)
/-! ### x in a sequence of flat things -/
def flD : D → Bool
  | .non => true
  | .bl _ => true
  | .int _ => true
  | .str _ => true
  | _ => false
def inD (x : D) (xs : List D) : Bool := xs.any fun y => eqD y x
def in3 (neg : Bool) : Q2 := fun x y G Q => ∃ xs, sq G y = some xs ∧ flD x = true ∧ xs.all flD = true ∧ Q (.bl (if neg then !inD x xs else inD x xs)) G
section
variable {K : K3} {G : Gp} {H : Hp}
theorem fl_ok {x : D} {v : V} (r : Dv K G H x v) (h : flD x = true) : flatV v = true := by
  cases r <;> first | rfl | (simp [flD] at h)
theorem eqV_ok {x y : D} {v u : V} (rx : Dv K G H x v) (ry : Dv K G H y u) (h : flD x = true) (h' : flD y = true) : eqV v u = eqD x y := by
  cases rx <;> cases ry <;> first | (simp [flD] at h; done) | (simp [flD] at h'; done) | simp [eqV, eqD]
theorem fls_ok : ∀ {xs : List D} {vs : List V}, DvL K G H xs vs → xs.all flD = true → vs.all flatV = true
  | _, _, .nil, _ => rfl
  | _, _, .cons r t, h => by
    rw [List.all_cons, Bool.and_eq_true] at h ⊢
    exact ⟨fl_ok r h.1, fls_ok t h.2⟩
theorem inV_ok {x : D} {v : V} (rx : Dv K G H x v) (h : flD x = true) : ∀ {xs : List D} {vs : List V}, DvL K G H xs vs → xs.all flD = true → inV v vs = inD x xs
  | _, _, .nil, _ => rfl
  | _, _, .cons r t, f => by
    rw [List.all_cons, Bool.and_eq_true] at f
    have ih := inV_ok rx h t f.2
    unfold inV inD at ih ⊢
    rw [List.any_cons, List.any_cons, eqV_ok r rx f.1 h, ih]
variable {X : Cx} {Z : Zx}
theorem o_in : OpR3 X Z (compareOp .In) (in3 false) := by
  refine ⟨_, op_in_seq, fun G H x y v u Q3 Q g rx ry h q => ?_⟩
  obtain ⟨xs, e, fx, fs, h⟩ := h
  obtain ⟨a, vs, ea, s, r⟩ := sq_ok g ry e
  refine ⟨a, vs, ea, s, fl_ok rx fx, fls_ok r fs, ?_⟩
  rw [inV_ok rx fx r fs]
  exact q_of q g h (.bl _)
theorem o_notin : OpR3 X Z (compareOp .NotIn) (in3 true) := by
  refine ⟨_, op_notIn_seq, fun G H x y v u Q3 Q g rx ry h q => ?_⟩
  obtain ⟨xs, e, fx, fs, h⟩ := h
  obtain ⟨a, vs, ea, s, r⟩ := sq_ok g ry e
  refine ⟨a, vs, ea, s, fl_ok rx fx, fls_ok r fs, ?_⟩
  rw [inV_ok rx fx r fs]
  exact q_of q g h (.bl _)
end
/-! ### a < b < c -/
def tch (t t' : Q2) (ta tb tc : TE3) : TE3 := fun σ G Q E => ta σ G (fun x G1 => tb σ G1 (fun y G2 => t x y G2 fun z G3 => ∃ k, z = .bl k ∧ if k = true then tc σ G3 (fun w G4 => t' y w G4 Q) E else Q (.bl false) G3) E) E
section
variable {X : Cx} {Z : Zx} {W : WX} {a b c : Expr} {ta tb tc : TE3} {pos : Pos}
theorem chain_k {r r' : R2} {t t' : Q2} (k : ∀ G H x y v u Q3 Q, GH (Cxk X Z) G H → Dv (Cxk X Z) G H x v → Dv (Cxk X Z) G H y u → t x y G Q3 → Qk (Cxk X Z) G H Q3 Q → r v u H Q)
    (k' : ∀ G H x y v u Q3 Q, GH (Cxk X Z) G H → Dv (Cxk X Z) G H x v → Dv (Cxk X Z) G H y u → t' x y G Q3 → Qk (Cxk X Z) G H Q3 Q → r' v u H Q) (σ : St) (H : Hp) (Q : VK) (h : liftE (Cxk X Z) W (tch t t' ta tb tc) σ H Q) :
    tChain r r' (liftE (Cxk X Z) W ta) (liftE (Cxk X Z) W tb) (liftE (Cxk X Z) W tc) σ H Q := by
  obtain ⟨σ3, G, Q3, E3, g, rs, h, q, x⟩ := h
  refine ⟨σ3, G, _, E3, g, rs, h, fun d1 G1 v1 H1 h1 g1 r1 k1 => ?_, x⟩
  refine ⟨σ3, G1, _, E3, g1, rs.keep g k1, h1, fun d2 G2 v2 H2 h2 g2 r2 k2 => ?_, x.keep k1⟩
  refine k G2 H2 d1 d2 v1 v2 _ _ g2 (r1.keep g1 k2) r2 h2 fun d3 G3 v3 H3 h3 g3 r3 k3 => ?_
  obtain ⟨b, e, h3⟩ := h3
  subst e
  cases r3
  refine ⟨b, rfl, ?_⟩
  cases b with
  | true =>
    rw [if_pos rfl] at h3 ⊢
    refine ⟨σ3, G3, _, E3, g3, ((rs.keep g k1).keep g1 k2).keep g2 k3, h3, fun d4 G4 v4 H4 h4 g4 r4 k4 => ?_, x.keep ((k1.trans k2).trans k3)⟩
    exact k' G4 H4 d2 d4 v2 v4 Q3 Q g4 ((r2.keep g2 k3).keep g3 k4) r4 h4 (q.keep (((k1.trans k2).trans k3).trans k4))
  | false =>
    rw [if_neg Bool.false_ne_true] at h3 ⊢
    exact q _ _ _ _ h3 g3 (.bl false) ((k1.trans k2).trans k3)
theorem ch_ {op op' : CmpOp} {t t' : Q2} (ho : OpR3 X Z (compareOp op) t) (ho' : OpR3 X Z (compareOp op') t') (ha : PE3 X Z W a ta) (hb : PE3 X Z W b tb) (hc : PE3 X Z W c tc)
    (hm : lastMarks [op, op'] [b, c] = false := by with_unfolding_all rfl) : PE3 X Z W (.Compare a [op, op'] [b, c] pos) (tch t t' ta tb tc) := by
  obtain ⟨r, h, k⟩ := ho
  obtain ⟨r', h', k'⟩ := ho'
  exact PE.imp (pe_chain h h' ha hb hc hm) (chain_k k k')
theorem tch_ {op op' : CmpOp} {t t' : Q2} (ho : OpR3 X Z (compareOp op) t) (ho' : OpR3 X Z (compareOp op') t') (ha : PE3 X Z W a ta) (hb : PE3 X Z W b tb) (hc : PE3 X Z W c tc)
    (hm : lastMarks [op, op'] [b, c] = false := by with_unfolding_all rfl) : PT3 X Z W (.Compare a [op, op'] [b, c] pos) (tb3 (tch t t' ta tb tc)) := by
  obtain ⟨r, h, k⟩ := ho
  obtain ⟨r', h', k'⟩ := ho'
  refine PT.imp (pt_chain h h' ha hb hc hm) fun σ H Q hq => chain_k (W := W) k k' σ H (fun x H' => ∃ k, x = .bl k ∧ Q k H') ?_
  obtain ⟨σ3, G, Q3, E3, g, rs, h, q, x⟩ := hq
  refine ⟨σ3, G, _, E3, g, rs, h, fun d G1 v H1 ⟨b, e, h1⟩ g1 r1 k1 => ?_, x⟩
  subst e
  cases r1
  exact ⟨b, rfl, q b G1 H1 h1 g1 k1⟩
end
/-! ### and, or, not; if -/
def tand (ta tb : TE3) : TE3 := fun σ G Q E => ta σ G (fun x G1 => ∃ c, x = .bl c ∧ if c = true then tb σ G1 Q E else Q (.bl false) G1) E
def tor (ta tb : TE3) : TE3 := fun σ G Q E => ta σ G (fun x G1 => ∃ c, x = .bl c ∧ if c = true then Q (.bl true) G1 else tb σ G1 Q E) E
def tnot (ta : TE3) : TE3 := fun σ G Q E => ta σ G (fun x G1 => ∃ c, x = .bl c ∧ Q (.bl (!c)) G1) E
def tif (tc : TT3) (ta tb : TE3) : TE3 := fun σ G Q E => tc σ G (fun c G1 => if c = true then ta σ G1 Q E else tb σ G1 Q E) E
def Tand (ta tb : TT3) : TT3 := fun σ G Q E => ta σ G (fun c G1 => if c = true then tb σ G1 Q E else Q false G1) E
def Tor (ta tb : TT3) : TT3 := fun σ G Q E => ta σ G (fun c G1 => if c = true then Q true G1 else tb σ G1 Q E) E
def Tnot (ta : TT3) : TT3 := fun σ G Q E => ta σ G (fun c G1 => Q (!c) G1) E
section
variable {X : Cx} {Z : Zx} {W : WX} {a b c : Expr} {rest : List Expr} {ta tb : TE3} {tc td : TT3} {pos : Pos}
theorem one_ {op} {t : TE3} (h : PE3 X Z W a t) : PE3 X Z W (.BoolOp op [a] pos) t := pe_one h
theorem and_ (ha : PE3 X Z W a ta) (hb : PE3 X Z W (.BoolOp .And (b :: rest) pos) tb) : PE3 X Z W (.BoolOp .And (a :: b :: rest) pos) (tand ta tb) := PE.imp (pe_and ha hb) fun σ H Q h => by
  obtain ⟨σ3, G, Q3, E3, g, rs, h, q, x⟩ := h
  refine ⟨σ3, G, _, E3, g, rs, h, fun d1 G1 v1 H1 ⟨c, e, h1⟩ g1 r1 k1 => ?_, x⟩
  subst e
  cases r1
  refine ⟨c, rfl, ?_⟩
  cases c with
  | true => exact ⟨σ3, G1, Q3, E3, g1, rs.keep g k1, h1, q.keep k1, x.keep k1⟩
  | false => exact q _ _ _ _ h1 g1 (.bl false) k1
theorem or_ (ha : PE3 X Z W a ta) (hb : PE3 X Z W (.BoolOp .Or (b :: rest) pos) tb) : PE3 X Z W (.BoolOp .Or (a :: b :: rest) pos) (tor ta tb) := PE.imp (pe_or ha hb) fun σ H Q h => by
  obtain ⟨σ3, G, Q3, E3, g, rs, h, q, x⟩ := h
  refine ⟨σ3, G, _, E3, g, rs, h, fun d1 G1 v1 H1 ⟨c, e, h1⟩ g1 r1 k1 => ?_, x⟩
  subst e
  cases r1
  refine ⟨c, rfl, ?_⟩
  cases c with
  | false => exact ⟨σ3, G1, Q3, E3, g1, rs.keep g k1, h1, q.keep k1, x.keep k1⟩
  | true => exact q _ _ _ _ h1 g1 (.bl true) k1
theorem not_ (ha : PE3 X Z W a ta) : PE3 X Z W (.UnaryOp .Not a pos) (tnot ta) := PE.imp (pe_not ha) fun σ H Q h => by
  obtain ⟨σ3, G, Q3, E3, g, rs, h, q, x⟩ := h
  refine ⟨σ3, G, _, E3, g, rs, h, fun d1 G1 v1 H1 ⟨c, e, h1⟩ g1 r1 k1 => ?_, x⟩
  subst e
  cases r1
  exact ⟨c, rfl, q _ _ _ _ h1 g1 (.bl _) k1⟩
/-- an expression whose value is a bool, as a test -/
theorem tv_ {e : Expr} {t : TE3} (h : PE3 X Z W e t) (he : ∀ whole, isTrue e X.env whole = (do let v ← whole; standAt e.pos; holding [v] (truthy v)) := by intro _; rfl) : PT3 X Z W e (tb3 t) := PT.imp (pt_val h he) fun σ H Q h => by
  obtain ⟨σ3, G, Q3, E3, g, rs, h, q, x⟩ := h
  refine ⟨σ3, G, _, E3, g, rs, h, fun d1 G1 v1 H1 ⟨c, e, h1⟩ g1 r1 k1 => ?_, x⟩
  subst e
  cases r1
  exact ⟨c, rfl, q _ _ _ h1 g1 k1⟩
theorem w1and_ (ha : PT3 X Z W a tc) : PW3 X Z W (.BoolOp .And [a] pos) tc := pw_and1 ha
theorem w1or_ (ha : PT3 X Z W a tc) : PW3 X Z W (.BoolOp .Or [a] pos) tc := pw_or1 ha
theorem wand_ (ha : PT3 X Z W a tc) (hb : PW3 X Z W (.BoolOp .And (b :: rest) pos) td) : PW3 X Z W (.BoolOp .And (a :: b :: rest) pos) (Tand tc td) := PW.imp (pw_and ha hb) fun σ H Q h => by
  obtain ⟨σ3, G, Q3, E3, g, rs, h, q, x⟩ := h
  refine ⟨σ3, G, _, E3, g, rs, h, fun c G1 H1 h1 g1 k1 => ?_, x⟩
  cases c with
  | true => exact ⟨σ3, G1, Q3, E3, g1, rs.keep g k1, h1, q.keep k1, x.keep k1⟩
  | false => exact q _ _ _ h1 g1 k1
theorem wor_ (ha : PT3 X Z W a tc) (hb : PW3 X Z W (.BoolOp .Or (b :: rest) pos) td) : PW3 X Z W (.BoolOp .Or (a :: b :: rest) pos) (Tor tc td) := PW.imp (pw_or ha hb) fun σ H Q h => by
  obtain ⟨σ3, G, Q3, E3, g, rs, h, q, x⟩ := h
  refine ⟨σ3, G, _, E3, g, rs, h, fun c G1 H1 h1 g1 k1 => ?_, x⟩
  cases c with
  | false => exact ⟨σ3, G1, Q3, E3, g1, rs.keep g k1, h1, q.keep k1, x.keep k1⟩
  | true => exact q _ _ _ h1 g1 k1
theorem tw_ (h : PW3 X Z W a tc) : PT3 X Z W a tc := PW.pt h
theorem tnot_ (ha : PT3 X Z W a tc) : PT3 X Z W (.UnaryOp .Not a pos) (Tnot tc) := PT.imp (pt_not ha) fun σ H Q h => by
  obtain ⟨σ3, G, Q3, E3, g, rs, h, q, x⟩ := h
  exact ⟨σ3, G, _, E3, g, rs, h, fun c G1 H1 h1 g1 k1 => q _ _ _ h1 g1 k1, x⟩
theorem if_ (hc : PT3 X Z W c tc) (ha : PE3 X Z W a ta) (hb : PE3 X Z W b tb) : PE3 X Z W (.IfExp c a b pos) (tif tc ta tb) := PE.imp (pe_ifExp hc ha hb) fun σ H Q h => by
  obtain ⟨σ3, G, Q3, E3, g, rs, h, q, x⟩ := h
  refine ⟨σ3, G, _, E3, g, rs, h, fun c G1 H1 h1 g1 k1 => ?_, x⟩
  cases c with
  | true => exact ⟨σ3, G1, Q3, E3, g1, rs.keep g k1, h1, q.keep k1, x.keep k1⟩
  | false => exact ⟨σ3, G1, Q3, E3, g1, rs.keep g k1, h1, q.keep k1, x.keep k1⟩
end
/-! ### lists of expressions; displays -/
def anil : TA3 := fun _ G Q _ => Q [] G
def acons (ta : TE3) (tr : TA3) : TA3 := fun σ G Q E => ta σ G (fun x G1 => tr σ G1 (fun xs G2 => Q (x :: xs) G2) E) E
def ttup (t : TA3) : TE3 := fun σ G Q E => t σ G (fun xs G1 => xs.length ≤ sizeLine ∧ Q (.tup xs) G1) E
def tlst (m : Bool) (t : TA3) : TE3 := fun σ G Q E => t σ G (fun xs G1 => xs.length ≤ sizeLine ∧ outL m xs G1 Q) E
section
variable {X : Cx} {Z : Zx} {W : WX} {e : Expr} {es : List Expr} {te : TE3} {t : TA3} {pos : Pos}
theorem nil_ : PA3 X Z W [] anil := PA.imp pa_nil fun σ H Q h => by
  obtain ⟨σ3, G, Q3, E3, g, rs, h, q, x⟩ := h
  exact q _ _ _ _ h g .nil Keep.refl
theorem cons_ (ha : PE3 X Z W e te) (hr : PA3 X Z W es t) (hs : starEach (e :: es) X.env = (false, eval e X.env) :: starEach es X.env := by rfl) : PA3 X Z W (e :: es) (acons te t) := PA.imp (pa_cons ha hr hs) fun σ H Q h => by
  obtain ⟨σ3, G, Q3, E3, g, rs, h, q, x⟩ := h
  refine ⟨σ3, G, _, E3, g, rs, h, fun d1 G1 v1 H1 h1 g1 r1 k1 => ?_, x⟩
  refine ⟨σ3, G1, _, E3, g1, rs.keep g k1, h1, fun ds G2 vs H2 h2 g2 r2 k2 => ?_, x.keep k1⟩
  exact q _ _ _ _ h2 g2 (.cons (r1.keep g1 k2) r2) (k1.trans k2)
theorem tup_ {x1} (h : PA3 X Z W es t) : PE3 X Z W (.Tuple es x1 pos) (ttup t) := PE.imp (pe_tup h) fun σ H Q h => by
  obtain ⟨σ3, G, Q3, E3, g, rs, h, q, x⟩ := h
  refine ⟨σ3, G, _, E3, g, rs, h, fun ds G1 vs H1 ⟨l, h1⟩ g1 r1 k1 => ⟨by rw [← r1.length]; exact l, fun p n => outT_ok g1 r1 (q.keep k1) h1 n⟩, x⟩
theorem lst_ (m : Bool) (h : PA3 X Z W es t) : PE3 X Z W (.List es pos) (tlst m t) := PE.imp (pe_lst h) fun σ H Q h => by
  obtain ⟨σ3, G, Q3, E3, g, rs, h, q, x⟩ := h
  refine ⟨σ3, G, _, E3, g, rs, h, fun ds G1 vs H1 ⟨l, h1⟩ g1 r1 k1 => ⟨by rw [← r1.length]; exact l, fun p n => outL_ok m g1 r1 (q.keep k1) h1 n⟩, x⟩
end
/-! ### items, slices -/
/-- o[i] of a list, a tuple, a text -/
def ix3 : Q2 := fun x y G Q => match x, y with
  | .str z, .int i => z.length ≤ sizeLine ∧ ∃ c, atI z.cps.toList i = some c ∧ Q (.str ⟨#[c]⟩) G
  | x, .int i => ∃ xs d, sq G x = some xs ∧ atI xs i = some d ∧ Q d G
  | _, _ => False
theorem atI_ok {K : K3} {G : Gp} {H : Hp} {xs : List D} {vs : List V} {i : Int} {d : D} (r : DvL K G H xs vs) (h : atI xs i = some d) : ∃ v, atI vs i = some v ∧ Dv K G H d v := by
  unfold atI at h ⊢
  rw [← r.length]
  cases e : ixN xs.length i with
  | none => rw [e] at h; cases h
  | some j =>
    rw [e] at h
    obtain ⟨v, h1, h2⟩ := r.get (show xs[j]? = some d from h)
    exact ⟨v, h1, h2⟩
theorem DvL.cutV {K : K3} {G : Gp} {H : Hp} {xs : List D} {vs : List V} (r : DvL K G H xs vs) (lo hi : Option Int) : DvL K G H ((xs.drop (HT.sIx xs.length 0 lo)).take (HT.sIx xs.length xs.length hi - HT.sIx xs.length 0 lo)) (L2.cutV vs lo hi) := by
  unfold L2.cutV
  rw [← r.length]
  exact (r.drop _).take _
def cutD {α : Type} (xs : List α) (lo hi : Option Int) : List α := (xs.drop (HT.sIx xs.length 0 lo)).take (HT.sIx xs.length xs.length hi - HT.sIx xs.length 0 lo)
section
variable {X : Cx} {Z : Zx} {W : WX} {a b : Expr} {ta tb : TE3} {pos : Pos}
theorem ix_ (ha : PE3 X Z W a ta) (hb : PE3 X Z W b tb) (hs : PlainIx b) : PE3 X Z W (.Subscript a b pos) (t2 ix3 ta tb) := by
  refine PE.imp (pe_ix ix_seq ha hb hs) (two_ fun G H x y v u Q3 Q g rx ry h q => ?_)
  unfold ix3 at h
  split at h
  · cases rx; cases ry
    obtain ⟨l, c, e, h⟩ := h
    exact .inr (.inr ⟨_, _, c, rfl, rfl, l, e, q_of q g h (.str _)⟩)
  · cases ry
    obtain ⟨xs, d, e, e2, h⟩ := h
    obtain ⟨p, vs, ep, s, r⟩ := sq_ok g rx e
    obtain ⟨w, h1, h2⟩ := atI_ok r e2
    rcases s with s | s
    · exact .inl ⟨p, vs, _, w, ep, rfl, s, h1, q_of q g h h2⟩
    · exact .inr (.inl ⟨p, vs, _, w, ep, rfl, s, h1, q_of q g h h2⟩)
  · exact h.elim
/-- parts of a slice -/
abbrev TO3 := St3 → Gp → (Option Int → Gp → Prop) → EK → Prop
def liftO (K : K3) (W : WX) (t : TO3) : TO := fun σ H Q => ∃ σ3 G Q3 E3, GH K G H ∧ Rs K G H σ3 σ ∧ t σ3 G Q3 E3 ∧ (∀ o G' H', Q3 o G' → GH K G' H' → Keep G H G' H' → Q o H') ∧ Xk K G H E3 (fun c d H' => W c d σ H')
def PO3 (X : Cx) (Z : Zx) (W : WX) (e : Option Expr) (t : TO3) : Prop := PO X e (liftO (Cxk X Z) W t)
theorem PO.imp {e : Option Expr} {t u : TO} (h : PO X e t) (k : ∀ σ H Q, u σ H Q → t σ H Q) : PO X e u := by
  cases h with
  | mk run => exact ⟨fun pins s σ H Q I q => run pins s σ H Q I (k _ _ _ q)⟩
def onone : TO3 := fun _ G Q _ => Q none G
def osome (t : TE3) : TO3 := fun σ G Q E => t σ G (fun x G1 => ∃ i, x = .int i ∧ Q (some i) G1) E
theorem on_ : PO3 X Z W none onone := PO.imp po_none fun σ H Q h => by
  obtain ⟨σ3, G, Q3, E3, g, rs, h, q, x⟩ := h
  exact q _ _ _ h g Keep.refl
theorem os_ (h : PE3 X Z W a ta) : PO3 X Z W (some a) (osome ta) := PO.imp (po_some h) fun σ H Q h => by
  obtain ⟨σ3, G, Q3, E3, g, rs, h, q, x⟩ := h
  refine ⟨σ3, G, _, E3, g, rs, h, fun d1 G1 v1 H1 ⟨i, e, h1⟩ g1 r1 k1 => ?_, x⟩
  subst e
  cases r1
  exact ⟨i, rfl, q _ _ _ h1 g1 k1⟩
/-- x[lo:hi] of a tuple, a list -/
def sl3 (m : Bool) (x : D) (lo hi : Option Int) (G : Gp) (Q : QK) : Prop := match x with
  | .tup xs => Q (.tup (cutD xs lo hi)) G
  | .str z => z.length ≤ sizeLine ∧ Q (.str (cutS z lo hi)) G
  | x => ∃ xs, lq G x = some xs ∧ outL m (cutD xs lo hi) G Q
def tsl (m : Bool) (te : TE3) (tl th : TO3) : TE3 := fun σ G Q E => te σ G (fun x G1 => tl σ G1 (fun lo G2 => th σ G2 (fun hi G3 => sl3 m x lo hi G3 Q) E) E) E
theorem cut_whole {α : Type} {xs : List α} {lo hi : Option Int} (h : HT.sIx xs.length 0 lo = 0 ∧ HT.sIx xs.length xs.length hi = xs.length) : cutD xs lo hi = xs := by
  unfold cutD
  rw [h.1, h.2, List.drop_zero, Nat.sub_zero, List.take_length]
theorem sl_ (m : Bool) {lo hi : Option Expr} {tl th : TO3} {p2 : Pos} (ha : PE3 X Z W a ta) (hl : PO3 X Z W lo tl) (hh : PO3 X Z W hi th) : PE3 X Z W (.Subscript a (.Slice lo hi none p2) pos) (tsl m ta tl th) := by
  refine PE.imp (pe_slice (sl_tupA.or (sl_list.or sl_str)) ha hl hh) fun σ H Q h => ?_
  obtain ⟨σ3, G, Q3, E3, g, rs, h, q, x⟩ := h
  refine ⟨σ3, G, _, E3, g, rs, h, fun d1 G1 v1 H1 h1 g1 r1 k1 => ?_, x⟩
  refine ⟨σ3, G1, _, E3, g1, rs.keep g k1, h1, fun lo' G2 H2 h2 g2 k2 => ?_, x.keep k1⟩
  refine ⟨σ3, G2, _, E3, g2, (rs.keep g k1).keep g1 k2, h2, fun hi' G3 H3 h3 g3 k3 => ?_, x.keep (k1.trans k2)⟩
  have r3 := (r1.keep g1 k2).keep g2 k3
  have q3 := q.keep ((k1.trans k2).trans k3)
  clear h1 h2 r1
  unfold sl3 at h3
  split at h3
  · cases r3 with
    | tup s r =>
    rename_i xs a vs
    refine .inl ⟨a, vs, rfl, s, fun hw => ?_, fun hw p n => outT_ok g3 (r.cutV _ _) q3 h3 n⟩
    rw [← r.length] at hw
    rw [cut_whole hw] at h3
    exact q_of q3 g3 h3 (.tup s r)
  · cases r3
    exact .inr (.inr ⟨_, rfl, h3.1, q_of q3 g3 h3.2 (.str _)⟩)
  · obtain ⟨xs, e, h3⟩ := h3
    obtain ⟨p, vs, ep, s, r⟩ := lq_ok g3 r3 e
    exact .inr (.inl ⟨p, vs, ep, s, fun p n => outL_ok m g3 (r.cutV _ _) q3 h3 n⟩)
end
end L3
namespace L3
open PySem PySem.Spec PyProof.Rows L2
open He (ga)
/-! ### promises of defs -/
abbrev Sp3 := List D → Gp → QK → EK → Prop
def liftSp (K : K3) (sp : Sp3) : Sp := fun vs H Q E => ∃ ds G Q3 E3, GH K G H ∧ DvL K G H ds vs ∧ sp ds G Q3 E3 ∧ Qk K G H Q3 Q ∧ Xk K G H E3 E
/-- the module's name x is a def that keeps sp, by at most j levels -/
structure Fn3 (P : Program) (w : World) (K : PySem.W.Frag) (mg : Str → Option Value) (base : Heap) (x : Str) (j : Nat) (sp : Sp3) : Prop where
  ex : ∃ (f : Addr) (fd : FuncData) (ps : List Str), mg x = some (.ref f) ∧ PySem.W.keepIn K (.ref f) = true ∧ Binds K fd ps [] ∧ FnOk P w K mg base (L2.CX P w) j f fd ps (liftSp ⟨K, Z0⟩ sp)
def tcall (sp : Sp3) (ta : TA3) : TE3 := fun σ G Q E => ta σ G (fun ds G1 => sp ds G1 Q E) E
section
variable {X : Cx} {Z : Zx} {W : WX} {e : Expr} {es : List Expr} {ta : TA3} {pos p : Pos} {x : Str}
theorem call_k {sp : Sp3} (σ : St) (H : Hp) (Q : VK) (h : liftE (Cxk X Z0) W (tcall sp ta) σ H Q) : tCallS (liftSp (Cxk X Z0) sp) (WE W) (liftA (Cxk X Z0) W ta) σ H Q := by
  obtain ⟨σ3, G, Q3, E3, g, rs, h, q, x⟩ := h
  exact ⟨σ3, G, _, E3, g, rs, h, fun ds G1 vs H1 h1 g1 r1 k1 => ⟨ds, G1, Q3, E3, g1, r1, h1, q.keep k1, x.keep k1⟩, x⟩
theorem call_ {j k : Nat} {sp : Sp3} (F : Fn3 X.prog X.w X.K X.mg X.base x j sp) (hr : Room k X.A) (hj : j ≤ k) (tk : Takes X W) (ha : PA3 X Z0 W (e :: es) ta) (hg : Gl X x := by rfl) (hdb : (x == ("__debug__" : Str)) = false := by decide)
    (he : starEach (e :: es) X.env = (false, eval e X.env) :: starEach es X.env := by rfl) (hpl : (backTo pos (starEach es X.env)).any (·.1) = false := by rfl) : PE3 X Z0 W (.Call (.Name x p) (e :: es) [] pos) (tcall sp ta) := by
  obtain ⟨f, fd, ps, hm, hk, hb, F⟩ := F.ex
  exact PE.imp (pe_callS F (hr.mono hj) hg hm hk hb (fun σ => passAt tk σ) ha hdb he hpl) call_k
end
/-! ### built-in functions, by values -/
abbrev QL := List D → Gp → QK → Prop
def CallR3 (X : Cx) (Z : Zx) (f : Value) (t : QL) : Prop := ∃ r : List V → Hp → VK → Prop, CallR X f r ∧ ∀ G H xs vs Q3 Q, GH (Cxk X Z) G H → DvL (Cxk X Z) G H xs vs → t xs G Q3 → Qk (Cxk X Z) G H Q3 Q → r vs H Q
def tcb (t : QL) (ta : TA3) : TE3 := fun σ G Q E => ta σ G (fun ds G1 => t ds G1 Q) E
section
variable {X : Cx} {Z : Zx} {W : WX} {e : Expr} {es : List Expr} {ta : TA3} {pos p : Pos} {x : Str} {id T : String} {t : QL}
theorem cb_k {r : List V → Hp → VK → Prop} (k : ∀ G H xs vs Q3 Q, GH (Cxk X Z) G H → DvL (Cxk X Z) G H xs vs → t xs G Q3 → Qk (Cxk X Z) G H Q3 Q → r vs H Q) (σ : St) (H : Hp) (Q : VK) (h : liftE (Cxk X Z) W (tcb t ta) σ H Q) : tCB r (liftA (Cxk X Z) W ta) σ H Q := by
  obtain ⟨σ3, G, Q3, E3, g, rs, h, q, x⟩ := h
  exact ⟨σ3, G, _, E3, g, rs, h, fun ds G1 vs H1 h1 g1 r1 k1 => k G1 H1 ds vs Q3 Q g1 r1 h1 (q.keep k1), x⟩
theorem bf_ (hc : CallR3 X Z (.builtin id) t) (hm : X.mg x = none) (hv : bootBuiltins x = some (.builtin id)) (ha : PA3 X Z W (e :: es) ta) (hg : Gl X x := by rfl) (hn : x ≠ "__name__" := by decide) (hdb : (x == ("__debug__" : Str)) = false := by decide)
    (he : starEach (e :: es) X.env = (false, eval e X.env) :: starEach es X.env := by rfl) (hpl : (backTo pos (starEach es X.env)).any (·.1) = false := by rfl) : PE3 X Z W (.Call (.Name x p) (e :: es) [] pos) (tcb t ta) := by
  obtain ⟨r, h, k⟩ := hc
  exact PE.imp (pe_callB h hg hm hv ha hn hdb he hpl) (cb_k k)
theorem bt_ (hc : CallR3 X Z (.type T) t) (hm : X.mg x = none) (hv : bootBuiltins x = some (.type T)) (ha : PA3 X Z W (e :: es) ta) (hg : Gl X x := by rfl) (hn : x ≠ "__name__" := by decide) (hdb : (x == ("__debug__" : Str)) = false := by decide)
    (he : starEach (e :: es) X.env = (false, eval e X.env) :: starEach es X.env := by rfl) (hpl : (backTo pos (starEach es X.env)).any (·.1) = false := by rfl) : PE3 X Z W (.Call (.Name x p) (e :: es) [] pos) (tcb t ta) := by
  obtain ⟨r, h, k⟩ := hc
  exact PE.imp (pe_callTy h hg hm hv ha hn hdb he hpl) (cb_k k)
end
/-! #### len, abs, int, max, min, sum, list, tuple, str -/
def bLen : QL := fun ds G Q => match ds with
  | [.str z] => z.length ≤ sizeLine ∧ Q (.int z.length) G
  | [x] => ∃ xs, sq G x = some xs ∧ Q (.int xs.length) G
  | _ => False
def bAbs : QL := fun ds G Q => match ds with
  | [.int i] => Q (.int (if i < 0 then -i else i)) G
  | _ => False
def bInt : QL := fun ds G Q => match ds with
  | [.int i] => Q (.int i) G
  | [.bl b] => Q (.int (if b then 1 else 0)) G
  | _ => False
def bMax2 : QL := fun ds G Q => match ds with
  | [.int i, .int j] => Q (.int (if j > i then j else i)) G
  | _ => False
def bMin2 : QL := fun ds G Q => match ds with
  | [.int i, .int j] => Q (.int (if j < i then j else i)) G
  | _ => False
/-- the ints of a list -/
def intsD : List D → Option (List Int)
  | [] => some []
  | .int i :: r => (intsD r).map (i :: ·)
  | _ => none
def bSum : QL := fun ds G Q => match ds with
  | [x] => ∃ xs ns, lq G x = some xs ∧ intsD xs = some ns ∧ Q (.int ns.sum) G
  | _ => False
def bMax1 : QL := fun ds G Q => match ds with
  | [x] => ∃ xs ns, lq G x = some xs ∧ intsD xs = some ns ∧ 0 < ns.length ∧ ∀ m', m' ∈ ns → (∀ y, y ∈ ns → y ≤ m') → Q (.int m') G
  | _ => False
def bMin1 : QL := fun ds G Q => match ds with
  | [x] => ∃ xs ns, lq G x = some xs ∧ intsD xs = some ns ∧ 0 < ns.length ∧ ∀ m', m' ∈ ns → (∀ y, y ∈ ns → m' ≤ y) → Q (.int m') G
  | _ => False
def bList (m : Bool) : QL := fun ds G Q => match ds with
  | [x] => ∃ xs, sq G x = some xs ∧ outL m xs G Q
  | _ => False
def bTup : QL := fun ds G Q => match ds with
  | [x] => ∃ xs, sq G x = some xs ∧ Q (.tup xs) G
  | _ => False
def bStr : QL := fun ds G Q => match ds with
  | [.int i] => i.natAbs.log2 < 1920 ∧ Q (.str (toString i)) G
  | _ => False
section
variable {K : K3} {G : Gp} {H : Hp} {X : Cx} {Z : Zx}
theorem ints_ok : ∀ {xs : List D} {vs : List V} {ns : List Int}, DvL K G H xs vs → intsD xs = some ns → vs = ns.map V.int
  | [], _, _, .nil, h => by cases h; rfl
  | .int i :: r, _, ns, .cons (.int _) t, h => by
    simp only [intsD, Option.map_eq_some_iff] at h
    obtain ⟨m, h1, h2⟩ := h
    subst h2
    rw [ints_ok t h1]; rfl
  | .non :: _, _, _, _, h => by simp [intsD] at h
  | .bl _ :: _, _, _, _, h => by simp [intsD] at h
  | .str _ :: _, _, _, _, h => by simp [intsD] at h
  | .tup _ :: _, _, _, _, h => by simp [intsD] at h
  | .fl _ :: _, _, _, _, h => by simp [intsD] at h
  | .sl _ :: _, _, _, _, h => by simp [intsD] at h
  | .ob _ _ _ :: _, _, _, _, h => by simp [intsD] at h
  | .emp :: _, _, _, _, h => by simp [intsD] at h
  | .ref _ :: _, _, _, _, h => by simp [intsD] at h
  | .ex _ :: _, _, _, _, h => by simp [intsD] at h
  | .exf _ _ _ :: _, _, _, _, h => by simp [intsD] at h
theorem b_len : CallR3 X Z (.builtin "len") bLen := by
  refine ⟨_, call_len_str.or call_len_seq, fun G H xs vs Q3 Q g r h q => ?_⟩
  unfold bLen at h
  split at h
  · cases r with
    | cons r1 r2 =>
    cases r1; cases r2
    exact .inl ⟨_, rfl, h.1, q_of q g h.2 (.int _)⟩
  · cases r with
    | cons r1 r2 =>
    cases r2
    obtain ⟨xs, e, h⟩ := h
    obtain ⟨p, vs, ep, s, r⟩ := sq_ok g r1 e
    exact .inr ⟨p, vs, by rw [ep], s, by rw [← r.length]; exact q_of q g h (.int _)⟩
  · exact h.elim
theorem b_abs : CallR3 X Z (.builtin "abs") bAbs := by
  refine ⟨_, call_abs, fun G H xs vs Q3 Q g r h q => ?_⟩
  unfold bAbs at h
  split at h
  · cases r with
    | cons r1 r2 =>
    cases r1; cases r2
    exact ⟨_, rfl, q_of q g h (.int _)⟩
  · exact h.elim
theorem b_int : CallR3 X Z (.type "int") bInt := by
  refine ⟨_, call_int1, fun G H xs vs Q3 Q g r h q => ?_⟩
  unfold bInt at h
  split at h
  · cases r with
    | cons r1 r2 =>
    cases r1; cases r2
    exact .inl ⟨_, rfl, q_of q g h (.int _)⟩
  · cases r with
    | cons r1 r2 =>
    cases r1; cases r2
    exact .inr ⟨_, rfl, q_of q g h (.int _)⟩
  · exact h.elim
theorem b_max2 (hc : X.calm = true) : CallR3 X Z (.builtin "max") bMax2 := by
  refine ⟨_, call_max2 hc, fun G H xs vs Q3 Q g r h q => ?_⟩
  unfold bMax2 at h
  split at h
  · cases r with
    | cons r1 r2 =>
    cases r1
    cases r2 with
    | cons r2 r3 =>
    cases r2; cases r3
    exact ⟨_, _, rfl, q_of q g h (.int _)⟩
  · exact h.elim
theorem b_min2 (hc : X.calm = true) : CallR3 X Z (.builtin "min") bMin2 := by
  refine ⟨_, call_min2 hc, fun G H xs vs Q3 Q g r h q => ?_⟩
  unfold bMin2 at h
  split at h
  · cases r with
    | cons r1 r2 =>
    cases r1
    cases r2 with
    | cons r2 r3 =>
    cases r2; cases r3
    exact ⟨_, _, rfl, q_of q g h (.int _)⟩
  · exact h.elim
theorem b_sum (hc : X.calm = true) : CallR3 X Z (.builtin "sum") bSum := by
  refine ⟨_, cr_sum hc, fun G H xs vs Q3 Q g r h q => ?_⟩
  unfold bSum at h
  split at h
  · cases r with
    | cons r1 r2 =>
    cases r2
    obtain ⟨xs, ns, e, e2, h⟩ := h
    obtain ⟨p, vs, ep, s, r⟩ := lq_ok g r1 e
    exact ⟨p, ns, by rw [ep], by rw [← ints_ok r e2]; exact s, q_of q g h (.int _)⟩
  · exact h.elim
theorem b_max1 (hc : X.calm = true) : CallR3 X Z (.builtin "max") bMax1 := by
  refine ⟨_, cr_max hc, fun G H xs vs Q3 Q g r h q => ?_⟩
  unfold bMax1 at h
  split at h
  · cases r with
    | cons r1 r2 =>
    cases r2
    obtain ⟨xs, ns, e, e2, l, h⟩ := h
    obtain ⟨p, vs, ep, s, r⟩ := lq_ok g r1 e
    exact ⟨p, ns, by rw [ep], by rw [← ints_ok r e2]; exact s, l, fun m' h1 h2 => q_of q g (h m' h1 h2) (.int _)⟩
  · exact h.elim
theorem b_min1 (hc : X.calm = true) : CallR3 X Z (.builtin "min") bMin1 := by
  refine ⟨_, cr_min hc, fun G H xs vs Q3 Q g r h q => ?_⟩
  unfold bMin1 at h
  split at h
  · cases r with
    | cons r1 r2 =>
    cases r2
    obtain ⟨xs, ns, e, e2, l, h⟩ := h
    obtain ⟨p, vs, ep, s, r⟩ := lq_ok g r1 e
    exact ⟨p, ns, by rw [ep], by rw [← ints_ok r e2]; exact s, l, fun m' h1 h2 => q_of q g (h m' h1 h2) (.int _)⟩
  · exact h.elim
theorem b_list (m : Bool) : CallR3 X Z (.type "list") (bList m) := by
  refine ⟨_, call_list_of, fun G H xs vs Q3 Q g r h q => ?_⟩
  unfold bList at h
  split at h
  · cases r with
    | cons r1 r2 =>
    cases r2
    obtain ⟨xs, e, h⟩ := h
    obtain ⟨p, vs, ep, s, r⟩ := sq_ok g r1 e
    exact ⟨p, vs, by rw [ep], s, fun l n => outL_ok m g r q h n⟩
  · exact h.elim
theorem b_tup : CallR3 X Z (.type "tuple") bTup := by
  refine ⟨_, call_tuple_of, fun G H xs vs Q3 Q g r h q => ?_⟩
  unfold bTup at h
  split at h
  · cases r with
    | cons r1 r2 =>
    cases r2
    obtain ⟨xs, e, h⟩ := h
    obtain ⟨p, vs, ep, s, r⟩ := sq_ok g r1 e
    refine ⟨p, vs, by rw [ep], ?_⟩
    rcases s with s | s
    · exact .inl ⟨s, fun l n => outT_ok g r q h n⟩
    · exact .inr ⟨s, q_of q g h (.tup s r)⟩
  · exact h.elim
theorem b_str : CallR3 X Z (.type "str") bStr := by
  refine ⟨_, call_str_int, fun G H xs vs Q3 Q g r h q => ?_⟩
  unfold bStr at h
  split at h
  · cases r with
    | cons r1 r2 =>
    cases r1; cases r2
    exact ⟨_, rfl, h.1, q_of q g h.2 (.str _)⟩
  · exact h.elim
/-- all, any of a list of flags -/
def blsD : List D → Option (List Bool)
  | [] => some []
  | .bl i :: r => (blsD r).map (i :: ·)
  | _ => none
theorem bls_ok : ∀ {xs : List D} {vs : List V} {ns : List Bool}, DvL K G H xs vs → blsD xs = some ns → vs = ns.map V.bl
  | [], _, _, .nil, h => by cases h; rfl
  | .bl i :: r, _, ns, .cons (.bl _) t, h => by
    simp only [blsD, Option.map_eq_some_iff] at h
    obtain ⟨m, h1, h2⟩ := h
    subst h2
    rw [bls_ok t h1]; rfl
  | .non :: _, _, _, _, h => by simp [blsD] at h
  | .int _ :: _, _, _, _, h => by simp [blsD] at h
  | .str _ :: _, _, _, _, h => by simp [blsD] at h
  | .tup _ :: _, _, _, _, h => by simp [blsD] at h
  | .fl _ :: _, _, _, _, h => by simp [blsD] at h
  | .sl _ :: _, _, _, _, h => by simp [blsD] at h
  | .ob _ _ _ :: _, _, _, _, h => by simp [blsD] at h
  | .emp :: _, _, _, _, h => by simp [blsD] at h
  | .ref _ :: _, _, _, _, h => by simp [blsD] at h
  | .ex _ :: _, _, _, _, h => by simp [blsD] at h
  | .exf _ _ _ :: _, _, _, _, h => by simp [blsD] at h
def bAll : QL := fun ds G Q => match ds with
  | [x] => ∃ xs bs, lq G x = some xs ∧ blsD xs = some bs ∧ Q (.bl (bs.all id)) G
  | _ => False
def bAny : QL := fun ds G Q => match ds with
  | [x] => ∃ xs bs, lq G x = some xs ∧ blsD xs = some bs ∧ Q (.bl (bs.any id)) G
  | _ => False
theorem b_all (hc : X.calm = true) : CallR3 X Z (.builtin "all") bAll := by
  refine ⟨_, cr_all hc, fun G H xs vs Q3 Q g r h q => ?_⟩
  unfold bAll at h
  split at h
  · cases r with
    | cons r1 r2 =>
    cases r2
    obtain ⟨xs, ns, e, e2, h⟩ := h
    obtain ⟨p, vs, ep, s, r⟩ := lq_ok g r1 e
    exact ⟨p, ns, by rw [ep], by rw [← bls_ok r e2]; exact s, q_of q g h (.bl _)⟩
  · exact h.elim
theorem b_any (hc : X.calm = true) : CallR3 X Z (.builtin "any") bAny := by
  refine ⟨_, cr_any hc, fun G H xs vs Q3 Q g r h q => ?_⟩
  unfold bAny at h
  split at h
  · cases r with
    | cons r1 r2 =>
    cases r2
    obtain ⟨xs, ns, e, e2, h⟩ := h
    obtain ⟨p, vs, ep, s, r⟩ := lq_ok g r1 e
    exact ⟨p, ns, by rw [ep], by rw [← bls_ok r e2]; exact s, q_of q g h (.bl _)⟩
  · exact h.elim
end
/-! ### statements -/
def snext : TS3 := fun D σ G => D.nx σ G
def sseq (t u : TS3) : TS3 := fun D σ G => t { D with nx := u D } σ G
def sbrk : TS3 := fun D σ G => D.bk σ G
def sct : TS3 := fun D σ G => D.ct σ G
def sdrop (te : TE3) : TS3 := fun D σ G => te σ G (fun _ G1 => D.nx σ G1) (fun x G1 => D.ex x σ G1)
def sset (i : Nat) (te : TE3) : TS3 := fun D σ G => te σ G (fun d G1 => D.nx (σ.set i (some d)) G1) (fun x G1 => D.ex x σ G1)
def sret (te : TE3) : TS3 := fun D σ G => te σ G D.rt (fun x G1 => D.ex x σ G1)
def sretN : TS3 := fun D _ G => D.rt .non G
def sif (tc : TT3) (t u : TS3) : TS3 := fun D σ G => tc σ G (fun b G1 => if b = true then t D σ G1 else u D σ G1) (fun x G1 => D.ex x σ G1)
def iadd3 : Q2 := fun x y G Q => match x, y with
  | .int i, .int j => Q (.int (i + j)) G
  | .str i, .str j => i.length + j.length ≤ sizeLine ∧ Q (.str (i ++ j)) G
  | _, _ => False
def saug (i : Nat) (te : TE3) (t : Q2) : TS3 := fun D σ G => ∃ x, gt σ i = some x ∧ te σ G (fun y G1 => t x y G1 fun z G2 => D.nx (σ.set i (some z)) G2) (fun x G1 => D.ex x σ G1)
section
variable {X : Cx} {Z : Zx} {W : WX} {st : Stmt} {rest : List Stmt} {t u : TS3} {e c : Expr} {te : TE3} {tc : TT3} {pos : Pos}
theorem Dk.exk {K : K3} {G : Gp} {H : Hp} {D3 : Ends3} {D : Ends} {σ3 : St3} {σ : St} (d : Dk K G H W D3 D) (g : GH K G H) (rs : Rs K G H σ3 σ) : Xk K G H (fun x G1 => D3.ex x σ3 G1) (fun c dd H' => W c dd σ H') := fun x G' c dd H' h1 g1 xv k => d.ex x σ3 G' c dd σ H' h1 g1 (rs.keep g k) xv k
theorem snil_ : PSs3 X Z W [] snext := PSs.imp pss_nil fun D σ H h => by
  obtain ⟨σ3, G, D3, g, rs, h, d⟩ := h
  exact d.nx _ _ _ _ h g rs Keep.refl
theorem scons_ (h1 : PS3 X Z W st t) (h2 : PSs3 X Z W rest u) : PSs3 X Z W (st :: rest) (sseq t u) := PSs.imp (pss_cons h1 h2) fun D σ H h => by
  obtain ⟨σ3, G, D3, g, rs, h, d⟩ := h
  exact ⟨σ3, G, _, g, rs, h, ⟨fun σ4 G1 τ H1 h1 g1 r1 k1 => ⟨σ4, G1, D3, g1, r1, h1, d.keep k1⟩, d.rt, d.bk, d.ct, d.ex⟩⟩
theorem sone_ (h1 : PS3 X Z W st t) : PSs3 X Z W [st] t := pss_one h1
theorem pass_ : PS3 X Z W (.Pass pos) snext := PS.imp ps_pass fun D σ H h => by
  obtain ⟨σ3, G, D3, g, rs, h, d⟩ := h
  exact d.nx _ _ _ _ h g rs Keep.refl
theorem brk_ : PS3 X Z W (.Break pos) sbrk := PS.imp ps_break fun D σ H h => by
  obtain ⟨σ3, G, D3, g, rs, h, d⟩ := h
  exact d.bk _ _ _ _ h g rs Keep.refl
theorem cont_ : PS3 X Z W (.Continue pos) sct := PS.imp ps_continue fun D σ H h => by
  obtain ⟨σ3, G, D3, g, rs, h, d⟩ := h
  exact d.ct _ _ _ _ h g rs Keep.refl
theorem expr_ (he : PE3 X Z W e te) (hs : swapsWith e none pos.line X.env = pure false := by rfl) : PS3 X Z W (.Expr e pos) (sdrop te) := PS.imp (ps_expr he hs) fun D σ H h => by
  obtain ⟨σ3, G, D3, g, rs, h, d⟩ := h
  exact ⟨σ3, G, _, _, g, rs, h, fun x G1 v H1 h1 g1 r1 k1 => d.nx _ _ _ _ h1 g1 (rs.keep g k1) k1, d.exk g rs⟩
theorem set_ (i : Nat) {x : Str} {pos' : Pos} (he : PE3 X Z W e te) (hN : X.N.Nodup) (hi : X.N[i]? = some x := by rfl) (hx : Loc X.env.scope x := by first | exact Or.inl rfl | exact Or.inr rfl) (hs : swapsWith e (some (.Name x pos')) pos.line X.env = pure false := by rfl)
    (hf : X.fn x = true ∨ X.env.scope.names.lookup x = some .local := by first | exact .inl rfl | exact .inr rfl | assumption) : PS3 X Z W (.Assign [.Name x pos'] e pos) (sset i te) := PS.imp (ps_set (i := i) hN hi hx he hs hf) fun D σ H h => by
  obtain ⟨σ3, G, D3, g, rs, h, d⟩ := h
  exact ⟨σ3, G, _, _, g, rs, h, fun x G1 v H1 h1 g1 r1 k1 => d.nx _ _ _ _ h1 g1 ((rs.keep g k1).set r1 i) k1, d.exk g rs⟩
theorem ret_ (he : PE3 X Z W e te) : PS3 X Z W (.Return (some e) pos) (sret te) := PS.imp (ps_ret he) fun D σ H h => by
  obtain ⟨σ3, G, D3, g, rs, h, d⟩ := h
  exact ⟨σ3, G, _, _, g, rs, h, d.rt, d.exk g rs⟩
theorem retN_ : PS3 X Z W (.Return none pos) sretN := PS.imp ps_retN fun D σ H h => by
  obtain ⟨σ3, G, D3, g, rs, h, d⟩ := h
  exact d.rt _ _ _ _ h g .non Keep.refl
theorem sif_ {a b : List Stmt} (hc : PT3 X Z W c tc) (ha : PSs3 X Z W a t) (hb : PSs3 X Z W b u) : PS3 X Z W (.If c a b pos) (sif tc t u) := PS.imp (ps_if hc ha hb) fun D σ H h => by
  obtain ⟨σ3, G, D3, g, rs, h, d⟩ := h
  refine ⟨σ3, G, _, _, g, rs, h, fun b G1 H1 h1 g1 k1 => ?_, d.exk g rs⟩
  cases b with
  | true => exact ⟨σ3, G1, D3, g1, rs.keep g k1, h1, d.keep k1⟩
  | false => exact ⟨σ3, G1, D3, g1, rs.keep g k1, h1, d.keep k1⟩
/-- name op= e -/
def IpR3 (X : Cx) (Z : Zx) (op : Operator) (t : Q2) : Prop := ∃ r : TIp, PIp X op r ∧ ∀ G H x y v u Q3 Q, GH (Cxk X Z) G H → Dv (Cxk X Z) G H x v → Dv (Cxk X Z) G H y u → t x y G Q3 → Qk (Cxk X Z) G H Q3 Q → r v u H Q
theorem i_of {op : Operator} {t : Q2} (h : OpR3 X Z (inplaceOp op) t) : IpR3 X Z op t := by
  obtain ⟨r, h, k⟩ := h
  exact ⟨r, fun pins s σ H x y v u Q I rx ry q => h pins s σ H x y v u Q I rx ry q, k⟩
theorem aug_ (i : Nat) {x : Str} {op : Operator} {q : Q2} {pos' : Pos} (ho : IpR3 X Z op q) (he : PE3 X Z W e te) (hN : X.N.Nodup) (hi : X.N[i]? = some x := by rfl) (hx : Loc X.env.scope x := by first | exact Or.inl rfl | exact Or.inr rfl)
    (hf : X.fn x = true ∨ X.env.scope.names.lookup x = some .local := by first | exact .inl rfl | exact .inr rfl | assumption) : PS3 X Z W (.AugAssign (.Name x pos') op e pos) (saug i te q) := by
  obtain ⟨r, ho, k⟩ := ho
  refine PS.imp (ps_aug (i := i) hN hi hx he ho hf) fun D σ H h => ?_
  obtain ⟨σ3, G, D3, g, rs, h, d⟩ := h
  obtain ⟨x, e, h⟩ := h
  obtain ⟨v, e1, rv⟩ := rs.2 i x (gt_eq _ _ e)
  refine ⟨v, e1, σ3, G, _, _, g, rs, h, fun y G1 u H1 h1 g1 r1 k1 => ?_, d.exk g rs⟩
  exact k G1 H1 x y v u _ _ g1 (rv.keep g k1) r1 h1 fun z G2 w H2 h2 g2 r2 k2 => d.nx _ _ _ _ h2 g2 (((rs.keep g k1).keep g1 k2).set r2 i) (k1.trans k2)
theorem iadd_ : OpR3 X Z (inplaceOp .Add) iadd3 := by
  refine ⟨_, iop_add.or iop_add_str, fun G H x y v u Q3 Q g rx ry h q => ?_⟩
  unfold iadd3 at h
  split at h
  · cases rx; cases ry
    exact .inl ⟨_, _, rfl, rfl, q_of q g h (.int _)⟩
  · cases rx; cases ry
    exact .inr ⟨_, _, rfl, rfl, h.1, q_of q g h.2 (.str _)⟩
  · exact h.elim
theorem isub_ : OpR3 X Z (inplaceOp .Sub) sub3 := by
  refine ⟨_, iop_sub, fun G H x y v u Q3 Q g rx ry h q => ?_⟩
  unfold sub3 at h
  split at h
  · cases rx; cases ry
    exact ⟨_, _, rfl, rfl, q_of q g h (.int _)⟩
  · exact h.elim
theorem ifdiv_ : OpR3 X Z (inplaceOp .FloorDiv) fdiv3 := by
  refine ⟨_, iop_fdiv, fun G H x y v u Q3 Q g rx ry h q => ?_⟩
  unfold fdiv3 at h
  split at h
  · cases rx; cases ry
    exact ⟨_, _, rfl, rfl, ⟨h.1, h.2.1⟩, q_of q g h.2.2 (.int _)⟩
  · exact h.elim
end
/-! ### while -/
def whN (tc : TT3) (tb : TS3) (D : Ends3) : Nat → St3 → Gp → Prop
  | 0, _, _ => False
  | n + 1, σ, G => tc σ G (fun b G1 => if b = true then tb { D with nx := whN tc tb D n, ct := whN tc tb D n, bk := D.nx } σ G1 else D.nx σ G1) (fun x G1 => D.ex x σ G1)
def swhile (tc : TT3) (tb : TS3) : TS3 := fun D σ G => ∃ n, whN tc tb D n σ G
section
variable {X : Cx} {Z : Zx} {W : WX} {c : Expr} {body : List Stmt} {tb : TS3} {tc : TT3} {pos : Pos}
theorem while_ (hp : PassesOwn (model X.prog X.w) X.A X.env X.xe) (hc : PT3 X Z W c tc) (hb : PSs3 X Z W body tb) : PS3 X Z W (.While c body [] pos) (swhile tc tb) := PS.imp (ps_while hp hc hb) fun D σ H h => by
  obtain ⟨σ3, G, D3, g, rs, ⟨n, h⟩, d⟩ := h
  refine ⟨fun m σ' H' => ∃ σ4 G', GH (Cxk X Z) G' H' ∧ Rs (Cxk X Z) G' H' σ4 σ' ∧ Keep G H G' H' ∧ whN tc tb D3 m σ4 G', ⟨n, σ3, G, g, rs, Keep.refl, h⟩, ?_⟩
  rintro m σ' H' ⟨σ4, G', g', rs', k', h'⟩
  cases m with
  | zero => exact h'.elim
  | succ m =>
    refine ⟨σ4, G', _, _, g', rs', h', fun b G1 H1 h1 g1 k1 => ?_, (d.keep k').exk g' rs'⟩
    cases b with
    | true =>
      rw [if_pos rfl] at h1 ⊢
      refine ⟨fun σ5 H2 => ∃ σ6 G2, GH (Cxk X Z) G2 H2 ∧ Rs (Cxk X Z) G2 H2 σ6 σ5 ∧ Keep G H G2 H2 ∧ whN tc tb D3 m σ6 G2, fun σ5 H2 ⟨σ6, G2, a1, a2, a3, a4⟩ => ⟨m, Nat.lt_succ_self m, σ6, G2, a1, a2, a3, a4⟩, ?_⟩
      have d1 := d.keep (k'.trans k1)
      exact ⟨σ4, G1, _, g1, rs'.keep g' k1, h1, ⟨fun σ6 G2 σ5 H2 h2 g2 r2 k2 => ⟨σ6, G2, g2, r2, (k'.trans k1).trans k2, h2⟩, d1.rt, d1.nx, fun σ6 G2 σ5 H2 h2 g2 r2 k2 => ⟨σ6, G2, g2, r2, (k'.trans k1).trans k2, h2⟩, d1.ex⟩⟩
    | false =>
      rw [if_neg Bool.false_ne_true] at h1 ⊢
      exact d.nx _ _ _ _ h1 g1 (rs'.keep g' k1) (k'.trans k1)
end
end L3
namespace L3
open PySem PySem.Spec PyProof.Rows L2
open He (ga)
/-! ### targets: a name, a tuple of names -/
inductive Tg where
  | n (i : Nat) | t (is : List Nat)
def gNames : List Nat → TGs
  | [] => gNil
  | i :: is => gCons (gName i) (gNames is)
def Tg.g (K : PySem.W.Frag) : Tg → TG
  | .n i => gName i
  | .t is => gTup K is.length (gNames is)
def setD : List Nat → List D → St3 → St3
  | i :: is, d :: ds, σ => setD is ds (σ.set i (some d))
  | _, _, σ => σ
def setV : List Nat → List V → St → St
  | i :: is, d :: ds, σ => setV is ds (σ.set i (some d))
  | _, _, σ => σ
/-- the slots behind the binding -/
def Tg.b : Tg → D → St3 → (St3 → Prop) → Prop
  | .n i, d, σ, Q => Q (σ.set i (some d))
  | .t is, d, σ, Q => ∃ ds, d = .tup ds ∧ ds.length = is.length ∧ Q (setD is ds σ)
def Tg.is : Tg → List Nat
  | .n i => [i]
  | .t is => is
section
variable {K : K3} {G : Gp} {H : Hp}
theorem gNames_ok : ∀ {is : List Nat} {vs : List V} {σ : St} {H : Hp} {Q : St → Hp → Prop}, vs.length = is.length → Q (setV is vs σ) H → gNames is vs σ H Q
  | [], [], _, _, _, _, h => ⟨rfl, h⟩
  | [], _ :: _, _, _, _, l, _ => by cases l
  | _ :: _, [], _, _, _, l, _ => by cases l
  | i :: is, v :: vs, σ, H, Q, l, h => ⟨v, vs, rfl, gNames_ok (by simpa using l) h⟩
theorem setD_rs : ∀ {is : List Nat} {ds : List D} {vs : List V} {σ3 : St3} {σ : St}, DvL K G H ds vs → Rs K G H σ3 σ → Rs K G H (setD is ds σ3) (setV is vs σ)
  | [], _, _, _, _, _, r => by simpa [setD, setV] using r
  | i :: is, [], [], _, _, .nil, r => by simpa [setD, setV] using r
  | i :: is, d :: ds, v :: vs, σ3, σ, .cons q t, r => setD_rs (is := is) t (r.set q i)
/-- slots apart from some are as they were -/
def SameBut (is : List Nat) (σ σ' : St) : Prop := σ'.length = σ.length ∧ ∀ (j : Nat), j ∉ is → σ'[j]? = σ[j]?
theorem setV_same : ∀ (is : List Nat) (vs : List V) (σ : St), SameBut is σ (setV is vs σ)
  | [], _, σ => by simp [setV, SameBut]
  | i :: is, [], σ => by simp [setV, SameBut]
  | i :: is, v :: vs, σ => by
    obtain ⟨h1, h2⟩ := setV_same is vs (σ.set i (some v))
    refine ⟨by rw [setV, h1]; simp, fun j hj => ?_⟩
    simp only [List.mem_cons, not_or] at hj
    rw [setV, h2 j hj.2, List.getElem?_set_ne (Ne.symm hj.1)]
theorem Tg.run {t : Tg} {d : D} {v : V} {σ3 : St3} {σ : St} {Q3 : St3 → Prop} {Q : St → Hp → Prop} (rs : Rs K G H σ3 σ) (r : Dv K G H d v) (h : t.b d σ3 Q3) (k : ∀ σ4 σ', Q3 σ4 → Rs K G H σ4 σ' → SameBut t.is σ σ' → Q σ' H) : t.g K.f v σ H Q := by
  cases t with
  | n i =>
    refine k _ _ h (rs.set r i) ⟨by simp, fun j hj => ?_⟩
    have : j ≠ i := by simpa [Tg.is] using hj
    rw [List.getElem?_set_ne (Ne.symm this)]
  | t is =>
    obtain ⟨ds, e, l, h⟩ := h
    subst e
    cases r with
    | tup s r =>
    rename_i a vs
    have lv : vs.length = is.length := by rw [← r.length]; exact l
    exact ⟨a, vs, rfl, s, lv, gNames_ok lv (k _ _ h (setD_rs r rs) (setV_same is vs σ))⟩
end
/-! ### what is walked -/
abbrev TI3 := St3 → Gp → (List D → (Gp → Prop) → Gp → Prop) → EK → Prop
structure ItR (K : K3) (G0 : Gp) (H0 : Hp) (J : It) (xs : List D) (gd : Gp → Prop) : Prop where
  stop : ∀ G H, Keep G0 H0 G H → GH K G H → gd G → J.stop xs.length H
  go : ∀ (i : Nat) G H, i < xs.length → Keep G0 H0 G H → GH K G H → gd G → J.go i H
  yld : ∀ (i : Nat) d v G H H', xs[i]? = some d → Keep G0 H0 G H → GH K G H → gd G → J.yld i H v H' → GH K G H' ∧ Keep G H G H' ∧ Dv K G H' d v
def liftI (K : K3) (W : WX) (t : TI3) : TI := fun σ H R => ∃ σ3 G R3 E3, GH K G H ∧ Rs K G H σ3 σ ∧ t σ3 G R3 E3 ∧ (∀ xs gd G' J H', R3 xs gd G' → GH K G' H' → Keep G H G' H' → ItR K G' H' J xs gd → R J H') ∧ Xk K G H E3 (fun c d H' => W c d σ H')
def PI3 (X : Cx) (Z : Zx) (W : WX) (tg iter : Expr) (t : TI3) : Prop := PI X tg iter (liftI (Cxk X Z) W t)
theorem PI.imp {X : Cx} {tg e : Expr} {t u : TI} (h : PI X tg e t) (k : ∀ σ H Q, u σ H Q → t σ H Q) : PI X tg e u := ⟨fun pins s σ H Q I q => h.run pins s σ H Q I (k _ _ _ q)⟩
section
variable {X : Cx} {Z : Zx} {tg : Expr}
/-- a list or tuple -/
def iSeqV (K : PySem.W.Frag) (tl : TE) : TI := fun σ H R => tl σ H fun x H1 => ∃ a, x = .ref a ∧ (((∃ xs, SqL K H1 a xs) ∧ R (Itl K a) H1) ∨ ((∃ xs, SqT K H1 a xs) ∧ R (Itt K a) H1))
theorem pi_seqV {l : Expr} {tl : TE} (hl : PE X l tl) : PI X tg l (iSeqV X.K tl) := by
  refine ⟨fun pins s σ H R I h => ?_⟩
  refine thn (hl.run pins s σ H _ I h) fun v s1 ⟨x, H1, I1, r1, q1⟩ => ?_
  obtain ⟨a, e, q⟩ := q1
  subst e
  cases r1
  have nf : ∀ b ∈ [s1.heap.objs.size], FpOk X pins H1 b := fun b hb => by
    have e : b = s1.heap.objs.size := by simpa using hb
    subst e
    exact I1.fpOk (Nat.le_refl _) (I1.hok.fresh (Nat.le_refl _))
  rcases q with ⟨⟨xs, hq⟩, q⟩ | ⟨⟨xs, hq⟩, q⟩
  · obtain ⟨its, rv, p, hz⟩ := I1.list hq
    refine wpAny_pyIter_list p.isList ?_
    exact ⟨s1.heap.objs.size, [s1.heap.objs.size], _, _, H1, rfl, I1.kept (t' := s1.toks) fun b o e => Heap.get?_push_of_some _ e, turn_list a _, ⟨_, Heap.get?_push_size _ rfl, rfl, rfl⟩, nf, q⟩
  · obtain ⟨its, rv, p, hz⟩ := I1.tuple hq
    refine wpAny_pyIter_tuple (show s1.heap.IsTuple a its.toArray from p) ?_
    exact ⟨s1.heap.objs.size, [s1.heap.objs.size], _, _, H1, rfl, I1.kept (t' := s1.toks) fun b o e => Heap.get?_push_of_some _ e, turn_tuple a _, ⟨_, Heap.get?_push_size _ rfl, rfl, rfl⟩, nf, q⟩
end
/-- what must hold at each turn so that the items stay -/
def gdOf (d : D) (xs : List D) : Gp → Prop := match d with
  | .ref p => fun G => G p = some (.lst xs)
  | _ => fun _ => True
def iseq (te : TE3) : TI3 := fun σ G R E => te σ G (fun d G1 => ∃ xs, sq G1 d = some xs ∧ R xs (gdOf d xs) G1) E
def irng1 (ta : TA3) : TI3 := fun σ G R E => ta σ G (fun ds G1 => ∃ j : Int, ds = [.int j] ∧ -(2 ^ 62) ≤ j ∧ j < 2 ^ 62 ∧ R ((List.range j.toNat).map fun (i : Nat) => D.int i) (fun _ => True) G1) E
def irng2 (ta : TA3) : TI3 := fun σ G R E => ta σ G (fun ds G1 => ∃ i j : Int, ds = [.int i, .int j] ∧ (-(2 ^ 62) ≤ i ∧ i < 2 ^ 62 ∧ -(2 ^ 62) ≤ j ∧ j < 2 ^ 62) ∧ R ((List.range (j - i).toNat).map fun (k : Nat) => D.int (i + k)) (fun _ => True) G1) E
section
variable {K : K3} {G : Gp} {H : Hp}
theorem itr_list {d : D} {a : Addr} {xs : List D} (g : GH K G H) (r : Dv K G H d (.ref a)) (e : lq G d = some xs) : ItR K G H (Itl K.f a) xs (gdOf d xs) := by
  have key : ∀ G1 H1, Keep G H G1 H1 → GH K G1 H1 → gdOf d xs G1 → ∃ ws, SqL K.f H1 a ws ∧ DvL K G1 H1 xs ws := fun G1 H1 k g1 gd => by
    have r1 := r.keep g k
    have e1 : lq G1 d = some xs := by
      cases d with
      | ref p => unfold lq; simp only; rw [show G1 p = some (.lst xs) from gd]
      | _ => exact e
    obtain ⟨b, ws, eb, s, rl⟩ := lq_ok g1 r1 e1
    cases eb
    exact ⟨ws, s, rl⟩
  refine ⟨fun G1 H1 k g1 gd => ?_, fun i G1 H1 hi k g1 gd => ?_, fun i x v G1 H1 H2 hi k g1 gd y => ?_⟩
  · obtain ⟨ws, s, rl⟩ := key G1 H1 k g1 gd
    exact ⟨ws, s, by rw [rl.length]; exact Nat.le_refl _⟩
  · obtain ⟨ws, s, rl⟩ := key G1 H1 k g1 gd
    have : i < ws.length := by rw [← rl.length]; exact hi
    exact ⟨ws, ws[i], s, by simp [this]⟩
  · obtain ⟨ws, s, rl⟩ := key G1 H1 k g1 gd
    obtain ⟨eH, y⟩ := y
    subst eH
    obtain ⟨w, h1, h2⟩ := rl.get hi
    rw [y ws s] at h1
    cases h1
    exact ⟨g1, Keep.refl, h2⟩
theorem itr_tup {a : Addr} {xs : List D} (g : GH K G H) (r : Dv K G H (.tup xs) (.ref a)) : ItR K G H (Itt K.f a) xs (fun _ => True) := by
  have key : ∀ G1 H1, Keep G H G1 H1 → ∃ ws, SqT K.f H1 a ws ∧ DvL K G1 H1 xs ws := fun G1 H1 k => by
    have r1 := r.keep g k
    cases r1 with
    | tup s rl => exact ⟨_, s, rl⟩
  refine ⟨fun G1 H1 k g1 gd => ?_, fun i G1 H1 hi k g1 gd => ?_, fun i x v G1 H1 H2 hi k g1 gd y => ?_⟩
  · obtain ⟨ws, s, rl⟩ := key G1 H1 k
    exact ⟨ws, s, by rw [rl.length]; exact Nat.le_refl _⟩
  · obtain ⟨ws, s, rl⟩ := key G1 H1 k
    have : i < ws.length := by rw [← rl.length]; exact hi
    exact ⟨ws, ws[i], s, by simp [this]⟩
  · obtain ⟨ws, s, rl⟩ := key G1 H1 k
    obtain ⟨eH, y⟩ := y
    subst eH
    obtain ⟨w, h1, h2⟩ := rl.get hi
    rw [y ws s] at h1
    cases h1
    exact ⟨g1, Keep.refl, h2⟩
theorem itr_range {lo : Int} {n : Nat} : ItR K G H (Itr lo n) ((List.range n).map fun (k : Nat) => D.int (lo + k)) (fun _ => True) := by
  refine ⟨fun G1 H1 k g1 gd => ?_, fun i G1 H1 hi k g1 gd => ?_, fun i x v G1 H1 H2 hi k g1 gd y => ?_⟩
  · show n ≤ _
    simp
  · show i < n
    simpa using hi
  · obtain ⟨eH, y⟩ := y
    subst eH
    subst y
    rw [List.getElem?_map] at hi
    cases e : (List.range n)[i]? with
    | none => rw [e] at hi; cases hi
    | some j =>
      rw [e] at hi
      have : j = i := by
        obtain ⟨h1, h2⟩ := List.getElem?_eq_some_iff.mp e
        simpa using h2.symm
      subst this
      cases hi
      exact ⟨g1, Keep.refl, .int _⟩
end
section
variable {X : Cx} {Z : Zx} {W : WX} {e a b : Expr} {es : List Expr} {te : TE3} {ta : TA3} {tg : Expr} {p pos : Pos}
theorem lq_of {G : Gp} {d : D} {xs : List D} (h : sq G d = some xs) (n : ∀ ys, d ≠ .tup ys) : lq G d = some xs := by
  cases d with
  | tup ys => exact absurd rfl (n ys)
  | _ => exact h
theorem iseq_ (h : PE3 X Z W e te) : PI3 X Z W tg e (iseq te) := PI.imp (pi_seqV h) fun σ H R h => by
  obtain ⟨σ3, G, R3, E3, g, rs, h, q, x⟩ := h
  refine ⟨σ3, G, _, E3, g, rs, h, fun d G1 v H1 ⟨xs, e, h1⟩ g1 r1 k1 => ?_, x⟩
  by_cases ht : ∃ ys, d = .tup ys
  · obtain ⟨ys, rfl⟩ := ht
    cases e
    have r0 := r1
    cases r1 with
    | tup s rl => exact ⟨_, rfl, .inr ⟨⟨_, s⟩, q _ _ _ _ _ h1 g1 k1 (itr_tup g1 r0)⟩⟩
  · have e' := lq_of e fun ys z => ht ⟨ys, z⟩
    obtain ⟨a, vs, ea, s, rl⟩ := lq_ok g1 r1 e'
    subst ea
    exact ⟨_, rfl, .inl ⟨⟨_, s⟩, q _ _ _ _ _ h1 g1 k1 (itr_list g1 r1 e')⟩⟩
theorem irng1_ (hm : X.mg "range" = none) (ha : PA3 X Z W [a] ta) (hg : Gl X "range" := by rfl) (hs : starEach [a] X.env = [(false, eval a X.env)] := by rfl) : PI3 X Z W tg (.Call (.Name "range" p) [a] [] pos) (irng1 ta) :=
  PI.imp (pi_range1 hg hm ha hs) fun σ H R h => by
  obtain ⟨σ3, G, R3, E3, g, rs, h, q, x⟩ := h
  refine ⟨σ3, G, _, E3, g, rs, h, fun d G1 v H1 ⟨j, e, l1, l2, h1⟩ g1 r1 k1 => ?_, x⟩
  subst e
  cases r1 with
  | cons r1 r2 =>
  cases r1; cases r2
  have z := itr_range (K := Cxk X Z) (G := G1) (H := H1) (lo := 0) (n := j.toNat)
  simp only [Int.zero_add] at z
  exact ⟨j, rfl, l1, l2, q _ _ _ _ _ h1 g1 k1 z⟩
theorem irng2_ (hm : X.mg "range" = none) (ha : PA3 X Z W [a, b] ta) (hg : Gl X "range" := by rfl) (hs : starEach [a, b] X.env = [(false, eval a X.env), (false, eval b X.env)] := by rfl) (hs2 : starEach [b] X.env = [(false, eval b X.env)] := by rfl) :
    PI3 X Z W tg (.Call (.Name "range" p) [a, b] [] pos) (irng2 ta) :=
  PI.imp (pi_range2 hg hm ha hs hs2) fun σ H R h => by
  obtain ⟨σ3, G, R3, E3, g, rs, h, q, x⟩ := h
  refine ⟨σ3, G, _, E3, g, rs, h, fun d G1 v H1 ⟨i, j, e, l, h1⟩ g1 r1 k1 => ?_, x⟩
  subst e
  cases r1 with
  | cons r1 r2 =>
  cases r1
  cases r2 with
  | cons r2 r3 =>
  cases r2; cases r3
  exact ⟨i, j, rfl, l, q _ _ _ _ _ h1 g1 k1 itr_range⟩
end
/-! ### for -/
def forL (t : Tg) (tb : TS3) (E : Ends3) (gd : Gp → Prop) : List D → St3 → Gp → Prop
  | [], σ, G => gd G ∧ E.nx σ G
  | x :: xs, σ, G => gd G ∧ t.b x σ fun σ' => tb { E with nx := forL t tb E gd xs, ct := forL t tb E gd xs, bk := E.nx } σ' G
def sfor (ti : TI3) (t : Tg) (tb : TS3) : TS3 := fun E σ G => ti σ G (fun xs gd G1 => forL t tb E gd xs σ G1) (fun x G1 => E.ex x σ G1)
section
variable {X : Cx} {Z : Zx} {W : WX} {tg iter : Expr} {body : List Stmt} {ti : TI3} {t : Tg} {tb : TS3} {pos : Pos}
theorem for_ (t : Tg) (hp : PassesOwn (model X.prog X.w) X.A X.env X.xe) (hc : X.calm = true) (hi : PI3 X Z W tg iter ti) (hg : PG X tg (t.g X.K)) (hb : PSs3 X Z W body tb)
    (hs : ∀ x, foldedSetIterable iter X.env x = pure x := by intro _; rfl) : PS3 X Z W (.For tg iter body [] pos) (sfor ti t tb) := PS.imp (ps_for hp hc hi hg hb hs) fun D σ H h => by
  obtain ⟨σ3, G, D3, g, rs, h, d⟩ := h
  refine ⟨σ3, G, _, _, g, rs, h, fun xs gd G0 J H0 h0 g0 k0 it => ?_, d.exk g rs⟩
  refine ⟨fun i m σ' H' => m = xs.length - i ∧ i ≤ xs.length ∧ ∃ σ4 G', GH (Cxk X Z) G' H' ∧ Rs (Cxk X Z) G' H' σ4 σ' ∧ Keep G0 H0 G' H' ∧ forL t tb D3 gd (xs.drop i) σ4 G', ⟨xs.length, by simp, Nat.zero_le _, σ3, G0, g0, rs.keep g k0, Keep.refl, by simpa using h0⟩, ?_⟩
  rintro i m σ' H' ⟨rfl, hi', σ4, G', g', rs', k', h'⟩
  by_cases hlt : i < xs.length
  · obtain ⟨x, e⟩ : ∃ x, xs[i]? = some x := ⟨xs[i], by simp [hlt]⟩
    have ed : xs.drop i = x :: xs.drop (i + 1) := by
      rw [List.drop_eq_getElem_cons hlt]
      have : xs[i] = x := by rw [List.getElem?_eq_getElem hlt] at e; exact Option.some.inj e
      rw [this]
    rw [ed] at h'
    obtain ⟨hgd, h'⟩ := h'
    refine .inr ⟨it.go i G' H' hlt k' g' hgd, fun σ5 H2 => ∃ σ6 G2, GH (Cxk X Z) G2 H2 ∧ Rs (Cxk X Z) G2 H2 σ6 σ5 ∧ Keep G0 H0 G2 H2 ∧ forL t tb D3 gd (xs.drop (i + 1)) σ6 G2, fun σ5 H2 ⟨σ6, G2, a1, a2, a3, a4⟩ => ⟨_, by omega, rfl, hlt, σ6, G2, a1, a2, a3, a4⟩, fun v H2 hy => ?_⟩
    obtain ⟨g2, k2, r2⟩ := it.yld i x v G' H' H2 e k' g' hgd hy
    refine Tg.run (rs'.keep g' k2) r2 h' fun σ5 σ6 h5 r5 _ => ?_
    have kk : Keep G H G' H2 := (k0.trans k').trans k2
    have d1 := d.keep kk
    exact ⟨σ5, G', _, g2, r5, h5, ⟨fun σ7 G3 σ8 H3 h3 g3 r3 k3 => ⟨σ7, G3, g3, r3, (k'.trans k2).trans k3, h3⟩, d1.rt, d1.nx, fun σ7 G3 σ8 H3 h3 g3 r3 k3 => ⟨σ7, G3, g3, r3, (k'.trans k2).trans k3, h3⟩, d1.ex⟩⟩
  · have e : i = xs.length := by omega
    subst e
    rw [List.drop_length] at h'
    exact .inl ⟨it.stop G' H' k' g' h'.1, d.nx _ _ _ _ h'.2 g' rs' (k0.trans k')⟩
theorem tg1_ (i : Nat) {x : Str} {pos : Pos} (hN : X.N.Nodup) (hi : X.N[i]? = some x := by rfl) (hx : Loc X.env.scope x := by first | exact Or.inl rfl | exact Or.inr rfl) (hf : X.fn x = true ∨ X.env.scope.names.lookup x = some .local := by first | exact .inl rfl | exact .inr rfl | assumption) :
    PG X (.Name x pos) (Tg.g X.K (.n i)) := pg_name hN hi hx hf
theorem tgt_ {es : List Expr} {is : List Nat} {k : Nat} {pos : Pos} (hc : X.calm = true) (h : PGs X es (gNames is)) (hn : (assignEach es X.env).length = is.length := by rfl) (hst : (assignEach es X.env).findIdx? (·.1) = none := by rfl) :
    PG X (.Tuple es k pos) (Tg.g X.K (.t is)) := pg_tup hc h hn hst
end
/-! ### comprehensions -/
def wipeD (σ : St3) : List Nat → St3
  | [] => σ
  | v :: vs => (wipeD σ vs).set v none
/-- the turns of a comprehension; p: the list that grows -/
def lcL (t : Tg) (tt : TT3) (te : TE3) (gd : Gp → Prop) (σ : St3) (p : Addr) (Q : Gp → Prop) : List D → Gp → Prop
  | [], G => gd G ∧ Q G
  | x :: xs, G => gd G ∧ t.b x σ fun σ' => tt σ' G (fun b G1 => if b = true then te σ' G1 (fun d G2 => ∃ acc, G2 p = some (.lst acc) ∧ acc.length < sizeLine ∧ lcL t tt te gd σ p Q xs (up G2 p (.lst (acc ++ [d])))) (fun _ _ => False) else lcL t tt te gd σ p Q xs G1) (fun _ _ => False)
def lcEnd (m : Bool) (p : Addr) (Q : QK) (G : Gp) : Prop := match m with
  | true => (∃ acc, G p = some (.lst acc)) ∧ Q (.ref p) G
  | false => ∃ acc, G p = some (.lst acc) ∧ Q (.fl acc) (dl G p)
/-- [e for t in it if c] -/
def tlc (m : Bool) (ti : TI3) (t : Tg) (tt : TT3) (te : TE3) (vs : List Nat) : TE3 := fun σ G Q E => ti σ G (fun xs gd G1 => ∀ p, G1 p = none → lcL t tt te gd (wipeD σ vs) p (lcEnd m p Q) xs (up G1 p (.lst []))) E
def Tyes : TT3 := fun _ G Q _ => Q true G
section
variable {K : K3} {G : Gp} {H : Hp}
theorem wipeD_rs {σ3 : St3} {σ : St} (r : Rs K G H σ3 σ) : ∀ vs, Rs K G H (wipeD σ3 vs) (wipe σ vs)
  | [] => r
  | v :: vs => (wipeD_rs r vs).clear v
theorem wipe_get {σ : St} : ∀ {vs : List Nat} {j : Nat}, j ∉ vs → (wipe σ vs)[j]? = σ[j]?
  | [], _, _ => rfl
  | v :: vs, j, h => by
    simp only [List.mem_cons, not_or] at h
    unfold wipe
    rw [List.getElem?_set_ne (Ne.symm h.1), wipe_get h.2]
theorem wipe_at {σ : St} : ∀ {vs : List Nat} {j : Nat}, j ∈ vs → j < σ.length → (wipe σ vs)[j]? = some none
  | v :: vs, j, h, hl => by
    unfold wipe
    by_cases e : v = j
    · subst e
      exact List.getElem?_set_self (by rw [wipe_length]; exact hl)
    · rw [List.getElem?_set_ne e]
      rcases List.mem_cons.mp h with h | h
      · exact absurd h.symm e
      · exact wipe_at h hl
theorem wipe_same {σ σ' : St} {is vs : List Nat} (h : SameBut is (wipe σ vs) σ') (sub : ∀ i ∈ is, i ∈ vs) : wipe σ' vs = wipe σ vs := by
  obtain ⟨h1, h2⟩ := h
  rw [wipe_length] at h1
  apply List.ext_getElem?
  intro j
  by_cases hv : j ∈ vs
  · by_cases hl : j < σ.length
    · rw [wipe_at hv hl, wipe_at hv (by rw [h1]; exact hl)]
    · rw [List.getElem?_eq_none (by rw [wipe_length, h1]; omega), List.getElem?_eq_none (by rw [wipe_length]; omega)]
  · rw [wipe_get hv, h2 j (fun z => hv (sub j z))]
variable {X : Cx} {Z : Zx} {W : WX} {elt tg iter : Expr} {ifs : List Expr} {scope : Scope} {own : List (Str × Nat)} {ti : TI3} {t : Tg} {tt : TT3} {te : TE3} {pos : Pos}
/-- no exception leaves a comprehension -/
abbrev W0 : WX := fun _ _ _ _ => False
theorem lc_k (m : Bool) (sub : ∀ i ∈ t.is, i ∈ own.map (·.2)) (σ : St) (H : Hp) (Q : VK) (h : liftE (Cxk X Z) W (tlc m ti t tt te (own.map (·.2))) σ H Q) :
    tLc (liftI (Cxk X Z) W ti) (t.g X.K) (liftT (Cxk X Z) W0 tt) (liftE (Cxk X Z) W0 te) (own.map (·.2)) σ H Q := by
  obtain ⟨σ3, G, Q3, E3, g, rs, h, q, x⟩ := h
  refine ⟨σ3, G, _, E3, g, rs, h, fun xs gd G0 J H0 h0 g0 k0 it => ?_, x⟩
  intro p n
  have kD : Keep G0 H0 (up G0 p (.lst [])) (upd H0 p (.lst [])) := Keep.newG n
  have gD : GH (Cxk X Z) (up G0 p (.lst [])) (upd H0 p (.lst [])) := g0.newG n ⟨[], upd_same, .nil⟩
  have hp : ∀ {a : Addr} {o : HO}, H0 a = some o → a ≠ p := fun h => ne_of_none h n
  refine ⟨fun i mm H' => mm = xs.length - i ∧ i ≤ xs.length ∧ ∃ G', GH (Cxk X Z) G' H' ∧ Keep G0 H0 G' H' ∧ lcL t tt te gd (wipeD σ3 (own.map (·.2))) p (lcEnd m p Q3) (xs.drop i) G', ⟨xs.length, by simp, Nat.zero_le _, _, gD, kD, by simpa using h0 p (g0.free n)⟩, ?_⟩
  rintro i mm H' ⟨rfl, hi', G', g', k', h'⟩
  by_cases hlt : i < xs.length
  · obtain ⟨x, e⟩ : ∃ x, xs[i]? = some x := ⟨xs[i], by simp [hlt]⟩
    have ed : xs.drop i = x :: xs.drop (i + 1) := by
      rw [List.drop_eq_getElem_cons hlt]
      have : xs[i] = x := by rw [List.getElem?_eq_getElem hlt] at e; exact Option.some.inj e
      rw [this]
    rw [ed] at h'
    obtain ⟨hgd, h'⟩ := h'
    refine .inr ⟨it.go i G' H' hlt k' g' hgd, fun H2 => ∃ G2, GH (Cxk X Z) G2 H2 ∧ Keep G0 H0 G2 H2 ∧ lcL t tt te gd (wipeD σ3 (own.map (·.2))) p (lcEnd m p Q3) (xs.drop (i + 1)) G2, fun H2 ⟨G2, a1, a2, a3⟩ => ⟨_, by omega, rfl, hlt, G2, a1, a2, a3⟩, fun v H2 hy => ?_⟩
    obtain ⟨g2, k2, r2⟩ := it.yld i x v G' H' H2 e k' g' hgd hy
    have rs2 : Rs (Cxk X Z) G' H2 (wipeD σ3 (own.map (·.2))) (wipe σ (own.map (·.2))) := wipeD_rs (((rs.keep g k0).keep g0 k').keep g' k2) _
    refine Tg.run rs2 r2 h' fun σ5 σ6 h5 r5 sb => ⟨wipe_same sb sub, ?_⟩
    refine ⟨σ5, G', _, _, g2, r5, h5, fun b G3 H3 h3 g3 k3 => ?_, fun _ _ _ _ _ z => z.elim⟩
    cases b with
    | true =>
      rw [if_pos rfl] at h3 ⊢
      refine ⟨σ5, G3, _, _, g3, r5.keep g2 k3, h3, fun d G4 w H4 h4 g4 r4 k4 => ?_, fun _ _ _ _ _ z => z.elim⟩
      obtain ⟨acc, ep, l, h4⟩ := h4
      obtain ⟨avs, e1, rl⟩ := g4 p _ ep
      refine ⟨avs, e1, by rw [← rl.length]; exact l, up G4 p (.lst (acc ++ [d])), ?_, ?_, h4⟩
      · exact g4.set ep ⟨avs ++ [w], upd_same, (rl.append (.cons r4 .nil)).keep g4 (Keep.set ep)⟩
      · exact (((k'.trans k2).trans k3).trans k4).trans (Keep.set ep)
    | false =>
      rw [if_neg Bool.false_ne_true] at h3 ⊢
      exact ⟨G3, g3, (k'.trans k2).trans k3, h3⟩
  · have e : i = xs.length := by omega
    subst e
    rw [List.drop_length] at h'
    refine .inl ⟨it.stop G' H' k' g' h'.1, ?_⟩
    have h2 := h'.2
    have kk := k0.trans k'
    cases m with
    | true => exact q _ _ _ _ h2.2 g' (.ref p) kk
    | false =>
      obtain ⟨acc, ep, h2⟩ := h2
      obtain ⟨avs, e1, rl⟩ := g' p _ ep
      exact q _ _ _ _ h2 (g'.sub Sub.dl) (.fl e1 dl_same (rl.keep g' (Keep.sub Sub.dl))) (kk.trans (Keep.sub Sub.dl))
theorem lc_ (m : Bool) (t : Tg) (hc : X.calm = true) (hN : X.N.Nodup) (hi : PI3 X Z W tg iter ti) (ok : BlkOk X.N X.env.scope scope own) (sub : ∀ i ∈ t.is, i ∈ own.map (·.2))
    (hg : ∀ (s : Shared) (H : Hp) (C : Addr) (cl : List (Str × Addr)) (fp : List Addr), PG (X.blk s H scope (compEnvC scope cl C X.env) fp) tg (t.g X.K)) (ht : ∀ (s : Shared) (H : Hp) (C : Addr) (cl : List (Str × Addr)) (fp : List Addr), PTs (X.blk s H scope (compEnvC scope cl C X.env) fp) ifs (liftT (Cxk X Z) W0 tt))
    (he : ∀ (s : Shared) (H : Hp) (C : Addr) (cl : List (Str × Addr)) (fp : List Addr), PE3 (X.blk s H scope (compEnvC scope cl C X.env) fp) Z W0 elt te) (hs : ∀ x, foldedSetIterable iter X.env x = pure x := by intro _; rfl) :
    PE3 X Z W (.ListComp elt [⟨tg, iter, ifs, 0⟩] scope pos) (tlc m ti t tt te (own.map (·.2))) := PE.imp (pe_lc (te := liftE (Cxk X Z) W0 te) hc hN hi ok hg ht he hs) (lc_k m sub)
/-- name = [..] -/
theorem setLc_ (i : Nat) (m : Bool) (t : Tg) {y : Str} {py spos : Pos} (hc : X.calm = true) (hN : X.N.Nodup) (hi : PI3 X Z W tg iter ti) (ok : BlkOk X.N X.env.scope scope own) (sub : ∀ i ∈ t.is, i ∈ own.map (·.2))
    (hg : ∀ (s : Shared) (H : Hp) (C : Addr) (cl : List (Str × Addr)) (fp : List Addr), PG (X.blk s H scope (compEnvC scope cl C X.env) fp) tg (t.g X.K)) (ht : ∀ (s : Shared) (H : Hp) (C : Addr) (cl : List (Str × Addr)) (fp : List Addr), PTs (X.blk s H scope (compEnvC scope cl C X.env) fp) ifs (liftT (Cxk X Z) W0 tt))
    (he : ∀ (s : Shared) (H : Hp) (C : Addr) (cl : List (Str × Addr)) (fp : List Addr), PE3 (X.blk s H scope (compEnvC scope cl C X.env) fp) Z W0 elt te)
    (hsw : swapsWith (.ListComp elt [⟨tg, iter, ifs, 0⟩] scope pos) (some (.Name y py)) spos.line X.env = pure true) (hyl : X.env.scope.names.lookup y = some .local := by rfl) (hy : X.N[i]? = some y := by rfl) (hs : ∀ x, foldedSetIterable iter X.env x = pure x := by intro _; rfl) :
    PS3 X Z W (.Assign [.Name y py] (.ListComp elt [⟨tg, iter, ifs, 0⟩] scope pos) spos) (sset i (tlc m ti t tt te (own.map (·.2)))) := PS.imp (ps_setLc (te := liftE (Cxk X Z) W0 te) (i := i) hc hN hy hyl hsw hi ok hg ht he hs) fun D σ H h => by
  obtain ⟨σ3, G, D3, g, rs, h, d⟩ := h
  exact lc_k (W := W) m sub σ H (fun x H1 => D.nx (σ.set i (some x)) H1) ⟨σ3, G, _, _, g, rs, h, fun x G1 v H1 h1 g1 r1 k1 => d.nx _ _ _ _ h1 g1 ((rs.keep g k1).set r1 i) k1, d.exk g rs⟩
theorem no_if : ∀ {X : Cx} {Z : Zx}, PTs X [] (liftT (Cxk X Z) W0 Tyes) := ⟨fun pins s σ H Q I h => pts_nil.run pins s σ H Q I (by
  obtain ⟨σ3, G, Q3, E3, g, rs, h, q, x⟩ := h
  exact q _ _ _ h g Keep.refl)⟩
theorem if1_ {X : Cx} {Z : Zx} {c : Expr} {tc : TT3} (h : PT3 X Z W0 c tc) : PTs X [c] (liftT (Cxk X Z) W0 tc) := pts_one h
end
/-! #### pure comprehensions -/
/-- where each turn leaves G as it is -/
theorem lcL_pure {t : Tg} {tt : TT3} {te : TE3} {gd : Gp → Prop} {σ : St3} {p : Addr} {Q : Gp → Prop} {G : Gp} (f : D → Option D) (np : G p = none) : ∀ (xs acc : List D),
    (∀ x ∈ xs, ∀ G', Sub G G' → ∀ R : Option D → Gp → Prop, R (f x) G' → t.b x σ fun σ' => tt σ' G' (fun b G1 => if b = true then te σ' G1 (fun d G2 => R (some d) G2) (fun _ _ => False) else R none G1) (fun _ _ => False)) →
    (∀ G', Sub G G' → gd G') → acc.length + xs.length ≤ sizeLine → Q (up G p (.lst (acc ++ xs.filterMap f))) → lcL t tt te gd σ p Q xs (up G p (.lst acc))
  | [], acc, _, hg, _, h => ⟨hg _ (Sub.up np), by simpa using h⟩
  | x :: xs, acc, hs, hg, l, h => by
    have hlen : acc.length < sizeLine := by simp at l; omega
    refine ⟨hg _ (Sub.up np), ?_⟩
    refine hs x (by simp) (up G p (.lst acc)) (Sub.up np) (fun o G2 => match o with
      | some d => ∃ acc, G2 p = some (.lst acc) ∧ acc.length < sizeLine ∧ lcL t tt te gd σ p Q xs (up G2 p (.lst (acc ++ [d])))
      | none => lcL t tt te gd σ p Q xs G2) ?_
    have ih := lcL_pure (t := t) (tt := tt) (te := te) (gd := gd) (σ := σ) (p := p) (Q := Q) f np xs
    cases e : f x with
    | none =>
      rw [List.filterMap_cons, e] at h
      exact ih acc (fun y hy => hs y (by simp [hy])) hg (by simp at l; omega) h
    | some d =>
      rw [List.filterMap_cons, e] at h
      refine ⟨acc, up_same, hlen, ?_⟩
      rw [up_up]
      exact ih (acc ++ [d]) (fun y hy => hs y (by simp [hy])) hg (by simp at l ⊢; omega) (by simpa using h)
theorem lc_pure {m : Bool} {t : Tg} {tt : TT3} {te : TE3} {gd : Gp → Prop} {σ : St3} {Q : QK} {G : Gp} {xs : List D} (f : D → Option D)
    (hs : ∀ x ∈ xs, ∀ G', Sub G G' → ∀ R : Option D → Gp → Prop, R (f x) G' → t.b x σ fun σ' => tt σ' G' (fun b G1 => if b = true then te σ' G1 (fun d G2 => R (some d) G2) (fun _ _ => False) else R none G1) (fun _ _ => False))
    (hg : ∀ G', Sub G G' → gd G') (l : xs.length ≤ sizeLine) (h : outL m (xs.filterMap f) G Q) : ∀ p, G p = none → lcL t tt te gd σ p (lcEnd m p Q) xs (up G p (.lst [])) := fun p np => by
  refine lcL_pure f np xs [] hs hg (by simpa using l) ?_
  cases m with
  | true => exact ⟨⟨_, up_same⟩, by simpa using h p np⟩
  | false => exact ⟨_, up_same, by rw [dl_up np]; simpa [outL] using h⟩
end L3
namespace L3
open PySem PySem.Spec PyProof.Rows L2
open He (ga)
/-! ### methods of lists -/
abbrev QM := D → List D → Gp → QK → Prop
def isL (x : D) (G : Gp) : Prop := ∃ xs, lq G x = some xs
def isS (x : D) (G : Gp) : Prop := ∃ z, x = .str z
def MtR3 (X : Cx) (Z : Zx) (id : String) (t : QM) : Prop := ∃ r : V → List V → Hp → VK → Prop, MtR X id r ∧ ∀ G H x v xs vs Q3 Q, GH (Cxk X Z) G H → Dv (Cxk X Z) G H x v → DvL (Cxk X Z) G H xs vs → t x xs G Q3 → Qk (Cxk X Z) G H Q3 Q → r v vs H Q
def tmeth (ty : D → Gp → Prop) (t : QM) (to : TE3) (ta : TA3) : TE3 := fun σ G Q E => to σ G (fun x G1 => ty x G1 ∧ ta σ G1 (fun ds G2 => t x ds G2 Q) E) E
def tmeth0 (ty : D → Gp → Prop) (t : QM) (to : TE3) : TE3 := fun σ G Q E => to σ G (fun x G1 => ty x G1 ∧ t x [] G1 Q) E
def TyOk (K : K3) (T : String) (ty : D → Gp → Prop) : Prop := ∀ G H x v, GH K G H → Dv K G H x v → ty x G → tyV K.f T v H
theorem ty_list {K : K3} : TyOk K "list" isL := fun G H x v g r ⟨xs, e⟩ => by
  obtain ⟨a, vs, ea, s, rl⟩ := lq_ok g r e
  subst ea
  exact .inl ⟨rfl, vs, s⟩
theorem ty_str {K : K3} : TyOk K "str" isS := fun G H x v g r ⟨z, e⟩ => by
  subst e
  cases r
  rfl
section
variable {X : Cx} {Z : Zx} {W : WX} {o e : Expr} {es : List Expr} {to : TE3} {ta : TA3} {name : Str} {apos cpos : Pos} {T id : String} {t : QM} {ty : D → Gp → Prop}
theorem m_ (pa : PlainAttrs T) (slot : Slot T name id) (hty : typeOf (.builtin id) = pure (.type "method_descriptor")) (tk : TyOk (Cxk X Z) T ty) (hm : MtR3 X Z id t) (ho : PE3 X Z W o to) (ha : PA3 X Z W (e :: es) ta)
    (hbase : attributeBase o name X.env (eval o X.env) = eval o X.env := by rfl)
    (hfew : ((backTo cpos (starEach (e :: es) X.env)).all (fun x => !x.1) && (backToKw cpos (keywordEach [] X.env)).all (fun x => x.1.isSome)
      && decide ((e :: es).length + ([] : List Keyword).length + (if ([] : List Keyword).isEmpty then 0 else 1) < 30)) = true := by rfl)
    (hline : (apos.endLine == cpos.line) = true := by rfl) (hs : starEach (e :: es) X.env = (false, eval e X.env) :: starEach es X.env := by rfl) (hplain : (backTo cpos (starEach es X.env)).any (·.1) = false := by rfl) :
    PE3 X Z W (.Call (.Attribute o name apos) (e :: es) [] cpos) (tmeth ty t to ta) := by
  obtain ⟨r, h, k⟩ := hm
  refine PE.imp (pe_bm pa slot hty h ho ha hbase hfew hline hs hplain) fun σ H Q h => ?_
  obtain ⟨σ3, G, Q3, E3, g, rs, h, q, x⟩ := h
  refine ⟨σ3, G, _, E3, g, rs, h, fun d1 G1 v1 H1 ⟨t1, h1⟩ g1 r1 k1 => ⟨tk _ _ _ _ g1 r1 t1, ?_⟩, x⟩
  refine ⟨σ3, G1, _, E3, g1, rs.keep g k1, h1, fun ds G2 vs H2 h2 g2 r2 k2 => ?_, x.keep k1⟩
  exact k G2 H2 d1 v1 ds vs Q3 Q g2 (r1.keep g1 k2) r2 h2 (q.keep (k1.trans k2))
theorem m0_ (pa : PlainAttrs T) (slot : Slot T name id) (hty : typeOf (.builtin id) = pure (.type "method_descriptor")) (tk : TyOk (Cxk X Z) T ty) (hm : MtR3 X Z id t) (ho : PE3 X Z W o to)
    (hbase : attributeBase o name X.env (eval o X.env) = eval o X.env := by rfl) (hline : (apos.endLine == cpos.line) = true := by rfl) : PE3 X Z W (.Call (.Attribute o name apos) [] [] cpos) (tmeth0 ty t to) := by
  obtain ⟨r, h, k⟩ := hm
  refine PE.imp (pe_bm0 pa slot hty h ho hbase hline) fun σ H Q h => ?_
  obtain ⟨σ3, G, Q3, E3, g, rs, h, q, x⟩ := h
  exact ⟨σ3, G, _, E3, g, rs, h, fun d1 G1 v1 H1 ⟨t1, h1⟩ g1 r1 k1 => ⟨tk _ _ _ _ g1 r1 t1, k G1 H1 d1 v1 [] [] Q3 Q g1 r1 .nil h1 (q.keep k1)⟩, x⟩
end
def mAppend : QM := fun x ds G Q => match x, ds with
  | .ref p, [y] => ∃ xs, G p = some (.lst xs) ∧ xs.length < sizeLine ∧ Q .non (up G p (.lst (xs ++ [y])))
  | _, _ => False
def mExtend : QM := fun x ds G Q => match x, ds with
  | .ref p, [y] => ∃ xs ys, G p = some (.lst xs) ∧ mq G y = some ys ∧ xs.length + ys.length ≤ sizeLine ∧ Q .non (up G p (.lst (xs ++ ys)))
  | _, _ => False
def mPop : QM := fun x ds G Q => match x, ds with
  | .ref p, [] => ∃ xs y, G p = some (.lst xs) ∧ xs[xs.length - 1]? = some y ∧ Q y (up G p (.lst xs.dropLast))
  | _, _ => False
def mPopAt : QM := fun x ds G Q => match x, ds with
  | .ref p, [.int i] => ∃ xs k y, G p = some (.lst xs) ∧ -(2 ^ 63) ≤ i ∧ i < 2 ^ 63 ∧ seqIndex? i xs.length = some k ∧ xs[k]? = some y ∧ Q y (up G p (.lst (xs.eraseIdx k)))
  | _, _ => False
def mIndex : QM := fun x ds G Q => match ds with
  | [y] => ∃ xs j z, lq G x = some xs ∧ flD y = true ∧ xs.all flD = true ∧ xs[j]? = some z ∧ eqD z y = true ∧ (∀ (m : Nat) z', m < j → xs[m]? = some z' → eqD z' y = false) ∧ Q (.int (j : Nat)) G
  | _ => False
section
variable {X : Cx} {Z : Zx}
theorem mut_ok {K : K3} {G : Gp} {H : Hp} {p : Addr} {xs ys : List D} {vs ws : List V} {Q3 : QK} {Q : VK} {d : D} {v : V} (g : GH K G H) (e : G p = some (.lst xs)) (r : DvL K G H ys ws) (rv : Dv K G H d v) (q : Qk K G H Q3 Q) (h : Q3 d (up G p (.lst ys))) : Q v (upd H p (.lst ws)) :=
  q _ _ _ _ h (g.set e ⟨ws, upd_same, r.keep g (Keep.set e)⟩) (rv.keep g (Keep.set e)) (Keep.set e)
theorem me_append : MtR3 X Z "list.append" mAppend := by
  refine ⟨_, mt_append, fun G H x v xs vs Q3 Q g rx r h q => ?_⟩
  unfold mAppend at h
  split at h
  · cases rx
    cases r with
    | cons r1 r2 =>
    cases r2
    obtain ⟨xs, e, l, h⟩ := h
    obtain ⟨ws, e1, rl⟩ := g _ _ e
    exact ⟨_, ws, _, rfl, rfl, e1, by rw [← rl.length]; exact l, mut_ok (vs := ws) g e (rl.append (.cons r1 .nil)) .non q h⟩
  · exact h.elim
theorem me_extend : MtR3 X Z "list.extend" mExtend := by
  refine ⟨_, mt_extend, fun G H x v xs vs Q3 Q g rx r h q => ?_⟩
  unfold mExtend at h
  split at h
  · cases rx
    cases r with
    | cons r1 r2 =>
    cases r2
    obtain ⟨xs, ys, e, e2, l, h⟩ := h
    obtain ⟨ws, e1, rl⟩ := g _ _ e
    obtain ⟨b, us, eb, e3, rl2⟩ := mq_ok g r1 e2
    subst eb
    exact ⟨_, b, ws, us, rfl, rfl, e1, e3, by rw [← rl.length, ← rl2.length]; exact l, mut_ok (vs := ws) g e (rl.append rl2) .non q h⟩
  · exact h.elim
theorem me_pop : MtR3 X Z "list.pop" mPop := by
  refine ⟨_, mt_pop, fun G H x v xs vs Q3 Q g rx r h q => ?_⟩
  unfold mPop at h
  split at h
  · cases rx
    cases r
    obtain ⟨xs, y, e, e2, h⟩ := h
    obtain ⟨ws, e1, rl⟩ := g _ _ e
    obtain ⟨w, e3, r3⟩ := rl.get e2
    exact ⟨_, ws, w, rfl, rfl, e1, by rw [← rl.length]; exact e3, mut_ok (vs := ws) g e rl.dropLast r3 q h⟩
  · exact h.elim
theorem me_popAt : MtR3 X Z "list.pop" mPopAt := by
  refine ⟨_, mt_popAt, fun G H x v xs vs Q3 Q g rx r h q => ?_⟩
  unfold mPopAt at h
  split at h
  · cases rx
    cases r with
    | cons r1 r2 =>
    cases r1; cases r2
    obtain ⟨xs, k, y, e, l1, l2, e4, e2, h⟩ := h
    obtain ⟨ws, e1, rl⟩ := g _ _ e
    obtain ⟨w, e3, r3⟩ := rl.get e2
    exact ⟨_, ws, _, k, w, rfl, rfl, e1, l1, l2, by rw [← rl.length]; exact e4, e3, mut_ok (vs := ws) g e (rl.eraseIdx k) r3 q h⟩
  · exact h.elim
theorem me_index : MtR3 X Z "list.index" mIndex := by
  refine ⟨_, mt_index, fun G H x v xs vs Q3 Q g rx r h q => ?_⟩
  unfold mIndex at h
  split at h
  · cases r with
    | cons r1 r2 =>
    cases r2
    obtain ⟨ys, j, z, e, fy, fs, ez, eq, no, h⟩ := h
    obtain ⟨a, ws, ea, s, rl⟩ := lq_ok g rx e
    obtain ⟨w, e3, r3⟩ := rl.get ez
    have fz : flD z = true := List.all_eq_true.mp fs z (List.mem_of_getElem? ez)
    refine ⟨a, ws, _, j, w, ea, rfl, s, fl_ok r1 fy, fls_ok rl fs, e3, by rw [eqV_ok r3 r1 fz fy]; exact eq, fun m u hm hu => ?_, q_of q g h (.int _)⟩
    obtain ⟨z', ez'⟩ : ∃ z', ys[m]? = some z' := by
      have : m < ys.length := by rw [rl.length]; exact (List.getElem?_eq_some_iff.mp hu).1
      exact ⟨ys[m], by simp [this]⟩
    obtain ⟨u', eu', ru'⟩ := rl.get ez'
    rw [hu] at eu'; cases eu'
    rw [eqV_ok ru' r1 (List.all_eq_true.mp fs z' (List.mem_of_getElem? ez')) fy]
    exact no m z' hm ez'
  · exact h.elim
end
/-! ### o[i] = v -/
abbrev QS := D → D → D → Gp → (Gp → Prop) → Prop
def PSet3 (X : Cx) (Z : Zx) (t : QS) : Prop := ∃ r : TSet, PSet X r ∧ ∀ G H o i x ov iv v Q3 (Q : Hp → Prop), GH (Cxk X Z) G H → Dv (Cxk X Z) G H o ov → Dv (Cxk X Z) G H i iv → Dv (Cxk X Z) G H x v → t o i x G Q3 → (∀ G' H', Q3 G' → GH (Cxk X Z) G' H' → Keep G H G' H' → Q H') → r ov iv v H Q
def setL3 : QS := fun o i x G Q => match o, i with
  | .ref p, .int k => ∃ xs j, G p = some (.lst xs) ∧ ixN xs.length k = some j ∧ Q (up G p (.lst (xs.set j x)))
  | _, _ => False
theorem se_list {X : Cx} {Z : Zx} : PSet3 X Z setL3 := by
  refine ⟨_, set_list, fun G H o i x ov iv v Q3 Q g ro ri rx h q => ?_⟩
  unfold setL3 at h
  split at h
  · cases ro; cases ri
    obtain ⟨xs, j, e, l, h⟩ := h
    obtain ⟨ws, e1, rl⟩ := g _ _ e
    exact ⟨_, ws, _, j, rfl, rfl, e1, by rw [← rl.length]; exact l, q _ _ h (g.set e ⟨_, upd_same, (DvL.set rx j rl).keep g (Keep.set e)⟩) (Keep.set e)⟩
  · exact h.elim
def ssub (to ti te : TE3) (t : QS) : TS3 := fun E σ G => te σ G (fun x G1 => to σ G1 (fun o G2 => ti σ G2 (fun i G3 => t o i x G3 fun G4 => E.nx σ G4) (fun x G1 => E.ex x σ G1)) (fun x G1 => E.ex x σ G1)) (fun x G1 => E.ex x σ G1)
section
variable {X : Cx} {Z : Zx} {W : WX} {o i e : Expr} {to ti te : TE3} {t : QS} {tpos pos : Pos}
theorem setIx_ (hs : PSet3 X Z t) (ho : PE3 X Z W o to) (hi : PE3 X Z W i ti) (he : PE3 X Z W e te)
    (ha : ∀ v, assign (.Subscript o i tpos) X.env v = (do
      let ov ← holding [v] (eval o X.env)
      let iv ← holding [v, ov] (eval i X.env)
      standAt tpos
      holding [v, ov, iv] (setItem ov iv v)
      release [v, ov, iv] []) := by intro _; rfl)
    (hsw : swapsWithSole [.Subscript o i tpos] e pos.line X.env = pure false := by rfl) (hw : swappedStores [.Subscript o i tpos] e X.env = pure none := by rfl)
    (h1 : (assignEach [.Subscript o i tpos] X.env).map (·.2) = [assign (.Subscript o i tpos) X.env] := by rfl) : PS3 X Z W (.Assign [.Subscript o i tpos] e pos) (ssub to ti te t) := by
  obtain ⟨r, hs, k⟩ := hs
  refine PS.imp (ps_asg he (pg_sub ho hi hs ha) hsw hw h1) fun D σ H h => ?_
  obtain ⟨σ3, G, D3, g, rs, h, d⟩ := h
  refine ⟨σ3, G, _, _, g, rs, h, fun x G1 v H1 h1 g1 r1 k1 => ?_, d.exk g rs⟩
  refine ⟨σ3, G1, _, _, g1, rs.keep g k1, h1, fun x2 G2 v2 H2 h2 g2 r2 k2 => ?_, (d.keep k1).exk g1 (rs.keep g k1)⟩
  refine ⟨σ3, G2, _, _, g2, (rs.keep g k1).keep g1 k2, h2, fun x3 G3 v3 H3 h3 g3 r3 k3 => ?_, ((d.keep k1).keep k2).exk g2 ((rs.keep g k1).keep g1 k2)⟩
  refine k G3 H3 x2 x3 x v2 v3 v _ _ g3 (r2.keep g2 k3) r3 ((r1.keep g1 k2).keep g2 k3) h3 fun G4 H4 h4 g4 k4 => ?_
  exact d.nx _ _ _ _ h4 g4 ((((rs.keep g k1).keep g1 k2).keep g2 k3).keep g3 k4) (((k1.trans k2).trans k3).trans k4)
end
/-! ### freezing -/
/-- a list that is written no more -/
def fz (d : D) (G : Gp) (Q : QK) : Prop := match d with
  | .ref p => (match G p with
    | some (.lst xs) => Q (.fl xs) (dl G p)
    | some (.ins c fs) => Q (.ob c (fs.map (·.1)) (fs.map (·.2))) (dl G p)
    | _ => Q d G)
  | _ => Q d G
def tfz (te : TE3) : TE3 := fun σ G Q E => te σ G (fun d G1 => fz d G1 Q) E
theorem fz_ok {K : K3} {G : Gp} {H : Hp} {Q3 : QK} {Q : VK} {d : D} {v : V} (g : GH K G H) (r : Dv K G H d v) (h : fz d G Q3) (q : Qk K G H Q3 Q) : Q v H := by
  unfold fz at h
  split at h
  · rename_i p
    split at h
    · rename_i xs e
      obtain ⟨vs, e1, rl⟩ := g p _ e
      cases r
      exact q _ _ _ _ h (g.sub Sub.dl) (.fl e1 dl_same (rl.keep g (Keep.sub Sub.dl))) (Keep.sub Sub.dl)
    · rename_i c fs e
      obtain ⟨dx, vs, e1, rl⟩ := g p _ e
      cases r
      refine q _ _ _ _ h (g.sub Sub.dl) (.ob e1 ?_ dl_same (rl.keep g (Keep.sub Sub.dl))) (Keep.sub Sub.dl)
      have := rl.length
      simpa using this
    · exact q_of q g h r
  · exact q_of q g h r
theorem fz_ {X : Cx} {Z : Zx} {W : WX} {e : Expr} {te : TE3} (h : PE3 X Z W e te) : PE3 X Z W e (tfz te) := PE.imp h fun σ H Q h => by
  obtain ⟨σ3, G, Q3, E3, g, rs, h, q, x⟩ := h
  exact ⟨σ3, G, _, E3, g, rs, h, fun d G1 v H1 h1 g1 r1 k1 => fz_ok g1 r1 h1 (q.keep k1), x⟩
/-! ### a def keeps its promise -/
/-- at a def's end: less of G may be kept -/
def dn (Q : QK) : QK := fun d G => ∃ G', Sub G' G ∧ Q d G'
def fnEnds (Q : QK) (E : EK) : Ends3 := { nx := fun _ G => dn Q .non G, rt := dn Q, ex := fun x _ G => ∃ G', Sub G' G ∧ E x G' }
def start3 (N : List Str) (ds : List D) : St3 := ds.map some ++ List.replicate (N.length - ds.length) none
section
variable {P : Program} {w : World} {K : K3} {mg : Str → Option Value} {base : Heap}
theorem start_rs {G : Gp} {H : Hp} {ds : List D} {vs : List V} (N : List Str) (r : DvL K G H ds vs) : Rs K G H (start3 N ds) (L2.start N vs) := by
  unfold start3 L2.start
  rw [r.length]
  refine ⟨by simp [r.length], fun i d e => ?_⟩
  by_cases hi : i < ds.length
  · rw [List.getElem?_append_left (by simpa using hi), List.getElem?_map] at e
    cases e2 : ds[i]? with
    | none => rw [e2] at e; cases e
    | some x =>
      rw [e2] at e; cases e
      obtain ⟨v, h1, h2⟩ := r.get e2
      refine ⟨v, ?_, h2⟩
      rw [List.getElem?_append_left (by simp; rw [← r.length]; exact hi), List.getElem?_map, h1]; rfl
  · rw [List.getElem?_append_right (by simpa using hi), List.getElem?_replicate] at e
    split at e <;> cases e
theorem Xv.sub {G G' : Gp} {H : Hp} {x : X3} {c : Value} {d : Option Addr} (g : GH K G H) (s : Sub G' G) (h : Xv K G H x c d) : Xv K G' H x c d := by
  obtain ⟨h1, h2⟩ := h
  refine ⟨h1, ?_⟩
  cases e : x.f with
  | none => rw [e] at h2; exact h2
  | some p =>
    obtain ⟨f, y⟩ := p
    rw [e] at h2
    obtain ⟨a, v, e1, e2, r⟩ := h2
    exact ⟨a, v, e1, e2, r.keep g (Keep.sub s)⟩
/-- THE RULE for a def -/
theorem fn3_of {K : PySem.W.Frag} {x qual : Str} {params : Arguments} {body : List Stmt} {scope : Scope} {f : Addr} {fd : FuncData} {N ps : List Str} {k : Nat} {sp : Sp3}
    (F : FunD K x qual params body scope [] [] f fd) (S : FnScope N ps scope) (len : ∀ ds G Q E, sp ds G Q E → ds.length = ps.length)
    (hbody : ∃ t : TS3, (∀ (cdv : Value) (A : Around) (outer : List Env) (s : Shared) (H : Hp) (E : XK), Room k (A.deeper (envOfC qual scope s.heap.objs.size f cdv)) →
        PSs3 (cxOf (L2.CX P w) P w K mg base N qual scope f cdv A outer s H E) Z0 (fun c d _ H' => E c d H') body t) ∧
      ∀ ds G Q E, sp ds G Q E → t (fnEnds Q E) (start3 N ds) G) : FnOk P w K mg base (L2.CX P w) (k + 1) f fd ps (liftSp ⟨K, Z0⟩ sp) := by
  obtain ⟨t, hb, hv⟩ := hbody
  refine F.ok S (fun vs H Q E h => ?_) (fun cdv A outer s H vs Q E hr h => ?_)
  · obtain ⟨ds, G, Q3, E3, g, r, h, _⟩ := h
    rw [← r.length]
    exact len _ _ _ _ h
  · refine ⟨_, hb cdv A outer s H E hr, ?_⟩
    obtain ⟨ds, G, Q3, E3, g, r, h, q, x⟩ := h
    refine ⟨start3 N ds, G, fnEnds Q3 E3, g, start_rs N r, hv ds G Q3 E3 h, ⟨fun σ3 G1 σ H1 ⟨G2, s2, h1⟩ g1 r1 k1 => ?_, fun d G1 v H1 ⟨G2, s2, h1⟩ g1 r1 k1 => ?_, fun _ _ _ _ z => z.elim, fun _ _ _ _ z => z.elim, fun x3 σ3 G1 c d σ H1 ⟨G2, s2, h1⟩ g1 r1 xv k1 => ?_⟩⟩
    · exact q _ _ _ _ h1 (g1.sub s2) .non (k1.trans (Keep.sub s2))
    · exact q _ _ _ _ h1 (g1.sub s2) (r1.keep g1 (Keep.sub s2)) (k1.trans (Keep.sub s2))
    · exact x _ _ _ _ _ h1 (g1.sub s2) (xv.sub g1 s2) (k1.trans (Keep.sub s2))
theorem fn3 {K : PySem.W.Frag} {x : Str} {params : Arguments} {body : List Stmt} {scope : Scope} {f : Addr} {fd : FuncData} {N ps : List Str} {k : Nat} {sp : Sp3} (hm : mg x = some (.ref f))
    (F : FunD K x x params body scope [] [] f fd) (S : FnScope N ps scope) (hb : Binds K fd ps []) (len : ∀ ds G Q E, sp ds G Q E → ds.length = ps.length)
    (hbody : ∃ t : TS3, (∀ (cdv : Value) (A : Around) (outer : List Env) (s : Shared) (H : Hp) (E : XK), Room k (A.deeper (envOfC x scope s.heap.objs.size f cdv)) →
        PSs3 (cxOf (L2.CX P w) P w K mg base N x scope f cdv A outer s H E) Z0 (fun c d _ H' => E c d H') body t) ∧
      ∀ ds G Q E, sp ds G Q E → t (fnEnds Q E) (start3 N ds) G) : Fn3 P w K mg base x (k + 1) sp := ⟨f, fd, ps, hm, F.kp, hb, fn3_of F S len hbody⟩
end
end L3
namespace L3
open PySem PySem.Spec PyProof.Rows L2
open He (ga)
/-! ### a statement, an expression that is never reached -/
theorem sdead_ {X : Cx} {Z : Zx} {W : WX} {st : Stmt} : PS3 X Z W st (fun _ _ _ => False) := ⟨fun _ _ _ _ _ _ h => by obtain ⟨_, _, _, _, _, h, _⟩ := h; exact h.elim⟩
theorem ssdead_ {X : Cx} {Z : Zx} {W : WX} {st : List Stmt} : PSs3 X Z W st (fun _ _ _ => False) := ⟨fun _ _ _ _ _ _ h => by obtain ⟨_, _, _, _, _, h, _⟩ := h; exact h.elim⟩
theorem edead_ {X : Cx} {Z : Zx} {W : WX} {e : Expr} : PE3 X Z W e (fun _ _ _ _ => False) := ⟨fun _ _ _ _ _ _ h => by obtain ⟨_, _, _, _, _, _, h, _⟩ := h; exact h.elim⟩
/-! ### types -/
inductive Bt where
  | non | bl | int | str | tup | lst | dic
  deriving DecidableEq
def Bt.n : Bt → String
  | .non => "NoneType" | .bl => "bool" | .int => "int" | .str => "str" | .tup => "tuple" | .lst => "list" | .dic => "dict"
def Bt.all : List Bt := [.non, .bl, .int, .str, .tup, .lst, .dic]
theorem Bt.mem (t : Bt) : t ∈ Bt.all := by cases t <;> decide
inductive Ty3 where
  | b (t : Bt) | o (c : Str)
def Ty3.v (K : PySem.W.Frag) : Ty3 → Value
  | .b t => .type t.n
  | .o c => .ref (ga K c)
def tyD (G : Gp) : D → Option Ty3
  | .non => some (.b .non)
  | .bl _ => some (.b .bl)
  | .int _ => some (.b .int)
  | .str _ => some (.b .str)
  | .tup _ => some (.b .tup)
  | .fl _ => some (.b .lst)
  | .sl _ => some (.b .lst)
  | .ob c _ _ => some (.o c)
  | .emp => some (.b .dic)
  | .ref a => (match G a with
    | some (.lst _) => some (.b .lst)
    | some (.dic _) => some (.b .dic)
    | some (.ins c _) => some (.o c)
    | some (.tb _) => none
    | none => none)
  | _ => none
/-- a class whose instances are looked at -/
structure OwnC (K : PySem.W.Frag) (c : Str) : Prop where
  cl : Cls K (ga K c)
  ha : PySem.W.findIn K (.ref (ga K c)) "__class__" = some (some (.builtin "object.__class__"))
  hn : PySem.W.specialIn K (.builtin "object.__class__") "__get__" = some (some (.builtin "getset_descriptor.__get__"))
  htk : PySem.W.takesIn K (.builtin "object.__class__") = some true
  hm : PySem.W.mroIn K (ga K c) (.type "object") = some true
structure IsF (K : PySem.W.Frag) (OC : List Str) : Prop where
  own : ∀ c ∈ OC, OwnC K c
  ob : ∀ c ∈ OC, ∀ T : Bt, PySem.W.kitOne K (.ref (ga K c)) (.type T.n) = some false
  bo : ∀ c ∈ OC, ∀ T : Bt, PySem.W.kitOne K (.type T.n) (.ref (ga K c)) = some false
  oo : ∀ c ∈ OC, ∀ d ∈ OC, PySem.W.kitOne K (.ref (ga K c)) (.ref (ga K d)) = some (c == d)
def isfB (OC : List Str) (K : PySem.W.Frag) : Bool := OC.all fun c => (He.Fa.ok K (.cls c) && (decide (PySem.W.findIn K (.ref (ga K c)) "__class__" = some (some (.builtin "object.__class__"))) && (decide (PySem.W.specialIn K (.builtin "object.__class__") "__get__" = some (some (.builtin "getset_descriptor.__get__"))) &&
  (decide (PySem.W.takesIn K (.builtin "object.__class__") = some true) && decide (PySem.W.mroIn K (ga K c) (.type "object") = some true))))) &&
  ((Bt.all.all fun T => decide (PySem.W.kitOne K (.ref (ga K c)) (.type T.n) = some false) && decide (PySem.W.kitOne K (.type T.n) (.ref (ga K c)) = some false)) &&
  OC.all fun d => decide (PySem.W.kitOne K (.ref (ga K c)) (.ref (ga K d)) = some (c == d)))
theorem isf_ok {K : PySem.W.Frag} {OC : List Str} (h : isfB OC K = true) : IsF K OC := by
  have key : ∀ c ∈ OC, _ := fun c hc => He.ba (List.all_eq_true.mp h c hc)
  refine ⟨fun c hc => ?_, fun c hc T => ?_, fun c hc T => ?_, fun c hc d hd => ?_⟩
  · obtain ⟨h1, _⟩ := key c hc
    obtain ⟨h1, h2⟩ := He.ba h1
    obtain ⟨h2, h3⟩ := He.ba h2
    obtain ⟨h3, h4⟩ := He.ba h3
    obtain ⟨h4, h5⟩ := He.ba h4
    exact ⟨He.cls_ok h1, of_decide_eq_true h2, of_decide_eq_true h3, of_decide_eq_true h4, of_decide_eq_true h5⟩
  · obtain ⟨_, h1⟩ := key c hc
    obtain ⟨h1, _⟩ := He.ba h1
    exact of_decide_eq_true (He.ba (List.all_eq_true.mp h1 T T.mem)).1
  · obtain ⟨_, h1⟩ := key c hc
    obtain ⟨h1, _⟩ := He.ba h1
    exact of_decide_eq_true (He.ba (List.all_eq_true.mp h1 T T.mem)).2
  · obtain ⟨_, h1⟩ := key c hc
    obtain ⟨_, h1⟩ := He.ba h1
    exact of_decide_eq_true (List.all_eq_true.mp h1 d hd)
/-- is it of this built-in type -/
def isT (OC : List Str) (T : Bt) : Ty3 → Option Bool
  | .b U => some (decide (U = T) || (decide (U = .bl) && decide (T = .int)))
  | .o c => if OC.contains c then some false else none
/-- .. of this own class -/
def isO (OC : List Str) (C : Str) : Ty3 → Option Bool
  | .b _ => some false
  | .o c => if OC.contains c then some (c == C) else none
/-- .. of one of these -/
def isA (OC : List Str) (Ts : List Bt) : Ty3 → Option Bool
  | .b U => some (Ts.any fun T => decide (U = T) || (decide (U = .bl) && decide (T = .int)))
  | .o c => if OC.contains c then some false else none
theorem kitB_all : ∀ U T : Bt, kitB U.n T.n = some (decide (U = T) || (decide (U = .bl) && decide (T = .int))) := by
  intro U T; cases U <;> cases T <;> decide +kernel
def TbC (K : PySem.W.Frag) (u : Value) (f : Ty3 → Option Bool) : Prop := ∀ t b, f t = some b → PySem.W.kitOne K (t.v K) u = some b ∧ ∀ c, t = .o c → OwnC K c
section
variable {K : PySem.W.Frag} {OC : List Str}
theorem tb_b (F : IsF K OC) (T : Bt) : TbC K (.type T.n) (isT OC T) := fun t b h => by
  cases t with
  | b U =>
    cases h
    exact ⟨kit_ty (kitB_all U T), fun c e => by cases e⟩
  | o c =>
    unfold isT at h
    simp only at h
    split at h
    · rename_i hc
      cases h
      have hc : c ∈ OC := by simpa using hc
      exact ⟨F.ob c hc T, fun d e => by cases e; exact F.own c hc⟩
    · cases h
theorem tb_o (F : IsF K OC) (C : Str) (hC : C ∈ OC) : TbC K (.ref (ga K C)) (isO OC C) := fun t b h => by
  cases t with
  | b U =>
    cases h
    exact ⟨F.bo C hC U, fun c e => by cases e⟩
  | o c =>
    unfold isO at h
    simp only at h
    split at h
    · rename_i hc
      cases h
      have hc : c ∈ OC := by simpa using hc
      exact ⟨F.oo c hc C hC, fun d e => by cases e; exact F.own c hc⟩
    · cases h
end
section
variable {K : K3} {G : Gp} {H : Hp}
theorem tyD_ok (g : GH K G H) {x : D} {v : V} {t : Ty3} (r : Dv K G H x v) (h : tyD G x = some t) (ow : ∀ c, t = .o c → OwnC K.f c) : TyX K.f H v (t.v K.f) := by
  cases r with
  | non => cases h; exact .base .non
  | bl b => cases h; exact .base (.bl b)
  | int i => cases h; exact .base (.int i)
  | str z => cases h; exact .base (.str z)
  | tup s r =>
    cases h
    rcases s with (s | ⟨o, s⟩) | ⟨o, its, n, s1, s2, _⟩
    · exact .base (.tup s)
    · exact .fTuple s
    · exact .kTuple s1 s2
  | fl s n r => cases h; exact .base (.lst s)
  | sl s r =>
    cases h
    rcases s with ⟨s | ⟨o, s⟩, _⟩ | ⟨o, its, n, s1, s2, _⟩
    · exact .base (.lst s)
    · exact .base (.frz s)
    · exact .kList s1 s2
  | ob s l n r =>
    cases h
    have w := ow _ rfl
    exact .base (.ins s w.cl w.ha w.hn w.htk w.hm)
  | emp s n => cases h; exact .base (.dK s)
  | ref a =>
    unfold tyD at h
    simp only at h
    split at h
    · rename_i xs e
      cases h
      obtain ⟨vs, h2, _⟩ := g a _ e
      exact .base (.lst h2)
    · rename_i xs e
      cases h
      obtain ⟨vs, h2, _⟩ := g a _ e
      exact .base (.dK h2)
    · rename_i c fs e
      cases h
      obtain ⟨dx, vs, h2, _⟩ := g a _ e
      have w := ow _ rfl
      exact .base (.ins h2 w.cl w.ha w.hn w.htk w.hm)
    · cases h
    · cases h
  | ex h0 => cases h
  | fn x => cases h
  | lam h0 h1 h2 => cases h
  | exf h0 h1 h2 r => cases h
end
def tisi (f : Ty3 → Option Bool) (te : TE3) : TE3 := fun σ G Q E => te σ G (fun x G1 => ∃ t b, tyD G1 x = some t ∧ f t = some b ∧ Q (.bl b) G1) E
/-- the class as it is written -/
def IsC (X : Cx) (c : Expr) (u : Value) : Prop := ∃ cv, PE X c (tC cv) ∧ ClsV cv u
section
variable {X : Cx} {Z : Zx} {W : WX} {e c : Expr} {te : TE3} {pos p q pc : Pos} {f : Ty3 → Option Bool} {u : Value} {OC : List Str}
theorem isc_b (T : Bt) {x : Str} (hm : X.mg x = none) (hv : bootBuiltins x = some (.type T.n) := by decide +kernel) (hg : Gl X x := by rfl) (hn : x ≠ "__name__" := by decide +kernel) (hd : (x == ("__debug__" : Str)) = false := by decide +kernel) : IsC X (.Name x p) (.type T.n) :=
  ⟨.ty T.n, pe_bltn hg hm hv rfl hn hd, .ty _⟩
theorem isc_o {x : Str} (hm : X.mg x = some (.ref (ga X.K x))) (hg : Gl X x := by rfl) (hd : (x == ("__debug__" : Str)) = false := by decide +kernel) : IsC X (.Name x p) (.ref (ga X.K x)) :=
  ⟨.ref (ga X.K x), pe_glob hg hm rfl hd, .own _⟩
theorem isi_ (hi : X.mg "isinstance" = none) (hc : IsC X c u) (tb : TbC X.K u f) (he : PE3 X Z W e te) (hg : Gl X "isinstance" := by rfl)
    (he1 : starEach [e, c] X.env = (false, eval e X.env) :: starEach [c] X.env := by rfl) (he2 : starEach [c] X.env = (false, eval c X.env) :: starEach [] X.env := by rfl) (hpl : (backTo pos (starEach [c] X.env)).any (·.1) = false := by rfl) :
    PE3 X Z W (.Call (.Name "isinstance" p) [e, c] [] pos) (tisi f te) := by
  obtain ⟨cv, hc, k⟩ := hc
  refine PE.imp (pe_callB call_isi hg hi (by decide +kernel) (pa_cons he (pa_cons hc pa_nil he2) he1) (by decide) (by decide) he1 hpl) fun σ H Q h => ?_
  obtain ⟨σ3, G, Q3, E3, g, rs, h, qk, x⟩ := h
  refine ⟨σ3, G, _, E3, g, rs, h, fun d G1 v H1 ⟨t, b, h1, h2, h3⟩ g1 r1 k1 => ?_, x⟩
  obtain ⟨t1, t2⟩ := tb t b h2
  exact ⟨v, cv, _, u, b, rfl, k, tyD_ok g1 r1 h1 t2, t1, q_of (qk.keep k1) g1 h3 (.bl b)⟩
theorem kitAny_all (F : IsF X.K OC) : ∀ (Ts : List Bt) (t : Ty3) (b : Bool), isA OC Ts t = some b → PySem.W.kitAny X.K (t.v X.K) (Ts.map fun T => .type T.n) = some b ∧ ∀ c, t = .o c → OwnC X.K c
  | [], t, b, h => by
    cases t with
    | b U =>
      cases h
      exact ⟨kitAny_nil, fun c e => by cases e⟩
    | o c =>
      unfold isA at h
      simp only at h
      split at h
      · rename_i hc
        cases h
        exact ⟨kitAny_nil, fun d e => by cases e; exact F.own c (by simpa using hc)⟩
      · cases h
  | T :: Ts, t, b, h => by
    cases t with
    | b U =>
      cases h
      refine ⟨kitAny_cons (b := decide (U = T) || (decide (U = .bl) && decide (T = .int))) (kit_ty (kitB_all U T)) (fun e => ?_) (fun e => ?_), fun c e => by cases e⟩
      · rw [(kitAny_all F Ts (.b U) _ rfl).1, List.any_cons, e, Bool.false_or]
      · rw [List.any_cons, e, Bool.true_or]
    | o c =>
      unfold isA at h
      simp only at h
      split at h
      · rename_i hc
        cases h
        have hc' : c ∈ OC := by simpa using hc
        refine ⟨kitAny_cons (F.ob c hc' T) (fun _ => (kitAny_all F Ts (.o c) false ?_).1) (fun e => by cases e), fun d e => by cases e; exact F.own c hc'⟩
        unfold isA
        simp only
        rw [if_pos hc]
      · cases h
/-- isinstance(x, (T, U)) -/
theorem isi2_ (F : IsF X.K OC) (T U : Bt) {x y : Str} {k : Nat} {p1 p2 pt : Pos} (hi : X.mg "isinstance" = none) (h1 : X.mg x = none) (h2 : X.mg y = none) (he : PE3 X Z W e te) (hv1 : bootBuiltins x = some (.type T.n) := by decide +kernel) (hv2 : bootBuiltins y = some (.type U.n) := by decide +kernel)
    (hg : Gl X "isinstance" := by rfl) (hg1 : Gl X x := by rfl) (hg2 : Gl X y := by rfl) (hn1 : x ≠ "__name__" := by decide +kernel) (hd1 : (x == ("__debug__" : Str)) = false := by decide +kernel) (hn2 : y ≠ "__name__" := by decide +kernel) (hd2 : (y == ("__debug__" : Str)) = false := by decide +kernel)
    (he1 : starEach [e, .Tuple [.Name x p1, .Name y p2] k pt] X.env = (false, eval e X.env) :: starEach [.Tuple [.Name x p1, .Name y p2] k pt] X.env := by rfl) (hpl : (backTo pos (starEach [.Tuple [.Name x p1, .Name y p2] k pt] X.env)).any (·.1) = false := by rfl) :
    PE3 X Z W (.Call (.Name "isinstance" p) [e, .Tuple [.Name x p1, .Name y p2] k pt] [] pos) (tisi (isA OC [T, U]) te) := by
  refine PE.imp (pe_callB call_isiT hg hi (by decide +kernel) (pa_cons he (pa_cons (pe_tup (pa_cons (pe_bltn (v := .ty T.n) hg1 h1 hv1 rfl hn1 hd1) (pa_cons (pe_bltn (v := .ty U.n) hg2 h2 hv2 rfl hn2 hd2) pa_nil))) pa_nil) he1) (by decide) (by decide) he1 hpl) fun σ H Q h => ?_
  obtain ⟨σ3, G, Q3, E3, g, rs, h, qk, x⟩ := h
  refine ⟨σ3, G, _, E3, g, rs, h, fun d G1 v H1 ⟨t, b, h1, h2, h3⟩ g1 r1 k1 => ?_, x⟩
  obtain ⟨t1, t2⟩ := kitAny_all F [T, U] t b h2
  refine ⟨by show 2 ≤ sizeLine; decide, fun tp n => ?_⟩
  have k2 : Keep G1 H1 G1 (upd H1 tp (.tup [V.ty T.n, V.ty U.n])) := Keep.new n
  refine ⟨v, tp, _, _, _, b, rfl, upd_same, .cons (.ty T.n) (.cons (.ty U.n) .nil), tyD_ok (g1.new n) (r1.keep g1 k2) h1 t2, t1, ?_⟩
  exact q_of (qk.keep (k1.trans k2)) (g1.new n) h3 (.bl b)
end
/-! ### -x -/
def tneg (te : TE3) : TE3 := fun σ G Q E => te σ G (fun x G1 => ∃ i, x = .int i ∧ Q (.int (-i)) G1) E
section
variable {X : Cx} {Z : Zx} {W : WX} {e a b : Expr} {te : TE3} {ta : TA3} {pos : Pos}
theorem neg_ (h : PE3 X Z W e te) : PE3 X Z W (.UnaryOp .USub e pos) (tneg te) := PE.imp (pe_un un_neg h) fun σ H Q h => by
  obtain ⟨σ3, G, Q3, E3, g, rs, h, q, x⟩ := h
  refine ⟨σ3, G, _, E3, g, rs, h, fun d G1 v H1 ⟨i, e, h1⟩ g1 r1 k1 => ?_, x⟩
  subst e
  cases r1
  exact ⟨i, rfl, q_of (q.keep k1) g1 h1 (.int _)⟩
/-! ### a, b = e1, e2 -/
def spar (i j : Nat) (ta : TA3) : TS3 := fun D σ G => ta σ G (fun ds G1 => ∃ v w, ds = [v, w] ∧ D.nx ((σ.set i (some v)).set j (some w)) G1) (fun x G1 => D.ex x σ G1)
theorem par_ (i j : Nat) {x y : Str} {px py pt : Pos} {kt k2 pt2} (hc : X.calm = true) (hN : X.N.Nodup) (ha : PA3 X Z W [a, b] ta) (hi : X.N[i]? = some x := by rfl) (hj : X.N[j]? = some y := by rfl) (hij : i ≠ j := by decide)
    (hx : X.env.scope.names.lookup x = some .local := by rfl) (hy : X.env.scope.names.lookup y = some .local := by rfl)
    (hw : swappedStores [.Tuple [.Name x px, .Name y py] kt pt] (.Tuple [a, b] k2 pt2) X.env = pure (some [x, y]) := by rfl)
    (hs : swapsWithSole [.Tuple [.Name x px, .Name y py] kt pt] (.Tuple [a, b] k2 pt2) pos.line X.env = pure false := by rfl) :
    PS3 X Z W (.Assign [.Tuple [.Name x px, .Name y py] kt pt] (.Tuple [a, b] k2 pt2) pos) (spar i j ta) := PS.imp (ps_par hc hN hi hj hij hx hy ha hw hs) fun D σ H h => by
  obtain ⟨σ3, G, D3, g, rs, h, d⟩ := h
  refine ⟨σ3, G, _, _, g, rs, h, fun ds G1 vs H1 ⟨v, w, e, h1⟩ g1 r1 k1 => ?_, d.exk g rs⟩
  subst e
  cases r1 with
  | cons r1 r2 =>
  cases r2 with
  | cons r2 r3 =>
  cases r3
  exact ⟨_, _, rfl, d.nx _ _ _ _ h1 g1 (((rs.keep g k1).set r1 i).set r2 j) k1⟩
/-- a, b, .. = e -/
def sunp (is : List Nat) (te : TE3) : TS3 := fun D σ G => te σ G (fun x G1 => (Tg.t is).b x σ fun σ' => D.nx σ' G1) (fun x G1 => D.ex x σ G1)
theorem unp_ {tg : Expr} (is : List Nat) (he : PE3 X Z W e te) (hg : PG X tg ((Tg.t is).g X.K)) (hs : swapsWithSole [tg] e pos.line X.env = pure false := by rfl) (hw : swappedStores [tg] e X.env = pure none := by rfl)
    (h1 : (assignEach [tg] X.env).map (·.2) = [assign tg X.env] := by rfl) : PS3 X Z W (.Assign [tg] e pos) (sunp is te) := PS.imp (ps_asg he hg hs hw h1) fun D σ H h => by
  obtain ⟨σ3, G, D3, g, rs, h, d⟩ := h
  refine ⟨σ3, G, _, _, g, rs, h, fun x G1 v H1 h1 g1 r1 k1 => ?_, d.exk g rs⟩
  exact Tg.run (rs.keep g k1) r1 h1 fun σ5 σ6 h5 r5 _ => d.nx _ _ _ _ h5 g1 r5 k1
end
/-! ### attributes -/
def fldD (c f : Str) (G : Gp) : D → Option D
  | .ob c' ns xs => if c' = c then (ns.zip xs).lookup f else none
  | .ref a => (match G a with
    | some (.ins c' fs) => if c' = c then fs.lookup f else none
    | _ => none)
  | _ => none
def put3 (f : Str) (v : D) : List (Str × D) → List (Str × D)
  | [] => [(f, v)]
  | (g, x) :: r => if g = f then (g, v) :: r else (g, x) :: put3 f v r
def tfld (c f : Str) (te : TE3) : TE3 := fun σ G Q E => te σ G (fun x G1 => ∃ d, fldD c f G1 x = some d ∧ Q d G1) E
def sfld (c f : Str) (to tv : TE3) : TS3 := fun D σ G => tv σ G (fun y G1 => to σ G1 (fun x G2 => ∃ a fs, x = .ref a ∧ G2 a = some (.ins c fs) ∧ fs.length < 1000 ∧ D.nx σ (up G2 a (.ins c (put3 f y fs)))) (fun x G1 => D.ex x σ G1)) (fun x G1 => D.ex x σ G1)
section
variable {K : K3} {G : Gp} {H : Hp}
theorem zip_look : ∀ {ns : List Str} {xs : List D} {vs : List V} {f : Str} {d : D}, DvL K G H xs vs → (ns.zip xs).lookup f = some d → ∃ v, (ns.zip vs).lookup f = some v ∧ Dv K G H d v
  | [], _, _, _, _, _, h => by simp at h
  | _ :: _, [], _, _, _, _, h => by simp at h
  | n :: ns, x :: xs, v :: vs, f, d, .cons r t, h => by
    rw [List.zip_cons_cons, List.lookup_cons] at h ⊢
    cases e : f == n with
    | true =>
      rw [e] at h
      cases h
      exact ⟨v, rfl, r⟩
    | false =>
      rw [e] at h
      exact zip_look t h
theorem zip_self : ∀ (fs : List (Str × D)), (fs.map (·.1)).zip (fs.map (·.2)) = fs
  | [] => rfl
  | (a, b) :: r => by simp [zip_self r]
theorem fldD_ok (g : GH K G H) {c f : Str} {x d : D} {v : V} (r : Dv K G H x v) (h : fldD c f G x = some d) : ∃ a dx fs w, v = .ref a ∧ H a = some (.ins (ga K.f c) dx fs) ∧ fs.lookup f = some w ∧ Dv K G H d w := by
  cases r with
  | ob s l n r =>
    unfold fldD at h
    simp only at h
    split at h
    · rename_i e
      subst e
      obtain ⟨w, h1, h2⟩ := zip_look r h
      exact ⟨_, _, _, w, rfl, s, h1, h2⟩
    · cases h
  | ref a =>
    unfold fldD at h
    simp only at h
    split at h
    · rename_i c' fs e
      split at h
      · rename_i ec
        subst ec
        obtain ⟨dx, vs, h2, r⟩ := g a _ e
        rw [← zip_self fs] at h
        obtain ⟨w, h3, h4⟩ := zip_look r h
        exact ⟨_, _, _, w, rfl, h2, h3, h4⟩
      · cases h
    · cases h
  | _ => cases h
theorem put_ok {f : Str} {y : D} {w : V} (rw' : Dv K G H y w) : ∀ {fs : List (Str × D)} {vs : List V}, DvL K G H (fs.map (·.2)) vs → ∃ us, putF f w ((fs.map (·.1)).zip vs) = ((put3 f y fs).map (·.1)).zip us ∧ DvL K G H ((put3 f y fs).map (·.2)) us
  | [], [], .nil => ⟨[w], rfl, .cons rw' .nil⟩
  | (n, x) :: fs, v :: vs, .cons r t => by
    by_cases e : n = f
    · subst e
      refine ⟨w :: vs, ?_, ?_⟩
      · simp [put3, putF]
      · simp only [put3, if_pos]; exact .cons rw' t
    · obtain ⟨us, h1, h2⟩ := put_ok (f := f) rw' t
      refine ⟨v :: us, ?_, ?_⟩
      · simp [put3, putF, e, h1]
      · simp only [put3, e, if_false]; exact .cons r h2
end
section
variable {X : Cx} {Z : Zx} {W : WX} {e o : Expr} {te to tv : TE3} {pos pos' : Pos} {c f : Str}
theorem fld_ (c : Str) (cl : Cls X.K (ga X.K c)) (na : NoAttr X.K (ga X.K c) f) (h : PE3 X Z W e te) (hb : attributeBase e f X.env (eval e X.env) = eval e X.env := by rfl) : PE3 X Z W (.Attribute e f pos) (tfld c f te) := PE.imp (pe_fld h hb) fun σ H Q h => by
  obtain ⟨σ3, G, Q3, E3, g, rs, h, q, x⟩ := h
  refine ⟨σ3, G, _, E3, g, rs, h, fun x G1 v H1 ⟨d, e, h1⟩ g1 r1 k1 => ?_, x⟩
  obtain ⟨a, dx, fs, w, ea, eH, el, rw'⟩ := fldD_ok g1 r1 e
  exact ⟨a, _, dx, fs, w, ea, eH, cl, na, el, q_of (q.keep k1) g1 h1 rw'⟩
theorem sfld_ (c : Str) (cl : Cls X.K (ga X.K c)) (na : NoAttr X.K (ga X.K c) f) (ho : PE3 X Z W o to) (hv : PE3 X Z W e tv) (hs : swapsWith e (some (.Attribute o f pos')) pos.line X.env = pure false := by rfl) :
    PS3 X Z W (.Assign [.Attribute o f pos'] e pos) (sfld c f to tv) := PS.imp (ps_fld ho hv hs) fun D σ H h => by
  obtain ⟨σ3, G, D3, g, rs, h, d⟩ := h
  refine ⟨σ3, G, _, _, g, rs, h, fun y G1 v H1 h1 g1 r1 k1 => ?_, d.exk g rs⟩
  refine ⟨σ3, G1, _, _, g1, rs.keep g k1, h1, fun x G2 u H2 ⟨a, fs, ex, eG, l, h2⟩ g2 r2 k2 => ?_, (d.keep k1).exk g1 (rs.keep g k1)⟩
  subst ex
  cases r2
  obtain ⟨dx, vs, eH, r⟩ := g2 a _ eG
  obtain ⟨us, h3, h4⟩ := put_ok (f := f) (r1.keep g1 k2) r
  refine ⟨a, _, dx, _, rfl, eH, cl, na, ?_, ?_⟩
  · rw [List.length_zip, List.length_map, ← r.length, List.length_map]; omega
  · rw [h3]
    exact d.nx _ _ _ _ h2 (g2.set eG ⟨dx, us, upd_same, h4.keep g2 (Keep.set eG)⟩) (((rs.keep g k1).keep g1 k2).keep g2 (Keep.set eG)) ((k1.trans k2).trans (Keep.set eG))
end
/-! ### an instance is made -/
/-- a method, __init__: its own function -/
structure Mn3 (P : Program) (w : World) (K : PySem.W.Frag) (mg : Str → Option Value) (base : Heap) (f : Addr) (j : Nat) (sp : Sp3) : Prop where
  ex : ∃ (fd : FuncData) (ps : List Str), Binds K fd ps [] ∧ FnOk P w K mg base (L2.CX P w) j f fd ps (liftSp ⟨K, Z0⟩ sp)
def tmk (c : Str) (sp : Sp3) (ta : TA3) : TE3 := fun σ G Q E => ta σ G (fun ds G1 => ∀ a, G1 a = none → sp (.ref a :: ds) (up G1 a (.ins c [])) (fun d G2 => d = .non ∧ Q (.ref a) G2) E) E
section
variable {X : Cx} {Z : Zx} {W : WX} {e : Expr} {es : List Expr} {ta : TA3} {pos p : Pos} {x : Str}
def tMakeS (C : Addr) (sp : Sp) (E : St → XK) (t : TA) : TE := fun σ H Q => t σ H fun vs H1 => ∀ x dx, H1 x = none → H1 dx = none → dx ≠ x →
  sp (.ref x :: vs) (upd (upd H1 dx (.own x)) x (.ins C dx [])) (fun v H2 => v = .non ∧ Q (.ref x) H2) (E σ)
theorem run_makeS {CX : CXT} {k : Nat} {f C : Addr} {fd : FuncData} {ps : List Str} {sp : Sp} {E : XK} {pins : List (Addr × Obj)} {σ : St} {H : Hp} {s : Shared} {Q : VK} {us : List Value} {vs : List V} (M : Mk X.K C f) (F : FnOk X.prog X.w X.K X.mg X.base CX k f fd ps sp) (hr : Room (k + 1) X.A) (hb : Binds X.K fd ps [])
    (hx : PassesAt CX X σ E) (I : Inv X pins σ H s) (r : Vals vs us)
    (h : ∀ x dx, H x = none → H dx = none → dx ≠ x → sp (.ref x :: vs) (upd (upd H dx (.own x)) x (.ins C dx [])) (fun v H2 => v = .non ∧ Q (.ref x) H2) E) :
    wpAny (model X.prog X.w) X.A (call (.ref C) us) (EP X pins σ Q) X.xe s := by
  have hq := h (s.heap.objs.size + 1) s.heap.objs.size (I.hok.fresh (Nat.le_succ _)) (I.hok.fresh (Nat.le_refl _)) (Nat.ne_of_lt (Nat.lt_succ_self _))
  have I2 := Inv.made (C := C) I
  have r2 : Vals (V.ref (s.heap.objs.size + 1) :: vs) (Value.ref (s.heap.objs.size + 1) :: us) := .cons rfl r
  have hl : (Value.ref (s.heap.objs.size + 1) :: us ++ []).length = ps.length := by
    have e := r2.length
    rw [F.len _ _ _ _ hq] at e
    simpa using e.symm
  have hb2 := hb _ (Value.ref (s.heap.objs.size + 1) :: us) I2.kIn hl
  rw [List.append_nil] at hb2
  refine wpAny_call (make_map (f := f) I.kIn M.makes M.init (beq_iff_eq.mp M.fn) (codeAny_mono (F.run _ X.stack _ _ ⟨Value.ref (s.heap.objs.size + 1) :: us, []⟩ (Value.ref (s.heap.objs.size + 1) :: us) _ _ E (hr.make C us [])
    (I2.env0.make C us []) hb2 r2 hq) fun r s' hq' => ?_))
  cases r with
  | error e => exact hx pins _ _ e s' I2 hq'
  | ok fl =>
    cases fl with
    | ret u =>
      obtain ⟨v, H', I3, rv, ev, q3⟩ := I2.after hq'
      subst ev
      exact ⟨rv, ⟨V.ref (s.heap.objs.size + 1), H', I3, rfl, q3⟩⟩
    | next => exact False.elim hq'
    | brk => exact False.elim hq'
    | cont => exact False.elim hq'
theorem pe_makeS {CX : CXT} {k : Nat} {f C : Addr} {fd : FuncData} {ps : List Str} {sp : Sp} {E : St → XK} {t : TA} (M : Mk X.K C f) (F : FnOk X.prog X.w X.K X.mg X.base CX k f fd ps sp) (hr : Room (k + 1) X.A) (hg : Gl X x) (hm : X.mg x = some (.ref C)) (hb : Binds X.K fd ps []) (hx : ∀ σ, PassesAt CX X σ (E σ))
    (ha : PA X (e :: es) t) (hdb : (x == ("__debug__" : Str)) = false := by decide) (he : starEach (e :: es) X.env = (false, eval e X.env) :: starEach es X.env := by rfl) (hpl : (backTo pos (starEach es X.env)).any (·.1) = false := by rfl) :
    PE X (.Call (.Name x p) (e :: es) [] pos) (tMakeS C sp E t) := by
  refine ⟨fun pins s σ H Q I h => ?_⟩
  refine wpAny_Call_Name_kw (ld_glob I hg hm ?_ hdb)
  refine PySem.W.callWith_K (h₀ := X.base) I.ok.mod.kin M.kp (thn (ha.run pos pins s σ H _ I h) fun us s1 ⟨vs, H1, I1, r, q⟩ => ⟨I1.kIn, ?_⟩) he hpl
  exact run_makeS M F hr hb (hx σ) I1 r q
theorem mk_ {j k : Nat} {sp : Sp3} {f : Addr} (M : Mk X.K (ga X.K x) f) (F : Mn3 X.prog X.w X.K X.mg X.base f j sp) (hm : X.mg x = some (.ref (ga X.K x))) (hr : Room (k + 1) X.A) (hj : j ≤ k) (tk : Takes X W) (ha : PA3 X Z0 W (e :: es) ta) (hg : Gl X x := by rfl) (hdb : (x == ("__debug__" : Str)) = false := by decide +kernel)
    (he : starEach (e :: es) X.env = (false, eval e X.env) :: starEach es X.env := by rfl) (hpl : (backTo pos (starEach es X.env)).any (·.1) = false := by rfl) : PE3 X Z0 W (.Call (.Name x p) (e :: es) [] pos) (tmk x sp ta) := by
  obtain ⟨fd, ps, hb, F⟩ := F.ex
  refine PE.imp (pe_makeS (M := M) F (hr.mono (Nat.succ_le_succ hj)) hg hm hb (fun σ => passAt tk σ) ha hdb he hpl) fun σ H Q h => ?_
  obtain ⟨σ3, G, Q3, E3, g, rs, h, q, xk⟩ := h
  refine ⟨σ3, G, _, E3, g, rs, h, fun ds G1 vs H1 h1 g1 r1 k1 => fun a dx na nd ne => ?_, xk⟩
  have n2 : upd H1 dx (.own a) a = none := by rw [upd_ne (Ne.symm ne)]; exact na
  have ka : Keep G1 H1 G1 (upd H1 dx (.own a)) := Keep.new nd
  have kb := Keep.newG (G := G1) (H := upd H1 dx (.own a)) (o := .ins (ga X.K x) dx []) (u := .ins x []) n2
  have gb := (g1.new (o := .own a) nd).newG (p := a) (o := .ins (ga X.K x) dx []) (u := .ins x []) n2 ⟨dx, [], upd_same, .nil⟩
  have kk := ka.trans kb
  refine ⟨.ref a :: ds, up G1 a (.ins x []), _, E3, gb, .cons (.ref a) (r1.keep g1 kk), h1 a (g1.free na), fun d G2 v H2 ⟨h2, h3⟩ g2 r2 k2 => ?_, xk.keep (k1.trans kk)⟩
  subst h2
  cases r2
  exact ⟨rfl, q _ _ _ _ h3 g2 (.ref a) ((k1.trans kk).trans k2)⟩
end
end L3
namespace L3
open PySem PySem.Spec PyProof.Rows L2
open He (ga)
def sdead : TS3 := fun _ _ _ => False
section
variable {X : Cx} {Z : Zx} {W : WX} {pos : Pos}
/-- {} -/
theorem emp_ : PE3 X Z W (.Dict [] [] pos) (tc .emp) := PE.imp pe_dnewK fun σ H Q h => by
  obtain ⟨σ3, G, Q3, E3, g, rs, h, q, x⟩ := h
  exact fun p n => q _ _ _ _ h (g.new n) (.emp upd_same (g.free n)) (Keep.new n)
theorem cgi_ {x : Str} {i : Int} (hm : ∃ t, X.mg x = some (.int i t)) (hg : Gl X x := by rfl) (hd : (x == ("__debug__" : Str)) = false := by decide +kernel) : PE3 X Z W (.Name x pos) (tc (.int i)) := by
  obtain ⟨t, hm⟩ := hm
  exact cg_ (v := .int i) hm ⟨t, rfl⟩ (fun _ _ => .int i) hg hd
theorem cgs_ {x z : Str} (hm : ∃ t, X.mg x = some (.str z t)) (hg : Gl X x := by rfl) (hd : (x == ("__debug__" : Str)) = false := by decide +kernel) : PE3 X Z W (.Name x pos) (tc (.str z)) := by
  obtain ⟨t, hm⟩ := hm
  exact cg_ (v := .str z) hm ⟨t, rfl⟩ (fun _ _ => .str z) hg hd
end
section
variable {P : Program} {w : World} {K : PySem.W.Frag} {mg : Str → Option Value} {base : Heap} {N : List Str} {qual : Str} {scope : Scope} {f : Addr} {cdv : Value} {A : Around} {outer : List Env} {s : Shared} {H : Hp} {E : XK}
theorem tk_of : Takes (cxOf (L2.CX P w) P w K mg base N qual scope f cdv A outer s H E) (fun c d _ H' => E c d H') := takes_of rfl rfl rfl rfl
theorem pas_of : PassesOwn (model P w) (cxOf (L2.CX P w) P w K mg base N qual scope f cdv A outer s H E).A (cxOf (L2.CX P w) P w K mg base N qual scope f cdv A outer s H E).env (cxOf (L2.CX P w) P w K mg base N qual scope f cdv A outer s H E).xe :=
  passes_of (X := cxOf (L2.CX P w) P w K mg base N qual scope f cdv A outer s H E) (K := CX P w outer H s E) rfl
end
/-! ### loops by invariants -/
theorem forL_inv {t : Tg} {tb : TS3} {E : Ends3} {gd : Gp → Prop} {xs : List D} (I : Nat → St3 → Gp → Prop)
    (step : ∀ (k : Nat) (x : D) σ G (N : St3 → Gp → Prop), xs[k]? = some x → I k σ G → (∀ σ G, I (k + 1) σ G → N σ G) → gd G ∧ t.b x σ fun σ' => tb { E with nx := N, ct := N, bk := E.nx } σ' G)
    (fin : ∀ σ G, I xs.length σ G → gd G ∧ E.nx σ G) {σ : St3} {G : Gp} (h : I 0 σ G) : forL t tb E gd xs σ G := by
  have key : ∀ (n k : Nat) σ G, n + k = xs.length → I k σ G → forL t tb E gd (xs.drop k) σ G := by
    intro n
    induction n with
    | zero =>
      intro k σ G e h
      have e : k = xs.length := by omega
      subst e
      rw [List.drop_length]
      exact fin σ G h
    | succ n ih =>
      intro k σ G e h
      have lt : k < xs.length := by omega
      rw [List.drop_eq_getElem_cons lt]
      exact step k xs[k] σ G _ (by simp [lt]) h fun σ G h => ih (k + 1) σ G (by omega) h
  simpa using key xs.length 0 σ G (by omega) h
theorem whN_inv {tc : TT3} {tb : TS3} {D : Ends3} (I : Nat → St3 → Gp → Prop)
    (step : ∀ (n : Nat) σ G (N : St3 → Gp → Prop), I n σ G → (∀ m σ G, m < n → I m σ G → N σ G) → tc σ G (fun b G1 => if b = true then tb { D with nx := N, ct := N, bk := D.nx } σ G1 else D.nx σ G1) (fun x G1 => D.ex x σ G1))
    {n : Nat} {σ : St3} {G : Gp} (h : I n σ G) : swhile tc tb D σ G := by
  have key : ∀ (f n : Nat) σ G, n < f → I n σ G → whN tc tb D f σ G := by
    intro f
    induction f with
    | zero => intro n σ G l; omega
    | succ f ih =>
      intro n σ G l h
      exact step n σ G _ h fun m σ G l2 h2 => ih m σ G (by omega) h2
  exact ⟨n + 1, key (n + 1) n σ G (by omega) h⟩
end L3
namespace L3
open PySem PySem.Spec PyProof.Rows L2
open He (ga)
/-! ### for the plain part -/
theorem dn_refl {Q : QK} {d : D} {G : Gp} (h : Q d G) : dn Q d G := ⟨G, Sub.refl, h⟩
theorem ite_b {c : Bool} {A B : Prop} (h1 : c = true → A) (h2 : c = false → B) : if c = true then A else B := by
  cases c with
  | true => exact h1 rfl
  | false => exact h2 rfl
theorem sseq_cut {t u : TS3} {D : Ends3} {σ : St3} {G : Gp} (I : St3 → Gp → Prop) (h1 : ∀ N : St3 → Gp → Prop, (∀ σ G, I σ G → N σ G) → t { D with nx := N } σ G) (h2 : ∀ σ G, I σ G → u D σ G) : sseq t u D σ G := h1 _ h2
theorem sq_ref {G : Gp} {p : Addr} {xs : List D} (h : G p = some (.lst xs)) : sq G (.ref p) = some xs := by
  unfold sq; simp only; rw [h]
theorem lq_ref {G : Gp} {p : Addr} {xs : List D} (h : G p = some (.lst xs)) : lq G (.ref p) = some xs := by
  unfold lq; simp only; rw [h]
theorem mq_ref {G : Gp} {p : Addr} {xs : List D} (h : G p = some (.lst xs)) : mq G (.ref p) = some xs := by
  unfold mq; simp only; rw [h]
theorem isL_ref {G : Gp} {p : Addr} {xs : List D} (h : G p = some (.lst xs)) : isL (.ref p) G := ⟨xs, lq_ref h⟩
theorem ixn_ok {n : Nat} (k : Nat) (h : k < n) : ixN n (k : Int) = some k := by
  unfold ixN; simp; omega
theorem ixi_ok {n : Nat} {i : Int} (h0 : 0 ≤ i) (h : i < n) : ixN n i = some i.toNat := by
  have := ixn_ok (n := n) i.toNat (by omega)
  rwa [Int.toNat_of_nonneg h0] at this
theorem at_ok {α : Type} {xs : List α} {i : Int} (h0 : 0 ≤ i) (h : i < xs.length) : ∃ x, atI xs i = some x ∧ x ∈ xs := by
  refine ⟨xs[i.toNat]'(by omega), ?_, by simp⟩
  unfold atI
  rw [ixi_ok h0 h]
  simp
theorem at_get {α : Type} {xs : List α} {i : Int} {d : α} (h0 : 0 ≤ i) (h : xs[i.toNat]? = some d) : atI xs i = some d := by
  have : i.toNat < xs.length := (List.getElem?_eq_some_iff.mp h).1
  unfold atI
  rw [ixi_ok h0 (by omega)]
  exact h
theorem ne_new {G : Gp} {h p : Addr} {o : GO} (e : G h = some o) (n : G p = none) : p ≠ h := fun z => by rw [z, e] at n; cases n
/-- a known thing: isinstance can be asked -/
def kn (OC : List Str) : D → Bool
  | .ob c _ _ => OC.contains c
  | .ref _ => false
  | .ex _ => false
  | .exf _ _ _ => false
  | .fn _ => false
  | .lam _ _ _ _ _ => false
  | _ => true
def isiD (T : Bt) : D → Bool
  | .non => decide (T = .non)
  | .bl _ => decide (T = .bl) || decide (T = .int)
  | .int _ => decide (T = .int)
  | .str _ => decide (T = .str)
  | .tup _ => decide (T = .tup)
  | .fl _ => decide (T = .lst)
  | .sl _ => decide (T = .lst)
  | .emp => decide (T = .dic)
  | _ => false
theorem isi_use {OC : List Str} {T : Bt} {x : D} {G : Gp} {P : Bool → Prop} (k : kn OC x = true) (h : P (isiD T x)) : ∃ t b, tyD G x = some t ∧ isT OC T t = some b ∧ P b := by
  cases x <;> first | (simp [kn] at k; done) | skip
  all_goals first
    | (refine ⟨_, _, rfl, rfl, ?_⟩; cases T <;> exact h)
    | (refine ⟨_, false, rfl, ?_, h⟩; unfold isT; simp only; unfold kn at k; rw [if_pos k])
theorem isa_use {OC : List Str} {Ts : List Bt} {x : D} {G : Gp} {P : Bool → Prop} (k : kn OC x = true) (h : P (Ts.any fun T => isiD T x)) : ∃ t b, tyD G x = some t ∧ isA OC Ts t = some b ∧ P b := by
  cases x <;> first | (simp [kn] at k; done) | skip
  all_goals first
    | (refine ⟨_, _, rfl, rfl, ?_⟩
       have e : ∀ (U : Bt) (f : Bt → Bool), (∀ T, (decide (U = T) || (decide (U = .bl) && decide (T = .int))) = f T) → (Ts.any fun T => decide (U = T) || (decide (U = .bl) && decide (T = .int))) = Ts.any f := fun U f z => congrArg (Ts.any ·) (funext z)
       rw [e _ _ ?_]; exact h; intro T; cases T <;> rfl)
    | (refine ⟨_, false, rfl, ?_, ?_⟩
       · unfold isA; simp only; unfold kn at k; rw [if_pos k]
       · have : ∀ c ns xs, (Ts.any fun T => isiD T (.ob c ns xs)) = false := fun c ns xs => by simp [isiD]
         rw [this] at h; exact h)
theorem iso_use {OC : List Str} {C : Str} {x : D} {G : Gp} {P : Bool → Prop} (k : kn OC x = true) (h : P (match x with | .ob c _ _ => c == C | _ => false)) : ∃ t b, tyD G x = some t ∧ isO OC C t = some b ∧ P b := by
  cases x <;> first | (simp [kn] at k; done) | skip
  all_goals first
    | exact ⟨_, _, rfl, rfl, h⟩
    | (refine ⟨_, _, rfl, ?_, h⟩; unfold isO; simp only; unfold kn at k; rw [if_pos k])
theorem bls_map {α : Type} (xs : List α) (g : α → Bool) : blsD (xs.filterMap fun x => some (D.bl (g x))) = some (xs.map g) := by
  induction xs with
  | nil => rfl
  | cons x xs ih =>
    rw [List.filterMap_cons]
    simp only [blsD, ih, List.map_cons, Option.map_some]
end L3
namespace L3
open PySem PySem.Spec PyProof.Rows L2
open He (ga)
theorem fz_ins {G : Gp} {a : Addr} {c : Str} {fs : List (Str × D)} {Q : QK} (h : G a = some (.ins c fs)) (q : Q (.ob c (fs.map (·.1)) (fs.map (·.2))) (dl G a)) : fz (.ref a) G Q := by
  unfold fz; simp only; rw [h]; exact q
theorem fz_lst {G : Gp} {a : Addr} {xs : List D} {Q : QK} (h : G a = some (.lst xs)) (q : Q (.fl xs) (dl G a)) : fz (.ref a) G Q := by
  unfold fz; simp only; rw [h]; exact q
theorem cutD_len {α : Type} {xs : List α} {lo hi : Option Int} : (L3.cutD xs lo hi).length ≤ xs.length := by
  unfold L3.cutD
  rw [List.length_take, List.length_drop]; omega
theorem cutD_mem {α : Type} {xs : List α} {lo hi : Option Int} {x : α} (h : x ∈ L3.cutD xs lo hi) : x ∈ xs := by
  unfold L3.cutD at h
  exact List.mem_of_mem_drop (List.mem_of_mem_take h)
end L3
namespace L3
open PySem PySem.Spec PyProof.Rows L2
open He (ga)
theorem dvl_ints {K : K3} {G : Gp} {H : Hp} : ∀ ns : List Int, DvL K G H (ns.map D.int) (ns.map V.int)
  | [] => .nil
  | i :: r => .cons (.int i) (dvl_ints r)
/-- THE END of a law -/
theorem walk3 {l : PySem.W.OpenLaw} {n k : Nat} {q : Program} {loose : List Str} {XP : (Str → Option Value) → Heap → Prop} {YP : World → Heap → Prop} {d : DefRec} {x : Str} {sp : Sp3}
    (hn : l.most = some n) (hn2 : n ≤ sizeLine) (hdf : d.params.defaults = []) (hr : Room k callerA)
    (F : ∀ (w : World) (mg : Str → Option Value) (fa : Addr) (h : Heap), YP w h → h.Ns mainGlobals mg → mg d.name = some (.ref fa) →
      ∃ (K : PySem.W.Frag) (fd : FuncData), K.In h ∧ (∀ (s : Shared) (u : Value), BindsTo s fd ⟨[u], []⟩ [(x, u)]) ∧
        ∀ base : Heap, K.In base → base.Ns mainGlobals mg → FnOk l.prog w K mg base (L2.CX l.prog w) k fa fd [x] (liftSp ⟨K, Z0⟩ sp))
    (hsp : ∀ (ns : List Int) (Q : QK) (E : EK), ns.length ≤ n → (∀ G, Q (.bl true) G) → sp [.sl (ns.map D.int)] (fun _ => none) Q E) :
    PySem.W.WalkO q loose XP YP l.row.toRowW d [] (fun f vs => PySem.call f vs) := by
  refine Att.attach_call hn hdf fun w s₀ s₁ mg mb fa o pm cd doc a vs ns G Y ho hd hcd hmg hobj hints hlen hg => ?_
  obtain ⟨K, fd, KX, hb, hF⟩ := F w mg fa _ Y G.T.g hmg
  refine law_call KX G.T.g G.T.b G.T.builtins G.T.nolimit hg hobj hints (Nat.le_trans hlen hn2) hr hF hb (fun H hO hS => ?_) fun H e s' hx => ?_
  · have g0 : GH ⟨K, Z0⟩ (fun _ => none) H := fun a o h => by cases h
    exact ⟨[.sl (ns.map D.int)], fun _ => none, fun d _ => d = .bl true, fun _ _ => False, g0, .cons (.sl (SqF.of g0 hS rfl) (dvl_ints ns)) .nil, hsp ns _ _ hlen fun _ => rfl,
      fun d G' v H' h g r k => by subst h; cases r; rfl, fun _ _ _ _ _ z => z.elim⟩
  · obtain ⟨_, _, _, _, _, _, _, _, _, _, _, _, z⟩ := hx
    exact z
end L3
namespace L3
open PySem PySem.Spec PyProof.Rows L2
open He (ga)
/-! ### {k: v}, a dict that is only asked for its kind -/
def tdic1 (te : TE3) : TE3 := fun σ G Q E => ∀ p, G p = none → te σ (up G p (.dic [])) (fun _ G1 => G1 p = some (.dic []) ∧ Q .emp (dl G1 p)) E
section
variable {X : Cx} {Z : Zx} {W : WX} {e : Expr} {te : TE3} {pos p1 : Pos} {i : Int} {j : Nat}
theorem dic1_ (h : PE3 X Z W e te) : PE3 X Z W (.Dict [some (.Constant (.int i) j p1)] [e] pos) (tdic1 te) := PE.imp (pe_disp (pps_cons (tk := tC (.int i)) pe_int h pps_nil) rfl rfl (by simp) (by show 1 ≤ 15; decide)) fun σ H Q hq => by
  obtain ⟨σ3, G, Q3, E3, g, rs, h, q, x⟩ := hq
  intro p n
  have kp := Keep.newG (G := G) (H := H) (o := .dK []) (u := .dic []) n
  have gp := g.newG (p := p) (o := .dK []) (u := .dic []) n ⟨[], upd_same, .nil⟩
  refine ⟨σ3, up G p (.dic []), _, E3, gp, rs.keep g kp, h p (g.free n), fun d G1 v H1 ⟨e1, h1⟩ g1 r1 k1 => ?_, x.keep kp⟩
  obtain ⟨vs, e2, r2⟩ := g1 p _ e1
  cases r2
  refine ⟨e2, [(Sum.inl i, v)], rfl, by show 1 ≤ 15; decide, ?_⟩
  show Q (.ref p) (upd H1 p (.dK [(Sum.inl i, v)]))
  have g2 : GH (Cxk X Z) (up G1 p (.dic [(Sum.inl i, d)])) (upd H1 p (.dK [(Sum.inl i, v)])) := g1.set e1 ⟨[v], upd_same, .cons (r1.keep g1 (Keep.set e1)) .nil⟩
  have k2 : Keep G1 H1 (up G1 p (.dic [(Sum.inl i, d)])) (upd H1 p (.dK [(Sum.inl i, v)])) := Keep.set e1
  have e3 : dl (up G1 p (.dic [(Sum.inl i, d)])) p = dl G1 p := by
    funext b; unfold dl up; split
    · rfl
    · rfl
  have g3 : GH (Cxk X Z) (dl G1 p) (upd H1 p (.dK [(Sum.inl i, v)])) := by rw [← e3]; exact g2.sub Sub.dl
  have k3 : Keep (up G1 p (.dic [(Sum.inl i, d)])) (upd H1 p (.dK [(Sum.inl i, v)])) (dl G1 p) (upd H1 p (.dK [(Sum.inl i, v)])) := by rw [← e3]; exact Keep.sub Sub.dl
  exact q _ _ _ _ h1 g3 (.emp upd_same dl_same) (((kp.trans k1).trans k2).trans k3)
/-! ### list(range(n)) -/
def tlrg (m : Bool) (ta : TE3) : TE3 := fun σ G Q E => ta σ G (fun x G1 => ∃ n : Int, x = .int n ∧ RgOk 0 n ∧ outL m ((List.range n.toNat).map fun (i : Nat) => D.int i) G1 Q) E
theorem dvl_rg {K : K3} {G : Gp} {H : Hp} (n : Int) : DvL K G H ((List.range n.toNat).map fun (i : Nat) => D.int i) (rgV 0 n) := by
  unfold rgV
  rw [Int.sub_zero]
  have : ∀ l : List Nat, DvL K G H (l.map fun (i : Nat) => D.int i) (l.map fun i => V.int (0 + (i : Nat))) := by
    intro l
    induction l with
    | nil => exact .nil
    | cons a l ih =>
      refine .cons ?_ ih
      show Dv K G H (.int a) (.int (0 + (a : Int)))
      rw [Int.zero_add]
      exact .int _
  exact this _
theorem lrg_ (m : Bool) {a : Expr} {ta : TE3} {p p2 : Pos} (hc : X.calm = true) (hl : X.mg "list" = none) (hr : X.mg "range" = none) (ha : PE3 X Z W a ta) (hg : Gl X "list" := by rfl) (hg2 : Gl X "range" := by rfl)
    (na : starEach [.Call (.Name "range" p2) [a] [] p1] X.env = (false, eval (.Call (.Name "range" p2) [a] [] p1) X.env) :: starEach [] X.env := by rfl) (na2 : starEach [a] X.env = (false, eval a X.env) :: starEach [] X.env := by rfl) :
    PE3 X Z W (.Call (.Name "list" p) [.Call (.Name "range" p2) [a] [] p1] [] pos) (tlrg m ta) := PE.imp (pe_listRg hc hg hl (prg_1 hg2 hr ha na2) na) fun σ H Q hq => by
  obtain ⟨σ3, G, Q3, E3, g, rs, h, q, x⟩ := hq
  refine ⟨σ3, G, _, E3, g, rs, h, fun d G1 v H1 ⟨n, e1, ok, h1⟩ g1 r1 k1 => ?_, x⟩
  subst e1
  cases r1
  exact ⟨n, rfl, ok, fun p np => outL_ok m g1 (dvl_rg n) (q.keep k1) h1 np⟩
end
/-! ### a[i], b[j] = e -/
def sswp (o1 i1 o2 i2 te : TE3) (t u : QS) : TS3 := fun E σ G => te σ G (fun x G1 => ∃ d1 d2, x = .tup [d1, d2] ∧
  o1 σ G1 (fun o G2 => i1 σ G2 (fun i G3 => t o i d1 G3 fun G4 => o2 σ G4 (fun o G5 => i2 σ G5 (fun i G6 => u o i d2 G6 fun G7 => E.nx σ G7) (fun x G1 => E.ex x σ G1)) (fun x G1 => E.ex x σ G1)) (fun x G1 => E.ex x σ G1)) (fun x G1 => E.ex x σ G1)) (fun x G1 => E.ex x σ G1)
section
variable {X : Cx} {Z : Zx} {W : WX} {a1 b1 a2 b2 e : Expr} {o1 i1 o2 i2 te : TE3} {t u : QS} {pt1 pt2 pt pos : Pos} {k : Nat}
theorem swp_ (hc : X.calm = true) (hs : PSet3 X Z t) (hs2 : PSet3 X Z u) (ho : PE3 X Z W a1 o1) (hi : PE3 X Z W b1 i1) (ho2 : PE3 X Z W a2 o2) (hi2 : PE3 X Z W b2 i2) (he : PE3 X Z W e te)
    (ha : ∀ v, assign (.Subscript a1 b1 pt1) X.env v = (do
      let ov ← holding [v] (eval a1 X.env)
      let iv ← holding [v, ov] (eval b1 X.env)
      standAt pt1
      holding [v, ov, iv] (setItem ov iv v)
      release [v, ov, iv] []) := by intro _; rfl)
    (ha2 : ∀ v, assign (.Subscript a2 b2 pt2) X.env v = (do
      let ov ← holding [v] (eval a2 X.env)
      let iv ← holding [v, ov] (eval b2 X.env)
      standAt pt2
      holding [v, ov, iv] (setItem ov iv v)
      release [v, ov, iv] []) := by intro _; rfl)
    (hsw : swapsWithSole [.Tuple [.Subscript a1 b1 pt1, .Subscript a2 b2 pt2] k pt] e pos.line X.env = pure false := by rfl) (hw : swappedStores [.Tuple [.Subscript a1 b1 pt1, .Subscript a2 b2 pt2] k pt] e X.env = pure none := by rfl)
    (h1 : (assignEach [.Tuple [.Subscript a1 b1 pt1, .Subscript a2 b2 pt2] k pt] X.env).map (·.2) = [assign (.Tuple [.Subscript a1 b1 pt1, .Subscript a2 b2 pt2] k pt) X.env] := by rfl)
    (hn : (assignEach [.Subscript a1 b1 pt1, .Subscript a2 b2 pt2] X.env).length = 2 := by rfl) (hst : (assignEach [.Subscript a1 b1 pt1, .Subscript a2 b2 pt2] X.env).findIdx? (·.1) = none := by rfl)
    (hs3 : (assignEach [.Subscript a1 b1 pt1, .Subscript a2 b2 pt2] X.env).map (·.2) = assign (.Subscript a1 b1 pt1) X.env :: (assignEach [.Subscript a2 b2 pt2] X.env).map (·.2) := by rfl)
    (hs4 : (assignEach [.Subscript a2 b2 pt2] X.env).map (·.2) = assign (.Subscript a2 b2 pt2) X.env :: (assignEach [] X.env).map (·.2) := by rfl) :
    PS3 X Z W (.Assign [.Tuple [.Subscript a1 b1 pt1, .Subscript a2 b2 pt2] k pt] e pos) (sswp o1 i1 o2 i2 te t u) := by
  obtain ⟨r, hs, kk⟩ := hs
  obtain ⟨r2, hs2, kk2⟩ := hs2
  refine PS.imp (ps_asg he (pg_tup (n := 2) hc (pgs_cons (pg_sub ho hi hs ha) (pgs_cons (pg_sub ho2 hi2 hs2 ha2) pgs_nil hs4) hs3) hn hst) hsw hw h1) fun D σ H h => ?_
  obtain ⟨σ3, G, D3, g, rs, h, d⟩ := h
  refine ⟨σ3, G, _, _, g, rs, h, fun x G1 v H1 ⟨d1, d2, ex, h1⟩ g1 rx k1 => ?_, d.exk g rs⟩
  subst ex
  cases rx with
  | tup s r =>
  cases r with
  | cons r1 r =>
  cases r with
  | cons r2' r =>
  cases r
  rename_i a v1 v2
  refine ⟨a, [v1, v2], rfl, s, rfl, v1, [v2], rfl, ?_⟩
  have rsA := rs.keep g k1
  have dA := d.keep k1
  refine ⟨σ3, G1, _, _, g1, rsA, h1, fun o G2 ov H2 h2 g2 ro k2 => ?_, dA.exk g1 rsA⟩
  have rsB := rsA.keep g1 k2
  have dB := dA.keep k2
  refine ⟨σ3, G2, _, _, g2, rsB, h2, fun i G3 iv H3 h3 g3 ri k3 => ?_, dB.exk g2 rsB⟩
  have rsC := rsB.keep g2 k3
  have dC := dB.keep k3
  have kC := (k1.trans k2).trans k3
  refine kk G3 H3 o i d1 ov iv v1 _ _ g3 (ro.keep g2 k3) ri ((r1.keep g1 k2).keep g2 k3) h3 fun G4 H4 h4 g4 k4 => ?_
  have rsD := rsC.keep g3 k4
  have dD := dC.keep k4
  refine ⟨v2, [], rfl, σ3, G4, _, _, g4, rsD, h4, fun o' G5 ov' H5 h5 g5 ro' k5 => ?_, dD.exk g4 rsD⟩
  have rsE := rsD.keep g4 k5
  have dE := dD.keep k5
  refine ⟨σ3, G5, _, _, g5, rsE, h5, fun i' G6 iv' H6 h6 g6 ri' k6 => ?_, dE.exk g5 rsE⟩
  have rsF := rsE.keep g5 k6
  have dF := dE.keep k6
  refine kk2 G6 H6 o' i' d2 ov' iv' v2 _ _ g6 (ro'.keep g5 k6) ri' (((((r2'.keep g1 k2).keep g2 k3).keep g3 k4).keep g4 k5).keep g5 k6) h6 fun G7 H7 h7 g7 k7 => ?_
  exact ⟨rfl, (dF.keep k7).nx _ _ _ _ h7 g7 (rsF.keep g6 k7) Keep.refl⟩
end
end L3
namespace L3
open PySem PySem.Spec PyProof.Rows L2
open He (ga)
/-- a comprehension whose turns change G -/
theorem lc_inv {t : Tg} {tt : TT3} {te : TE3} {gd : Gp → Prop} {σ : St3} {Q : QK} {G : Gp} {xs : List D} (I : Nat → List D → Gp → Prop) (l : xs.length ≤ sizeLine)
    (step : ∀ (k : Nat) (x : D) (acc : List D) (G : Gp) (p : Addr) (N : D → Gp → Prop) (N' : Gp → Prop), xs[k]? = some x → G p = none → I k acc G → (∀ d G3, G3 p = none → I (k + 1) (acc ++ [d]) G3 → N d (up G3 p (.lst acc))) → (∀ G3, G3 p = none → I (k + 1) acc G3 → N' (up G3 p (.lst acc))) →
      gd (up G p (.lst acc)) ∧ t.b x σ fun σ' => tt σ' (up G p (.lst acc)) (fun b G1 => if b = true then te σ' G1 N (fun _ _ => False) else N' G1) (fun _ _ => False))
    (fin : ∀ acc G p, G p = none → I xs.length acc G → gd (up G p (.lst acc)) ∧ Q (.fl acc) G) (h : I 0 [] G) : ∀ p, G p = none → lcL t tt te gd σ p (lcEnd false p Q) xs (up G p (.lst [])) := by
  intro p np
  have key : ∀ (n k : Nat) (acc : List D) (G : Gp), n + k = xs.length → acc.length ≤ k → G p = none → I k acc G → lcL t tt te gd σ p (lcEnd false p Q) (xs.drop k) (up G p (.lst acc)) := by
    intro n
    induction n with
    | zero =>
      intro k acc G e ha np h
      have e : k = xs.length := by omega
      subst e
      rw [List.drop_length]
      obtain ⟨h1, h2⟩ := fin acc G p np h
      exact ⟨h1, acc, up_same, by rw [dl_up np]; exact h2⟩
    | succ n ih =>
      intro k acc G e ha np h
      have lt : k < xs.length := by omega
      rw [List.drop_eq_getElem_cons lt]
      refine step k xs[k] acc G p _ _ (by simp [lt]) np h (fun d G3 n3 h3 => ⟨acc, up_same, by omega, ?_⟩) fun G3 n3 h3 => ?_
      · rw [up_up]
        exact ih (k + 1) (acc ++ [d]) G3 (by omega) (by simp; omega) n3 h3
      · exact ih (k + 1) acc G3 (by omega) (by omega) n3 h3
  simpa using key xs.length 0 [] G (by omega) (by simp) np h
end L3
namespace L3
open PySem PySem.Spec PyProof.Rows L2
open He (ga)
/-! ### try with clauses, some with a name -/
abbrev HL := List (Value × Option Nat × (Addr → Value → Option Addr → TS))
def endAs (D : Ends) (i : Nat) : Ends := { nx := fun σ' H' => D.nx (σ'.set i none) H', rt := D.rt, bk := fun σ' H' => D.bk (σ'.set i none) H', ct := fun σ' H' => D.ct (σ'.set i none) H' }
def endOf (D : Ends) : Option Nat → Ends
  | none => D
  | some i => endAs D i
def slotOf (σ : St) (a : Addr) : Option Nat → St
  | none => σ
  | some i => σ.set i (some (.ref a))
def wG (K : PySem.W.Frag) (Wout : WX) (D : Ends) : HL → WX
  | [] => Wout
  | (c, oi, ts) :: r => fun cls d σ H => ∃ b, PySem.W.exmOne K cls c = some b ∧ (b = true → ∀ a, H a = none → ts a cls d (endOf D oi) (slotOf σ a oi) H) ∧ (b = false → wG K Wout D r cls d σ H)
inductive HdsG (X : Cx) : List ExceptHandler → HL → Prop
  | nil : HdsG X [] []
  | cons {x : Str} {c : Value} {ts : Addr → Value → Option Addr → TS} {b₀ : Stmt} {suite : List Stmt} {np pos' : Pos} {hds : List ExceptHandler} {l : HL} (hc : Names X x c)
      (hsu : ∀ (a : Addr) (oe : Obj) (cls : Value) (d : Option Addr) (pn : List (Addr × Obj)), Zc cls d oe → (∃ vs, oe.data = .fields vs) → PSs (X.suite a ((a, oe) :: pn)) (b₀ :: suite) (ts a cls d)) (r : HdsG X hds l) :
      HdsG X (.ExceptHandler (some (.Name x np)) none (b₀ :: suite) pos' :: hds) ((c, none, ts) :: l)
  | consA {x n : Str} {i : Nat} {c : Value} {ts : Addr → Value → Option Addr → TS} {b₀ : Stmt} {suite : List Stmt} {np pos' : Pos} {hds : List ExceptHandler} {l : HL} (hc : Names X x c) (hi : X.N[i]? = some n) (hln : X.env.kindOf n = some .local)
      (hsu : ∀ (a : Addr) (oe : Obj) (cls : Value) (d : Option Addr) (pn : List (Addr × Obj)), Zc cls d oe → (∃ vs, oe.data = .fields vs) → PSs (X.suite a ((a, oe) :: pn)) (b₀ :: suite) (ts a cls d)) (r : HdsG X hds l) :
      HdsG X (.ExceptHandler (some (.Name x np)) (some n) (b₀ :: suite) pos' :: hds) ((c, some i, ts) :: l)
section
variable {X : Cx} {body : List Stmt} {h₀ : ExceptHandler} {hds : List ExceptHandler} {l : HL} {pos : Pos} {tb : WX → TS} {Wout : WX}
theorem ps_try_g (hs : X.stack = X.env :: X.outer) (hf : X.env.frame = some X.env.locals) (hN : X.N.Nodup) (tk : Takes X Wout)
    (hb : ∀ (W : WX) (pn : List (Addr × Obj)) (xe : Value → Shared → Prop), Takes (X.tr pn xe) W → PassesOwn (model X.prog X.w) X.A X.env xe → PSs (X.tr pn xe) body (tb W))
    (hh : HdsG X (h₀ :: hds) l) : PS X (.Try body (h₀ :: hds) [] [] pos) (fun D σ H => tb (wG X.K Wout D l) D σ H) := by
  refine ⟨fun pins s σ H D I h => ?_⟩
  have ok := I.ok
  have hfr : X.A.frames = some (X.env :: X.outer) := by rw [ok.frames, hs]
  refine wpAny_Try_except ?_
  refine wpAny_mono ((hb (wG X.K Wout D l) (X.pn ++ pins) (fun e s₁ => wpAny (model X.prog X.w) X.A (noteFrame e X.env) (fun _ s₂ => wpAny (model X.prog X.w) X.A (setFlight e none) (fun _ s₃ =>
    wpAny (model X.prog X.w) X.A (handleBy e X.env (h₀ :: hds)) (SP X pins D) X.xe s₃) X.xe s₂) X.xe s₁) (fun u s' xx => ?_) PassesOwn.looking).run [] s σ H D (I.toTry _) h) (fun f s1 hsp => ?_) (fun e s1 he => he)
  · obtain ⟨a, B, sI, pins', σ', H', cls, d, rfl, J', nb, up, sky, na, os, ag, w⟩ := xx
    have J : Inv X pins σ' H' sI := J'.ofTry ok
    have sky' : Sky B (X.env :: X.outer) a (Zc cls d) X.env.locals s'.heap := by rw [← hs]; exact sky
    show wpAny (model X.prog X.w) X.A (noteFrame (.ref a) X.env) _ _ _
    refine Sky.land Zc.steady hfr hf sky' fun h3 fl3 up3 => ?_
    have J3 : Inv X pins σ' H' { s' with heap := h3 } := J.landed nb fl3.1 (up.trans up3) os ag
    obtain ⟨oe3, vs3, he3, hz3, hd3⟩ := fl3.there
    have notFr : ∀ {h : Heap} {o : Obj} {vs : Array Value}, h.FunFrames B (X.env :: X.outer) → h.get? a = some o → o.data = .fields vs → a ∉ frs (X.env :: X.outer) := fun {h o vs} ff e dd hm => by
      obtain ⟨_, o', e', hnf⟩ := ff.mem hm
      rw [e] at e'; cases e'
      exact hnf _ dd
    have nfr := notFr fl3.2.2.1 he3 hd3
    have nL : a ≠ X.env.locals := fun z => nfr (List.mem_filterMap.mpr ⟨X.env, List.mem_cons_self, by rw [hf, z]⟩)
    have nF : a ∉ X.fs := fun hm => by
      obtain ⟨e, he, q⟩ := List.mem_filterMap.mp hm
      exact nfr (List.mem_filterMap.mpr ⟨e, List.mem_cons_of_mem _ he, q⟩)
    have S3 := J3.suite he3 hd3 na nL nF
    have LT : PySem.W.Looks (model X.prog X.w) h3 (typeOf (.ref a)) cls := fun A Q E s k q => wpAny_typeOf_ref (k _ _ he3) (by rw [hz3.1]; exact q)
    have test : ∀ {x : Str} {c : Value} {np : Pos} {Q : Value → Shared → Prop} {E : Value → Shared → Prop}, Names X x c → Q c { s' with heap := h3 } → wpAny (model X.prog X.w) (X.A.mark (some (.ref a))) (eval (.Name x np) X.env) Q E { s' with heap := h3 } := fun {x c np Q E} hc q => by
      obtain ⟨hg, hdbg, hm | ⟨hm, hv, hnn⟩⟩ := hc
      · exact ld_glob (X := X.suite a ((a, oe3) :: (X.pn ++ pins))) S3 hg hm q hdbg
      · exact ld_blt (X := X.suite a ((a, oe3) :: (X.pn ++ pins))) S3 hg hm hv q hnn hdbg
    have go : ∀ {hds' : List ExceptHandler} {l' : HL}, HdsG X hds' l' → wG X.K Wout D l' cls d σ' H' →
        wpAny (model X.prog X.w) X.A (handleBy (.ref a) X.env hds') (SP X pins D) X.xe { s' with heap := h3 } := by
      intro hds' l' hk
      induction hk with
      | nil =>
        intro w
        refine wpAny_handleBy_nil ?_
        obtain ⟨k1, k2, k3, oe, vs, T, oT, ts', he, hz, hd, h1, hr⟩ := id fl3
        unfold PySem.passOn
        refine wpAny_bind (wpAny_field he hd h1 ?_)
        rw [if_neg (show ¬ ((Value.ref T == Value.none) = true) from by simp)]
        have fin : wpAny (model X.prog X.w) X.A (setFlight (.ref a) X.env.frame) (fun _ s4 => wpAny (model X.prog X.w) X.A (throw (.ref a) : Sem Flow) (SP X pins D) X.xe s4) X.xe { s' with heap := h3 } := by
          rw [hf]
          refine HandSPX.setFlight_upZ fl3 fun h4 hh4 up4 => wpAny_throw (tk _ _ ?_)
          exact ⟨a, B, sI, pins, σ', H', cls, d, rfl, J, nb, (up.trans up3).trans up4, .inr (.inr (by rw [hs]; exact hh4)), na, os, ag, w⟩
        first
          | exact wpAny_bind (wpAny_pure (wpAny_bind fin))
          | exact wpAny_bind fin
      | @cons x c ts b₀ suite np pos' hds2 l2 hc hsu r ih =>
        intro w
        obtain ⟨b, hb1, hyes, hno⟩ := w
        refine wpAny_handleBy_cons (codeAny_handlers_test ?_) (by intro q; cases q)
        have LM := PySem.W.exm_one (M := model X.prog X.w) (J3.kIn) LT hb1
        refine test hc (LM.here ?_)
        cases b with
        | true =>
          refine codeAny_handlers_suite ?_
          refine HandSPX.lands_againZ fl3 fun h4 fl4 up4 => ?_
          have J4 : Inv X pins σ' H' { s' with heap := h4 } := J.landed nb fl4.1 ((up.trans up3).trans up4) os ag
          obtain ⟨oe4, vs4, he4, hz4, hd4⟩ := fl4.there
          have S4 := J4.suite he4 hd4 na nL nF
          refine wpAny_mono ((hsu a oe4 cls d (X.pn ++ pins) hz4 ⟨_, hd4⟩).run [] _ _ H' _ S4 (hyes rfl a na)) (fun f s6 hsp => ?_) (fun _ _ z => False.elim z)
          cases f with
          | next =>
            obtain ⟨σ6, H6, S6, q6⟩ := hsp
            exact ⟨_, _, S6.unsuite ok, q6⟩
          | brk =>
            obtain ⟨σ6, H6, S6, q6⟩ := hsp
            exact ⟨_, _, S6.unsuite ok, q6⟩
          | cont =>
            obtain ⟨σ6, H6, S6, q6⟩ := hsp
            exact ⟨_, _, S6.unsuite ok, q6⟩
          | ret u =>
            obtain ⟨v6, σ6, H6, S6, r6, q6⟩ := hsp
            exact ⟨_, _, _, S6.unsuite ok, r6, q6⟩
        | false =>
          show wpAny _ X.A (handleBy (.ref a) X.env hds2) _ _ _
          exact ih (hno rfl)
      | @consA x n i c ts b₀ suite np pos' hds2 l2 hc hi hln hsu r ih =>
        intro w
        obtain ⟨b, hb1, hyes, hno⟩ := w
        have hloc : Loc X.env.scope n := .inl hln
        refine wpAny_handleBy_cons (codeAny_handlers_test ?_) (by intro q; cases q)
        have LM := PySem.W.exm_one (M := model X.prog X.w) (J3.kIn) LT hb1
        refine test hc (LM.here ?_)
        cases b with
        | true =>
          refine codeAny_handlers_suite_as ?_
          refine HandSPX.lands_againZ fl3 fun h4 fl4 up4 => ?_
          have J4 : Inv X pins σ' H' { s' with heap := h4 } := J.landed nb fl4.1 ((up.trans up3).trans up4) os ag
          obtain ⟨oe4, vs4, he4, hz4, hd4⟩ := fl4.there
          have S4 := J4.suite he4 hd4 na nL nF
          refine store_ok (X := X.suite a ((a, oe4) :: (X.pn ++ pins))) (v := .ref a) S4 hN hi hloc rfl (fun s5 S5 => ?_) (.inr hln)
          refine wpAny_mono ((hsu a oe4 cls d (X.pn ++ pins) hz4 ⟨_, hd4⟩).run [] s5 _ H' _ S5 (hyes rfl a na)) (fun f s6 hsp => ?_) (fun _ _ z => False.elim z)
          have end_ : ∀ {σ6 : St} {H6 : Hp} {Q : Shared → Prop}, Inv (X.suite a ((a, oe4) :: (X.pn ++ pins))) [] σ6 H6 s6 → (∀ s7, Inv X pins (σ6.set i none) H6 s7 → Q s7) →
              wpAny (model X.prog X.w) X.A (do bindName X.env n .none; unbindBehindTheSuite X.env n pos') (fun _ s7 => Q s7) X.xe s6 := fun {σ6 H6 Q} S6 hq => gone_ok (S6.unsuite ok) hN hi hln hq
          cases f with
          | next =>
            obtain ⟨σ6, H6, S6, q6⟩ := hsp
            exact end_ S6 fun s7 J7 => ⟨_, _, J7, q6⟩
          | brk =>
            obtain ⟨σ6, H6, S6, q6⟩ := hsp
            exact end_ S6 fun s7 J7 => ⟨_, _, J7, q6⟩
          | cont =>
            obtain ⟨σ6, H6, S6, q6⟩ := hsp
            exact end_ S6 fun s7 J7 => ⟨_, _, J7, q6⟩
          | ret u =>
            obtain ⟨v6, σ6, H6, S6, r6, q6⟩ := hsp
            exact end_ S6 fun s7 J7 => ⟨_, _, _, J7, r6, q6⟩
        | false =>
          show wpAny _ X.A (handleBy (.ref a) X.env hds2) _ _ _
          exact ih (hno rfl)
    exact go hh w
  · cases f with
    | next =>
      obtain ⟨σ', H', J', q⟩ := hsp
      exact wpAny_execs_nil ⟨σ', H', J'.ofTry ok, q⟩
    | brk =>
      obtain ⟨σ', H', J', q⟩ := hsp
      exact ⟨σ', H', J'.ofTry ok, q⟩
    | cont =>
      obtain ⟨σ', H', J', q⟩ := hsp
      exact ⟨σ', H', J'.ofTry ok, q⟩
    | ret u =>
      obtain ⟨v, σ', H', J', r, q⟩ := hsp
      exact ⟨v, σ', H', J'.ofTry ok, r, q⟩
end
/-! ### values without the held exception -/
mutual
def xf : D → Bool
  | .ex _ => false
  | .exf _ _ _ => false
  | .tup xs => xfL xs
  | .fl xs => xfL xs
  | .sl xs => xfL xs
  | .ob _ _ xs => xfL xs
  | .lam _ _ _ xs _ => xfL xs
  | _ => true
def xfL : List D → Bool
  | [] => true
  | x :: xs => xf x && xfL xs
end
def xfO : GO → Bool
  | .lst xs => xfL xs
  | .dic kvs => xfL (kvs.map (·.2))
  | .ins _ fs => xfL (fs.map (·.2))
  | .tb _ => true
def GX (G : Gp) : Prop := ∀ a o, G a = some o → xfO o = true
def SX (σ : St3) : Prop := ∀ d, some d ∈ σ → xf d = true
section
variable {K : PySem.W.Frag} {Z Z' : Zx} {G : Gp} {H : Hp}
mutual
theorem Dv.toZ : ∀ {d : D} {v : V}, xf d = true → Dv ⟨K, Z⟩ G H d v → Dv ⟨K, Z'⟩ G H d v
  | _, _, _, .non => .non
  | _, _, _, .bl b => .bl b
  | _, _, _, .int b => .int b
  | _, _, _, .str b => .str b
  | _, _, h, .tup s r => .tup s (DvL.toZ (by simpa [xf] using h) r)
  | _, _, h, .fl s n r => .fl s n (DvL.toZ (by simpa [xf] using h) r)
  | _, _, h, .sl s r => .sl s (DvL.toZ (by simpa [xf] using h) r)
  | _, _, h, .ob s l n r => .ob s l n (DvL.toZ (by simpa [xf] using h) r)
  | _, _, _, .emp s n => .emp s n
  | _, _, _, .ref a => .ref a
  | _, _, h, .ex _ _ => by simp [xf] at h
  | _, _, _, .fn x => .fn x
  | _, _, h, .lam s n r => .lam s n (DvL.toZ (by simpa [xf] using h) r)
  | _, _, h, .exf _ _ _ _ => by simp [xf] at h
theorem DvL.toZ : ∀ {d : List D} {v : List V}, xfL d = true → DvL ⟨K, Z⟩ G H d v → DvL ⟨K, Z'⟩ G H d v
  | _, _, _, .nil => .nil
  | _, _, h, .cons r t => .cons (Dv.toZ (by simp [xfL] at h; exact h.1) r) (DvL.toZ (by simp [xfL] at h; exact h.2) t)
end
mutual
theorem Dv.xf0 : ∀ {d : D} {v : V}, Dv ⟨K, Z0⟩ G H d v → xf d = true
  | _, _, .non => rfl
  | _, _, .bl b => rfl
  | _, _, .int b => rfl
  | _, _, .str b => rfl
  | _, _, .tup s r => by simpa [xf] using DvL.xf0 r
  | _, _, .fl s n r => by simpa [xf] using DvL.xf0 r
  | _, _, .sl s r => by simpa [xf] using DvL.xf0 r
  | _, _, .ob s l n r => by simpa [xf] using DvL.xf0 r
  | _, _, .emp s n => rfl
  | _, _, .ref a => rfl
  | _, _, .ex h _ => by cases h
  | _, _, .fn x => rfl
  | _, _, .lam s n r => by simpa [xf] using DvL.xf0 r
  | _, _, .exf h _ _ _ => by cases h
theorem DvL.xf0 : ∀ {d : List D} {v : List V}, DvL ⟨K, Z0⟩ G H d v → xfL d = true
  | _, _, .nil => rfl
  | _, _, .cons r t => by simp [xfL, Dv.xf0 r, DvL.xf0 t]
end
theorem GH.toZ (x : GX G) (g : GH ⟨K, Z⟩ G H) : GH ⟨K, Z'⟩ G H := fun a o e => by
  have q := g a o e
  have xo := x a o e
  cases o with
  | lst xs => obtain ⟨vs, h, r⟩ := q; exact ⟨vs, h, r.toZ xo⟩
  | dic kvs => obtain ⟨vs, h, r⟩ := q; exact ⟨vs, h, r.toZ xo⟩
  | ins c fs => obtain ⟨dx, vs, h, r⟩ := q; exact ⟨dx, vs, h, r.toZ xo⟩
  | tb c => exact q
theorem GH.gx (g : GH ⟨K, Z0⟩ G H) : GX G := fun a o e => by
  have q := g a o e
  cases o with
  | lst xs => obtain ⟨vs, h, r⟩ := q; exact r.xf0
  | dic kvs => obtain ⟨vs, h, r⟩ := q; exact r.xf0
  | ins c fs => obtain ⟨dx, vs, h, r⟩ := q; exact r.xf0
  | tb c => rfl
theorem Rs.toZ {σ3 : St3} {σ : St} (x : SX σ3) (r : Rs ⟨K, Z⟩ G H σ3 σ) : Rs ⟨K, Z'⟩ G H σ3 σ := ⟨r.1, fun i d e => by
  obtain ⟨v, h1, h2⟩ := r.2 i d e
  exact ⟨v, h1, h2.toZ (x d (List.mem_of_getElem? e))⟩⟩
theorem Rs.sx {σ3 : St3} {σ : St} (r : Rs ⟨K, Z0⟩ G H σ3 σ) : SX σ3 := fun d m => by
  obtain ⟨i, e⟩ := List.mem_iff_getElem?.mp m
  obtain ⟨v, _, h⟩ := r.2 i d e
  exact h.xf0
end
/-! ### try, lifted -/
def exD (x : X3) : D := match x.f with
  | none => .ex x.c
  | some (f, y) => .exf x.c f y
def setO (σ : St3) (d : Option D) : Option Nat → St3
  | none => σ
  | some i => σ.set i d
/-- how a suite ends -/
def suEnd (D : Ends3) (oi : Option Nat) : Ends3 where
  nx := fun σ G => GX G ∧ SX (setO σ none oi) ∧ D.nx (setO σ none oi) G
  rt := fun d G => GX G ∧ xf d = true ∧ D.rt d G
  bk := fun σ G => GX G ∧ SX (setO σ none oi) ∧ D.bk (setO σ none oi) G
  ct := fun σ G => GX G ∧ SX (setO σ none oi) ∧ D.ct (setO σ none oi) G
structure Hd3 where
  h : Str
  oi : Option Nat
  ts : X3 → TS3
/-- exm c h: does the clause for h take an exception of the class c -/
def shand (exm : Str → Str → Option Bool) (D : Ends3) : List Hd3 → X3 → St3 → Gp → Prop
  | [], x, σ, G => D.ex x σ G
  | k :: r, x, σ, G => ∃ b, exm x.c k.h = some b ∧ if b = true then GX G → SX σ → k.ts x (suEnd D k.oi) (setO σ (some (exD x)) k.oi) G else shand exm D r x σ G
def stry (exm : Str → Str → Option Bool) (tb : TS3) (ks : List Hd3) : TS3 := fun D σ G => tb { D with ex := shand exm D ks } σ G
def ExmF (K : PySem.W.Frag) (exm : Str → Str → Option Bool) : Prop := ∀ c h b, exm c h = some b → PySem.W.exmOne K (.ref (ga K c)) (.ref (ga K h)) = some b
/-- the clauses are walked -/
inductive Hds3 (X : Cx) : List ExceptHandler → List Hd3 → Prop
  | nil : Hds3 X [] []
  | cons {x : Str} {ts : X3 → TS3} {b₀ : Stmt} {suite : List Stmt} {np pos' : Pos} {hds : List ExceptHandler} {l : List Hd3} (hc : Names X x (.ref (ga X.K x)))
      (hsu : ∀ (a : Addr) (oe : Obj) (d : Option Addr) (pn : List (Addr × Obj)) (e : X3), Zc (.ref (ga X.K e.c)) d oe → (∃ vs, oe.data = .fields vs) → PSs3 (X.suite a ((a, oe) :: pn)) ⟨a, .ref (ga X.K e.c), d⟩ W0 (b₀ :: suite) (ts e)) (r : Hds3 X hds l) :
      Hds3 X (.ExceptHandler (some (.Name x np)) none (b₀ :: suite) pos' :: hds) (⟨x, none, ts⟩ :: l)
  | consA {x n : Str} (i : Nat) {ts : X3 → TS3} {b₀ : Stmt} {suite : List Stmt} {np pos' : Pos} {hds : List ExceptHandler} {l : List Hd3} (hc : Names X x (.ref (ga X.K x))) (hi : X.N[i]? = some n) (hln : X.env.kindOf n = some .local)
      (hsu : ∀ (a : Addr) (oe : Obj) (d : Option Addr) (pn : List (Addr × Obj)) (e : X3), Zc (.ref (ga X.K e.c)) d oe → (∃ vs, oe.data = .fields vs) → PSs3 (X.suite a ((a, oe) :: pn)) ⟨a, .ref (ga X.K e.c), d⟩ W0 (b₀ :: suite) (ts e)) (r : Hds3 X hds l) :
      Hds3 X (.ExceptHandler (some (.Name x np)) (some n) (b₀ :: suite) pos' :: hds) (⟨x, some i, ts⟩ :: l)
/-- a suite's reading: whatever exception of whatever class -/
def suL2 (K : PySem.W.Frag) (ts : X3 → TS3) : Addr → Value → Option Addr → TS := fun a cls d D σ H => ∃ e : X3, cls = .ref (ga K e.c) ∧ liftS ⟨K, ⟨a, cls, d⟩⟩ W0 (ts e) D σ H
def hl2 (K : PySem.W.Frag) : List Hd3 → HL
  | [] => []
  | k :: r => (.ref (ga K k.h), k.oi, suL2 K k.ts) :: hl2 K r
section
variable {X : Cx}
theorem su_run {ts : X3 → TS3} {body : List Stmt} {a : Addr} {oe : Obj} {cls : Value} {d : Option Addr} {pn : List (Addr × Obj)} (hz : Zc cls d oe) (hf : ∃ vs, oe.data = .fields vs)
    (hsu : ∀ (a : Addr) (oe : Obj) (d : Option Addr) (pn : List (Addr × Obj)) (e : X3), Zc (.ref (ga X.K e.c)) d oe → (∃ vs, oe.data = .fields vs) → PSs3 (X.suite a ((a, oe) :: pn)) ⟨a, .ref (ga X.K e.c), d⟩ W0 body (ts e)) :
    PSs (X.suite a ((a, oe) :: pn)) body (suL2 X.K ts a cls d) := ⟨fun pins s σ H D I h => by
  obtain ⟨e, rfl, h⟩ := h
  exact (hsu a oe d pn e hz hf).run pins s σ H D I h⟩
theorem hds_of : ∀ {hds : List ExceptHandler} {ks : List Hd3}, Hds3 X hds ks → HdsG X hds (hl2 X.K ks)
  | _, _, .nil => .nil
  | _, _, .cons hc hsu r => .cons hc (fun _ _ _ _ _ hz hf => su_run hz hf hsu) (hds_of r)
  | _, _, .consA i hc hi hln hsu r => .consA hc hi hln (fun _ _ _ _ _ hz hf => su_run hz hf hsu) (hds_of r)
theorem exD_dv {K : PySem.W.Frag} {G : Gp} {H : Hp} {x : X3} {c : Value} {d : Option Addr} {a : Addr} (h : Xv ⟨K, Z0⟩ G H x c d) : Dv ⟨K, ⟨a, c, d⟩⟩ G H (exD x) (.ref a) := by
  obtain ⟨h1, h2⟩ := h
  unfold exD
  cases e : x.f with
  | none => rw [e] at h2; exact .ex (K := ⟨K, ⟨a, c, d⟩⟩) h1 h2
  | some p =>
    obtain ⟨f, y⟩ := p
    rw [e] at h2
    obtain ⟨b, v, e1, e2, r⟩ := h2
    exact .exf (K := ⟨K, ⟨a, c, d⟩⟩) h1 e1 e2 (r.toZ r.xf0)
theorem try_ {exm : Str → Str → Option Bool} {Wout : WX} {body : List Stmt} {h₀ : ExceptHandler} {hds : List ExceptHandler} {ks : List Hd3} {pos : Pos} {tb : TS3} (hs : X.stack = X.env :: X.outer) (hf : X.env.frame = some X.env.locals) (hN : X.N.Nodup) (tk : Takes X Wout) (em : ExmF X.K exm)
    (hb : ∀ (W : WX) (pn : List (Addr × Obj)) (xe : Value → Shared → Prop), Takes (X.tr pn xe) W → PassesOwn (model X.prog X.w) X.A X.env xe → PSs3 (X.tr pn xe) Z0 W body tb)
    (hh : Hds3 X (h₀ :: hds) ks) : PS3 X Z0 Wout (.Try body (h₀ :: hds) [] [] pos) (stry exm tb ks) := by
  refine PS.imp (ps_try_g (tb := fun W => liftS (Cxk X Z0) W tb) hs hf hN tk hb (hds_of hh)) fun D σ H h => ?_
  obtain ⟨σ3, G, D3, g, rs, h, d⟩ := h
  refine ⟨σ3, G, _, g, rs, h, ⟨d.nx, d.rt, d.bk, d.ct, fun x σ4 G1 c dd τ H1 h1 g1 r1 xv k1 => ?_⟩⟩
  clear h
  have key : ∀ ks : List Hd3, shand exm D3 ks x σ4 G1 → wG X.K Wout D (hl2 X.K ks) c dd τ H1 := by
    intro ks
    induction ks with
    | nil => exact fun h => d.ex x σ4 G1 c dd τ H1 h g1 r1 xv k1
    | cons k r ih =>
      intro h
      obtain ⟨b, e, h⟩ := h
      refine ⟨b, by rw [xv.1]; exact em _ _ _ e, fun eb a na => ?_, fun eb => ?_⟩
      · subst eb
        rw [if_pos rfl] at h
        have gx := g1.gx
        have sx := r1.sx
        have h := h gx sx
        refine ⟨x, xv.1, setO σ4 (some (exD x)) k.oi, G1, _, g1.toZ gx, ?_, h, ?_⟩
        · have rz : Rs ⟨X.K, ⟨a, c, dd⟩⟩ G1 H1 σ4 τ := r1.toZ sx
          cases k.oi with
          | none => exact rz
          | some i => exact rz.set (exD_dv xv) i
        · have cl : ∀ (σ5 : St3) (σ6 : St) (G2 : Gp) (H2 : Hp), SX (setO σ5 none k.oi) → Rs ⟨X.K, ⟨a, c, dd⟩⟩ G2 H2 σ5 σ6 → Rs (Cxk X Z0) G2 H2 (setO σ5 none k.oi) (match k.oi with | none => σ6 | some i => σ6.set i none) := fun σ5 σ6 G2 H2 sx r2 => by
            cases e : k.oi with
            | none => rw [e] at sx; exact r2.toZ sx
            | some i => rw [e] at sx; exact (r2.clear i).toZ sx
          have fin : ∀ (P : St3 → Gp → Prop) (R : St → Hp → Prop) (R' : St → Hp → Prop), Sk (Cxk X Z0) G H P R → (∀ σ' H', R (match k.oi with | none => σ' | some i => σ'.set i none) H' → R' σ' H') → Sk ⟨X.K, ⟨a, c, dd⟩⟩ G1 H1 (fun σ G => GX G ∧ SX (setO σ none k.oi) ∧ P (setO σ none k.oi) G) R' := fun P R R' hp hr σ5 G2 σ6 H2 ⟨gx2, sx2, h2⟩ g2 r2 k2 =>
            hr _ _ (hp _ _ _ _ h2 (g2.toZ gx2) (cl _ _ _ _ sx2 r2) (k1.trans k2))
          have en : ∀ (f : Ends → St → Hp → Prop) , (∀ i, f (endAs D i) = fun σ' H' => f D (σ'.set i none) H') → ∀ σ' H', f D (match k.oi with | none => σ' | some i => σ'.set i none) H' → f (endOf D k.oi) σ' H' := fun f hf σ' H' h => by
            cases e : k.oi with
            | none => rw [e] at h; exact h
            | some i => rw [e] at h; show f (endAs D i) σ' H'; rw [hf]; exact h
          refine ⟨fin _ _ _ d.nx (en Ends.nx fun _ => rfl), fun v G2 w H2 ⟨gx2, xv2, h2⟩ g2 r2 k2 => ?_, fin _ _ _ d.bk (en Ends.bk fun _ => rfl), fin _ _ _ d.ct (en Ends.ct fun _ => rfl), fun _ _ _ _ _ _ _ z => z.elim⟩
          have := d.rt _ _ _ _ h2 (g2.toZ gx2) (r2.toZ xv2) (k1.trans k2)
          cases e : k.oi with
          | none => exact this
          | some i => exact this
      · subst eb
        rw [if_neg Bool.false_ne_true] at h
        exact ih h
  exact key ks h1
end
end L3
namespace L3
open PySem PySem.Spec PyProof.Rows L2
open He (ga)
/-! ### raise X() -/
/-- what a raised class without fields must be -/
structure ExcF (K : PySem.W.Frag) (x : Str) : Prop where
  e : PySem.W.excIn K (ga K x) He.veBase "ValueError.__new__" = true
  k : PySem.W.keepIn K (.ref (ga K x)) = true
  s : PySem.W.subIn K (.ref (ga K x)) (.type "BaseException") = some true
  t : PySem.W.typeIn K (.ref (ga K x)) = some (.type "type")
theorem excF_ok {K : PySem.W.Frag} {x : Str} (c : (He.Fa.exc x).ok K = true) : ExcF K x := by
  obtain ⟨h1, h2, h3, h4⟩ := He.exc_ok c
  exact ⟨h1, h2, h3, h4⟩
theorem pmk_own0 {X : Cx} {C : Addr} {bmB : List Value} {B newId initId : String} {x : Str} {p pos : Pos} (F : ExcBaseFacts B newId initId bmB) (q : PySem.W.excIn X.K C bmB newId = true) (gC : X.mg x = some (.ref C))
    (kC : PySem.W.keepIn X.K (.ref C) = true) (r : Raises X (.ref C)) (hg : Gl X x) (hdb : (x == ("__debug__" : Str)) = false) :
    PMk X (.Call (.Name x p) [] [] pos) (fun σ H Q => Q (.ref C) none H) := by
  intro pins s σ H Q I h
  refine wpAny_Call_Name_kw (ld_glob I hg gC ?_ hdb)
  refine PySem.W.callWith_K0 I.kIn kC ?_
  show wpAny _ _ (call (.ref C) []) _ _ _
  obtain ⟨bm, N, nm, qn, bs, hdct, sn, sub, ab, col, dd, k0, k1, k2, k3, k5, mN, hC, hN, hni, T⟩ := exc_obj I.kIn q
  refine wpAny_call_exc_subT F T hC hN hni (fun h' e hm => ?_) (by decide)
  exact mk_of I hm r h (I.hok.gone hm.new)
def sraise (c : Str) : TS3 := fun D σ G => D.ex ⟨c, none⟩ σ G
theorem raise0_ {X : Cx} {W : WX} {x : Str} {p cpos pos : Pos} (hc : X.calm = true) (tk : Takes X W) (F : ExcF X.K x) (hm : X.mg x = some (.ref (ga X.K x))) (hg : Gl X x := by rfl) (hdb : (x == ("__debug__" : Str)) = false := by decide +kernel) :
    PS3 X Z0 W (.Raise (some (.Call (.Name x p) [] [] cpos)) none pos) (sraise x) := PS.imp (ps_raise hc tk (pmk_own0 PySem.F.excBase_ValueError F.e hm F.k (raises_own F.s F.t) hg hdb)) fun D σ H h => by
  obtain ⟨σ3, G, D3, g, rs, h, d⟩ := h
  exact d.ex _ _ _ _ _ _ _ h g rs ⟨rfl, rfl⟩ Keep.refl
end L3
/-! ### raise X(e), X's own __init__ stores one field -/
namespace L3
open PySem PySem.Spec PyProof.Rows L2
open He (ga)
def oexB (K : PySem.W.Frag) (C : Addr) : Bool := match K.lookup C with
  | some ⟨.type "type", _, .cls cd, sl⟩ => (match cd.mro, sl.toList with
    | .ref C' :: bm, [_, _, _, _, some (.builtin n), _] => C' == C && n == "ValueError.__new__" && !cd.hasDel && cd.hasDict && PySem.HandSPX.refsVE bm
    | _, _ => false)
  | _ => false
theorem oex_cls {K : PySem.W.Frag} {C : Addr} (q : oexB K C = true) : ∃ nm q N bs bm sn sub ab col dd k0 k1 k2 k3 k5, K.lookup C = some (excClassObj nm q C N bs bm true sn sub ab col dd k0 k1 k2 k3 k5 "ValueError.__new__") ∧ PySem.HandSPX.refsVE bm = true := by
  unfold oexB at q
  split at q
  · rename_i dd cd sl ho
    split at q
    · rename_i C' bm k0 k1 k2 k3 n k5 hm hs
      simp only [Bool.and_eq_true, beq_iff_eq, Bool.not_eq_true'] at q
      obtain ⟨⟨⟨⟨rfl, rfl⟩, hdel⟩, hdc⟩, ht⟩ := q
      obtain ⟨nm, bs, mro, ns, qn, hd, sn, sub, ab, col, del⟩ := cd
      dsimp only at hm hdel hdc
      subst hm hdel hdc
      have hsl : sl = #[k0, k1, k2, k3, some (.builtin "ValueError.__new__"), k5] := by
        obtain ⟨l⟩ := sl
        simp only at hs
        rw [hs]
      subst hsl
      exact ⟨nm, qn, ns, bs, bm, sn, sub, ab, col, dd, k0, k1, k2, k3, k5, ho, ht⟩
    · cases q
  · cases q
/-- a class of errors with one field f -/
structure ExfF (K : PySem.W.Frag) (x f : Str) : Prop where
  c : OexC K (ga K x)
  i : PySem.W.findIn K (.ref (ga K x)) "__init__" = some (some (.ref (He.ma K (ga K x) "__init__")))
  t : PySem.W.typeIn K (.ref (He.ma K (ga K x) "__init__")) = some (.type "function")
  n : PySem.W.findIn K (.ref (ga K x)) f = some none
  x : XfC K (ga K x)
def exfB (x f : Str) (K : PySem.W.Frag) : Bool := oexB K (ga K x) && (decide (PySem.W.findIn K (.ref (ga K x)) "__setattr__" = some (some (.builtin "object.__setattr__"))) && (decide (PySem.W.subIn K (.ref (ga K x)) (.type "BaseException") = some true) && (decide (PySem.W.typeIn K (.ref (ga K x)) = some (.type "type")) &&
  (PySem.W.keepIn K (.ref (ga K x)) && (decide (PySem.W.findIn K (.ref (ga K x)) "__init__" = some (some (.ref (He.ma K (ga K x) "__init__")))) && (decide (PySem.W.typeIn K (.ref (He.ma K (ga K x) "__init__")) = some (.type "function")) && (decide (PySem.W.findIn K (.ref (ga K x)) f = some none) && xfB K (ga K x))))))))
theorem exfF_ok {K : PySem.W.Frag} {x f : Str} (h : exfB x f K = true) : ExfF K x f := by
  obtain ⟨h1, h⟩ := He.ba h
  obtain ⟨h2, h⟩ := He.ba h
  obtain ⟨h3, h⟩ := He.ba h
  obtain ⟨h4, h⟩ := He.ba h
  obtain ⟨h5, h⟩ := He.ba h
  obtain ⟨h6, h⟩ := He.ba h
  obtain ⟨h7, h⟩ := He.ba h
  obtain ⟨h8, h9⟩ := He.ba h
  exact ⟨⟨oex_cls h1, of_decide_eq_true h2, of_decide_eq_true h3, of_decide_eq_true h4, h5⟩, of_decide_eq_true h6, of_decide_eq_true h7, of_decide_eq_true h8, xfB_ok h9⟩
/-- what such an __init__ does -/
def spX (K : PySem.W.Frag) (x f : Str) : Sp := fun vs H Q _ => ∃ a v, vs = [.ref a, v] ∧ H a = some (exo a (ga K x) none) ∧ ∀ dx, H dx = none → dx ≠ a → Q .non (upd (upd H dx (exd dx [(f, v)])) a (exo a (ga K x) (some dx)))
section
variable {P : Program} {w : World} {K : PySem.W.Frag} {mg : Str → Option Value} {base : Heap}
theorem initX {x f name qual s1 s2 : Str} {params : Arguments} {scope : Scope} {ad : Addr} {fd : FuncData} {p1 p2 p3 pos : Pos} (T : ExfF K x f) (F : FunD K name qual params [.Assign [.Attribute (.Name s1 p1) f p2] (.Name s2 p3) pos] scope [] [] ad fd) (S : FnScope [s1, s2] [s1, s2] scope)
    (l1 : scope.names.lookup s1 = some .local) (l2 : scope.names.lookup s2 = some .local) (d1 : (s1 == ("__debug__" : Str)) = false) (d2 : (s2 == ("__debug__" : Str)) = false) (e1 : (s1 == ("__classdict__" : Str)) = false) (e2 : (s2 == ("__classdict__" : Str)) = false)
    (hsw : ∀ env : Env, swapsWith (.Name s2 p3) (some (.Attribute (.Name s1 p1) f p2)) pos.line env = pure false) : FnOk P w K mg base (L2.CX P w) 1 ad fd [s1, s2] (spX K x f) := by
  refine F.ok S (fun vs H Q E h => ?_) (fun cdv A outer s H vs Q E hr h => ?_)
  · obtain ⟨a, v, rfl, _⟩ := h; rfl
  · obtain ⟨a, v, rfl, ha, q⟩ := h
    refine ⟨_, pss_one (ps_ost (pe_var (i := 0) rfl (.inl l1) d1 e1) (pe_var (i := 1) rfl (.inl l2) d2 e2) (hsw _)), ?_⟩
    exact ⟨_, rfl, _, rfl, a, _, rfl, T.c, T.n, .inl ⟨ha, fun dx n ne => q dx n ne⟩⟩
end
def sraisef (c f : Str) (te : TE3) : TS3 := fun D σ G => te σ G (fun y G1 => D.ex ⟨c, some (f, y)⟩ σ G1) (fun x G1 => D.ex x σ G1)
theorem raisef_ {X : Cx} {W : WX} {x f : Str} {p cpos pos : Pos} {k : Nat} {e : Expr} {te : TE3} {fd : FuncData} {ps : List Str} (hc : X.calm = true) (tk : Takes X W) (T : ExfF X.K x f) (F : FnOk X.prog X.w X.K X.mg X.base (L2.CX X.prog X.w) 1 (He.ma X.K (ga X.K x) "__init__") fd ps (spX X.K x f)) (hb : Binds X.K fd ps [])
    (hr : Room k X.A) (hk : 2 ≤ k) (hm : X.mg x = some (.ref (ga X.K x))) (he : PE3 X Z0 W e te) (hg : Gl X x := by rfl) (hdb : (x == ("__debug__" : Str)) = false := by decide +kernel)
    (hst : starEach [e] X.env = (false, eval e X.env) :: starEach [] X.env := by rfl) (hpl : (backTo cpos (starEach [] X.env)).any (·.1) = false := by rfl) :
    PS3 X Z0 W (.Raise (some (.Call (.Name x p) [e] [] cpos)) none pos) (sraisef x f te) := by
  have px : Passes (L2.CX X.prog X.w) X (fun _ _ _ => False) := fun _ _ _ _ _ _ _ h => by
    obtain ⟨_, _, _, _, _, _, _, _, _, _, _, _, z⟩ := h
    exact z.elim
  refine PS.imp (ps_raise hc tk (pmk_oex T.c T.i T.t F (hr.mono hk) hb .nil px hg hm (pa_cons he pa_nil hst) hdb hst hpl)) fun D σ H h => ?_
  obtain ⟨σ3, G, D3, g, rs, h, d⟩ := h
  refine ⟨σ3, G, _, _, g, rs, h, fun y G1 v H1 h1 g1 r1 k1 => ?_, d.exk g rs⟩
  refine ⟨by show 1 ≤ 1000; decide, fun a na => ⟨a, v, rfl, upd_same, fun dx nd ne => ⟨rfl, dx, [(f, v)], upd_same, ?_, ?_, ?_⟩⟩⟩
  · rw [upd_ne ne, upd_same]
  · rw [upd_ne ne] at nd; exact nd
  · rw [upd_ne ne] at nd
    have e1 : upd (L2.del (upd (upd (upd H1 a (exo a (ga X.K x) none)) dx (exd dx [(f, v)])) a (exo a (ga X.K x) (some dx))) a) dx (.xd [(f, v)]) = upd H1 dx (.xd [(f, v)]) := by
      funext b
      by_cases hb1 : b = dx
      · subst hb1; rw [upd_same, upd_same]
      · rw [upd_ne hb1, upd_ne hb1]
        by_cases hb2 : b = a
        · subst hb2; rw [del_same, na]
        · rw [del_ne hb2, upd_ne hb2, upd_ne hb1, upd_ne hb2]
    rw [e1]
    have kk : Keep G1 H1 G1 (upd H1 dx (.xd [(f, v)])) := Keep.new nd
    exact d.ex _ _ _ _ _ _ _ h1 (g1.new nd) ((rs.keep g k1).keep g1 kk) ⟨rfl, dx, v, rfl, upd_same, r1.keep g1 kk⟩ (k1.trans kk)
/-! ### the held exception -/
/-- err.f -/
def txf (c f : Str) (te : TE3) : TE3 := fun σ G Q E => te σ G (fun x G1 => ∃ y, x = .exf c f y ∧ Q y G1) E
theorem xf_ {X : Cx} {a : Addr} {oe : Obj} {d : Option Addr} {pn : List (Addr × Obj)} {W : WX} {e : Expr} {te : TE3} {pos : Pos} {c f : Str} {e3 : X3} (T : ExfF X.K c f) (hz : Zc (.ref (ga X.K e3.c)) d oe) (hf : ∃ vs, oe.data = .fields vs)
    (he : PE3 (X.suite a ((a, oe) :: pn)) ⟨a, .ref (ga X.K e3.c), d⟩ W e te) (hb : attributeBase e f X.env (eval e X.env) = eval e X.env := by rfl) :
    PE3 (X.suite a ((a, oe) :: pn)) ⟨a, .ref (ga X.K e3.c), d⟩ W (.Attribute e f pos) (txf c f te) := PE.imp (pe_xf T.x T.n hz hf he hb) fun σ H Q h => by
  obtain ⟨σ3, G, Q3, E3, g, rs, h, q, x⟩ := h
  refine ⟨σ3, G, _, E3, g, rs, h, fun x G1 v H1 ⟨y, e, h1⟩ g1 r1 k1 => ?_, x⟩
  subst e
  cases r1 with
  | exf z1 z2 z3 r =>
    refine ⟨rfl, z1, _, _, _, z2, z3, ?_, q_of (q.keep k1) g1 h1 r⟩
    simp
/-! ### zip of two tuples, of two lists that stay -/
def izip (ta : TA3) : TI3 := fun σ G R E => ta σ G (fun ds G1 => ∃ xs ys, (ds = [.tup xs, .tup ys] ∨ ds = [.fl xs, .fl ys]) ∧ R (List.zipWith (fun a b => D.tup [a, b]) xs ys) (fun _ => True) G1) E
section
variable {K : K3} {G : Gp} {H : Hp}
theorem zip_at {xs ys : List D} {us ws : List V} {i : Nat} {d : D} (r : DvL K G H xs us) (t : DvL K G H ys ws) (h : (List.zipWith (fun a b => D.tup [a, b]) xs ys)[i]? = some d) : ∃ a b u w, d = .tup [a, b] ∧ us[i]? = some u ∧ ws[i]? = some w ∧ Dv K G H a u ∧ Dv K G H b w := by
  rw [List.getElem?_zipWith] at h
  cases e1 : xs[i]? with
  | none => rw [e1] at h; simp at h
  | some a =>
    cases e2 : ys[i]? with
    | none => rw [e1, e2] at h; simp at h
    | some b =>
      rw [e1, e2] at h
      cases h
      obtain ⟨u, h1, h2⟩ := r.get e1
      obtain ⟨w, h3, h4⟩ := t.get e2
      exact ⟨a, b, u, w, rfl, h1, h3, h2, h4⟩
theorem itr_zipT {xs ys : List D} {a b : Addr} (g : GH K G H) (r1 : Dv K G H (.tup xs) (.ref a)) (r2 : Dv K G H (.tup ys) (.ref b)) : ItR K G H (RZ.ItzT K.f a b) (List.zipWith (fun a b => D.tup [a, b]) xs ys) (fun _ => True) := by
  have key : ∀ {xs : List D} {a : Addr} {G1 H1}, Dv K G H (.tup xs) (.ref a) → Keep G H G1 H1 → ∃ ws, SqT K.f H1 a ws ∧ DvL K G1 H1 xs ws := fun {xs a G1 H1} r k => by
    have r1 := r.keep g k
    cases r1 with
    | tup s rl => exact ⟨_, s, rl⟩
  refine ⟨fun G1 H1 k g1 gd => ?_, fun i G1 H1 hi k g1 gd => ?_, fun i x v G1 H1 H2 hi k g1 gd y => ?_⟩
  · obtain ⟨us, s1, l1⟩ := key r1 k
    obtain ⟨ws, s2, l2⟩ := key r2 k
    refine ⟨us, ws, s1, s2, ?_⟩
    rw [← l1.length, ← l2.length, List.length_zipWith]; omega
  · obtain ⟨us, s1, l1⟩ := key r1 k
    obtain ⟨ws, s2, l2⟩ := key r2 k
    rw [List.length_zipWith] at hi
    have h1 : i < us.length := by rw [← l1.length]; omega
    have h2 : i < ws.length := by rw [← l2.length]; omega
    exact ⟨us, ws, us[i], ws[i], s1, s2, by simp [h1], by simp [h2]⟩
  · obtain ⟨us, s1, l1⟩ := key r1 k
    obtain ⟨ws, s2, l2⟩ := key r2 k
    obtain ⟨T, u, w, rfl, nT, rfl, h1, h2⟩ := y
    obtain ⟨p, q, u', w', rfl, e1, e2, q1, q2⟩ := zip_at l1 l2 hi
    rw [h1 us s1] at e1; cases e1
    rw [h2 ws s2] at e2; cases e2
    have kn := Keep.new (G := G1) (o := .tup [u, w]) nT
    exact ⟨g1.new nT, kn, .tup (SqT.of upd_same) (.cons (q1.keep g1 kn) (.cons (q2.keep g1 kn) .nil))⟩
theorem itr_zipL {xs ys : List D} {a b : Addr} (g : GH K G H) (r1 : Dv K G H (.fl xs) (.ref a)) (r2 : Dv K G H (.fl ys) (.ref b)) : ItR K G H (Itz K.f a b) (List.zipWith (fun a b => D.tup [a, b]) xs ys) (fun _ => True) := by
  have key : ∀ {xs : List D} {a : Addr} {G1 H1}, Dv K G H (.fl xs) (.ref a) → Keep G H G1 H1 → ∃ ws, SqL K.f H1 a ws ∧ DvL K G1 H1 xs ws := fun {xs a G1 H1} r k => by
    have r1 := r.keep g k
    cases r1 with
    | fl s n rl => exact ⟨_, SqL.of s, rl⟩
  refine ⟨fun G1 H1 k g1 gd => ?_, fun i G1 H1 hi k g1 gd => ?_, fun i x v G1 H1 H2 hi k g1 gd y => ?_⟩
  · obtain ⟨us, s1, l1⟩ := key r1 k
    obtain ⟨ws, s2, l2⟩ := key r2 k
    refine ⟨us, ws, s1, s2, ?_⟩
    rw [← l1.length, ← l2.length, List.length_zipWith]; omega
  · obtain ⟨us, s1, l1⟩ := key r1 k
    obtain ⟨ws, s2, l2⟩ := key r2 k
    rw [List.length_zipWith] at hi
    have h1 : i < us.length := by rw [← l1.length]; omega
    have h2 : i < ws.length := by rw [← l2.length]; omega
    exact ⟨us, ws, us[i], ws[i], s1, s2, by simp [h1], by simp [h2]⟩
  · obtain ⟨us, s1, l1⟩ := key r1 k
    obtain ⟨ws, s2, l2⟩ := key r2 k
    obtain ⟨T, u, w, rfl, nT, rfl, h1, h2⟩ := y
    obtain ⟨p, q, u', w', rfl, e1, e2, q1, q2⟩ := zip_at l1 l2 hi
    rw [h1 us s1] at e1; cases e1
    rw [h2 ws s2] at e2; cases e2
    have kn := Keep.new (G := G1) (o := .tup [u, w]) nT
    exact ⟨g1.new nT, kn, .tup (SqT.of upd_same) (.cons (q1.keep g1 kn) (.cons (q2.keep g1 kn) .nil))⟩
end
theorem izip_ {X : Cx} {Z : Zx} {W : WX} {e e2 : Expr} {ta : TA3} {p pos tpos : Pos} {elts : List Expr} {kk : Nat} (hm : X.mg "zip" = none) (ha : PA3 X Z W [e, e2] ta) (hg : Gl X "zip" := by rfl)
    (hs : starEach [e, e2] X.env = (false, eval e X.env) :: starEach [e2] X.env := by rfl) (hpl : (backTo pos (starEach [e2] X.env)).any (·.1) = false := by rfl) :
    PI3 X Z W (.Tuple elts kk tpos) (.Call (.Name "zip" p) [e, e2] [] pos) (izip ta) := PI.imp (RZ.pi_zipA hg hm ha hs hpl) fun σ H R h => by
  obtain ⟨σ3, G, R3, E3, g, rs, h, q, x⟩ := h
  refine ⟨σ3, G, _, E3, g, rs, h, fun ds G1 vs H1 ⟨xs, ys, e, h1⟩ g1 r1 k1 => ?_, x⟩
  rcases e with e | e
  · subst e
    cases r1 with
    | cons ra rb =>
    cases rb with
    | cons rb rc =>
    cases rc
    have ra' := ra
    have rb' := rb
    cases ra with
    | tup s1 l1 =>
    cases rb with
    | tup s2 l2 => exact ⟨_, _, _, _, rfl, .inr ⟨s1, s2, q _ _ _ _ _ h1 g1 k1 (itr_zipT g1 ra' rb')⟩⟩
  · subst e
    cases r1 with
    | cons ra rb =>
    cases rb with
    | cons rb rc =>
    cases rc
    have ra' := ra
    have rb' := rb
    cases ra with
    | fl s1 n1 l1 =>
    cases rb with
    | fl s2 n2 l2 => exact ⟨_, _, _, _, rfl, .inl ⟨SqL.of s1, SqL.of s2, q _ _ _ _ _ h1 g1 k1 (itr_zipL g1 ra' rb')⟩⟩
/-! ### x == y, x of an own class with its own __eq__ -/
structure EqO (K : PySem.W.Frag) (OC : List Str) (c : Str) : Prop where
  s : PySem.W.findIn K (.ref (ga K c)) "__eq__" = some (some (.ref (He.ma K (ga K c) "__eq__")))
  f : PySem.W.isFn K (.ref (He.ma K (ga K c) "__eq__")) = true
  n : ∀ T : Bt, PySem.W.notFirst K (ga K c) (.type T.n) = true
  o : ∀ d ∈ OC, PySem.W.notFirst K (ga K c) (.ref (ga K d)) = true
def eqoB (OC : List Str) (c : Str) (K : PySem.W.Frag) : Bool := decide (PySem.W.findIn K (.ref (ga K c)) "__eq__" = some (some (.ref (He.ma K (ga K c) "__eq__")))) && (PySem.W.isFn K (.ref (He.ma K (ga K c) "__eq__")) &&
  ((Bt.all.all fun T => PySem.W.notFirst K (ga K c) (.type T.n)) && OC.all fun d => PySem.W.notFirst K (ga K c) (.ref (ga K d))))
theorem eqo_ok {K : PySem.W.Frag} {OC : List Str} {c : Str} (h : eqoB OC c K = true) : EqO K OC c := by
  obtain ⟨h1, h⟩ := He.ba h
  obtain ⟨h2, h⟩ := He.ba h
  obtain ⟨h3, h4⟩ := He.ba h
  exact ⟨of_decide_eq_true h1, h2, fun T => List.all_eq_true.mp h3 T T.mem, fun d hd => List.all_eq_true.mp h4 d hd⟩
def eqO3 (OC : List Str) (c : Str) (sp : Sp3) : Q2 := fun x y G Q => tyD G x = some (.o c) ∧ (∃ t, tyD G y = some t ∧ ∀ d, t = .o d → d ∈ OC) ∧ sp [x, y] G (fun z G1 => (∃ b, z = .bl b) ∧ Q z G1) (fun _ _ => False)
theorem o_eqO {X : Cx} {OC : List Str} {c : Str} {sp : Sp3} {j k : Nat} (IS : IsF X.K OC) (T : EqO X.K OC c) (F : Mn3 X.prog X.w X.K X.mg X.base (He.ma X.K (ga X.K c) "__eq__") j sp) (hr : Room k X.A) (hj : j ≤ k) : OpR3 X Z0 (compareOp .Eq) (eqO3 OC c sp) := by
  obtain ⟨fd, ps, hb, F⟩ := F.ex
  have F := F.mono hj
  refine ⟨fun v u H Q => ∃ G x y Q3, GH (Cxk X Z0) G H ∧ Dv (Cxk X Z0) G H x v ∧ Dv (Cxk X Z0) G H y u ∧ eqO3 OC c sp x y G Q3 ∧ Qk (Cxk X Z0) G H Q3 Q, ?_, fun G H x y v u Q3 Q g rx ry h q => ⟨G, x, y, Q3, g, rx, ry, h, q⟩⟩
  intro pins s σ H v u v' u' Q I rv ru h
  obtain ⟨G, x, y, Q3, g, rx, ry, ⟨hx, ⟨t, ht, hto⟩, h⟩, q⟩ := h
  obtain ⟨a, dx, fs, rfl, ha⟩ : ∃ a dx fs, v = .ref a ∧ H a = some (.ins (ga X.K c) dx fs) := by
    cases rx with
    | ob s l n r => cases hx; exact ⟨_, _, _, rfl, s⟩
    | ref a =>
      unfold tyD at hx
      simp only at hx
      split at hx
      · cases hx
      · cases hx
      · rename_i c' fs e
        cases hx
        obtain ⟨dx, vs, h2, _⟩ := g a _ e
        exact ⟨_, _, _, rfl, h2⟩
      · cases hx
      · cases hx
    | _ => cases hx
  cases (show v' = Value.ref a from rv)
  obtain ⟨mA, J, _⟩ := ins_get I.hok ha
  obtain ⟨od, J, _⟩ := J.look
  obtain ⟨m, hF⟩ := I.fr
  have ow : ∀ d, t = .o d → OwnC X.K d := fun d e => IS.own d (hto d e)
  obtain ⟨Pk, Zk, pk, _⟩ := kit_of I ru (tyD_ok g ry ht ow)
  have nf : PySem.W.notFirst X.K (ga X.K c) (t.v X.K) = true := by
    cases t with
    | b U => exact T.n U
    | o d => exact T.o d (hto d rfl)
  show wpAny (model X.prog X.w) X.A (richCompare .Eq (.ref a) u') (EP X pins σ Q) X.xe s
  refine PySem.W.cmp_K (op := .Eq) (tb := t.v X.K) hr.units0 hF I.ok.mod.kin J (Zk.ty _ _ I.kIn pk) nf T.s T.f ?_
  have px : Passes (L2.CX X.prog X.w) X (fun _ _ _ => False) := fun _ _ _ _ _ _ _ h => by
    obtain ⟨_, _, _, _, _, _, _, _, _, _, _, _, z⟩ := h
    exact z.elim
  refine wpAny_mono (run_fn (E := fun _ _ _ => False) (dvs := []) (us := [.ref a, u']) (vs := [.ref a, u]) (Q := fun w H' => (∃ b, w = .bl b) ∧ Q w H') F hr hb .nil px I (.cons rv (.cons ru .nil)) ?_) (fun w s' hq => ?_) fun _ _ z => z
  · refine ⟨[x, y], G, _, _, g, .cons rx (.cons ry .nil), h, fun d G1 w H1 ⟨⟨b, e⟩, h1⟩ g1 r1 k1 => ?_, fun _ _ _ _ _ z => z.elim⟩
    subst e
    cases r1
    exact ⟨⟨b, rfl⟩, q _ _ _ _ h1 g1 (.bl b) k1⟩
  · obtain ⟨z, H', I', rz, ⟨b, rfl⟩, h1⟩ := hq
    cases (show w = Value.bool b from rz)
    exact ⟨.bl b, H', I', rfl, h1⟩
end L3
namespace L3
open PySem PySem.Spec PyProof.Rows L2
open He (ga)
/-- a table: class raised, class of the clause, is it taken -/
def exmOf (l : List (Str × Str × Bool)) (c h : Str) : Option Bool := (l.find? fun p => p.1 == c && p.2.1 == h).map (·.2.2)
def exmB (l : List (Str × Str × Bool)) (K : PySem.W.Frag) : Bool := l.all fun p => decide (PySem.W.exmOne K (.ref (ga K p.1)) (.ref (ga K p.2.1)) = some p.2.2)
theorem exmF_ok {K : PySem.W.Frag} {l : List (Str × Str × Bool)} (h : exmB l K = true) : ExmF K (exmOf l) := fun c d b e => by
  unfold exmOf at e
  cases q : l.find? fun p => p.1 == c && p.2.1 == d with
  | none => rw [q] at e; cases e
  | some p =>
    rw [q] at e
    cases e
    have m := List.mem_of_find?_eq_some q
    have z := List.find?_some q
    simp only [Bool.and_eq_true, beq_iff_eq] at z
    obtain ⟨rfl, rfl⟩ := z
    exact of_decide_eq_true (List.all_eq_true.mp h p m)
end L3
namespace L3
open PySem PySem.Spec PyProof.Rows L2
open He (ga)
/-! ### dicts with keys that are ints, texts -/
def kD : Key → D
  | .inl i => .int i
  | .inr s => .str s
theorem kD_inv {K : K3} {G : Gp} {H : Hp} {k : Key} {v : V} (r : Dv K G H (kD k) v) : v = kV k := by
  cases k with
  | inl i => cases r; rfl
  | inr s => cases r; rfl
def putA {α : Type} (kvs : List (Key × α)) (k : Key) (v : α) : List (Key × α) :=
  if (kvs.any fun kv => decide (kv.1 = k)) = true then kvs.map (fun kv => if kv.1 = k then (kv.1, v) else kv) else kvs ++ [(k, v)]
def mergeD (more : List (Key × D)) : List (Key × D) := more.foldl (fun acc kv => putA acc kv.1 kv.2) []
def anyD {α : Type} (kvs : List (Key × α)) (k : Key) : Bool := kvs.any fun kv => decide (kv.1 = k)
inductive KR (K : K3) (G : Gp) (H : Hp) : List (Key × D) → List (Key × V) → Prop
  | nil : KR K G H [] []
  | cons {k : Key} {d : D} {v : V} {ds : List (Key × D)} {vs : List (Key × V)} : Dv K G H d v → KR K G H ds vs → KR K G H ((k, d) :: ds) ((k, v) :: vs)
section
variable {K : K3} {G : Gp} {H : Hp}
theorem KR.keys : ∀ {ds : List (Key × D)} {vs : List (Key × V)}, KR K G H ds vs → vs = (ds.map (·.1)).zip (vs.map (·.2)) ∧ DvL K G H (ds.map (·.2)) (vs.map (·.2))
  | _, _, .nil => ⟨rfl, .nil⟩
  | _, _, .cons r t => by
    obtain ⟨h1, h2⟩ := KR.keys t
    refine ⟨?_, .cons r h2⟩
    simp only [List.map_cons, List.zip_cons_cons]
    rw [← h1]
theorem KR.of : ∀ {ds : List (Key × D)} {vs : List V}, DvL K G H (ds.map (·.2)) vs → KR K G H ds ((ds.map (·.1)).zip vs)
  | [], [], .nil => .nil
  | (k, d) :: ds, v :: vs, .cons r t => .cons r (KR.of t)
theorem KR.any : ∀ {ds : List (Key × D)} {vs : List (Key × V)}, KR K G H ds vs → ∀ k, anyD vs k = anyD ds k
  | _, _, .nil, _ => rfl
  | _, _, .cons r t, k => by
    unfold anyD
    rw [List.any_cons, List.any_cons]
    have := t.any k
    unfold anyD at this
    rw [this]
theorem KR.snoc : ∀ {ds : List (Key × D)} {vs : List (Key × V)} {k : Key} {d : D} {v : V}, KR K G H ds vs → Dv K G H d v → KR K G H (ds ++ [(k, d)]) (vs ++ [(k, v)])
  | _, _, _, _, _, .nil, r => .cons r .nil
  | _, _, _, _, _, .cons q t, r => .cons q (KR.snoc t r)
theorem KR.rep : ∀ {ds : List (Key × D)} {vs : List (Key × V)} {k : Key} {d : D} {v : V}, KR K G H ds vs → Dv K G H d v → KR K G H (ds.map fun kv => if kv.1 = k then (kv.1, d) else kv) (vs.map fun kv => if kv.1 = k then (kv.1, v) else kv)
  | _, _, _, _, _, .nil, r => .nil
  | _, _, k, _, _, .cons (k := j) q t, r => by
    rw [List.map_cons, List.map_cons]
    by_cases e : j = k
    · simp only [e, if_true]
      exact .cons r (KR.rep t r)
    · simp only [e, if_false]
      exact .cons q (KR.rep t r)
theorem KR.put {ds : List (Key × D)} {vs : List (Key × V)} {k : Key} {d : D} {v : V} (t : KR K G H ds vs) (r : Dv K G H d v) : KR K G H (putA ds k d) (putK vs k v) := by
  have e := t.any k
  unfold putA putK
  unfold anyD at e
  rw [e]
  split
  · exact t.rep r
  · exact t.snoc r
theorem KR.merge : ∀ {ms : List (Key × D)} {ws : List (Key × V)} {ds : List (Key × D)} {vs : List (Key × V)}, KR K G H ms ws → KR K G H ds vs → KR K G H (ms.foldl (fun acc kv => putA acc kv.1 kv.2) ds) (ws.foldl (fun acc kv => putK acc kv.1 kv.2) vs)
  | _, _, _, _, .nil, t => t
  | _, _, _, _, .cons (k := k) r q, t => by
    have z := KR.merge q (t.put (k := k) r)
    exact z
theorem pairs_of : ∀ {kvs : List (Key × D)} {vs : List V}, GH K G H → DvL K G H (kvs.map fun kv => .tup [kD kv.1, kv.2]) vs → ∃ (ps : List Addr) (ws : List (Key × V)), vs = ps.map V.ref ∧ Paired (fun p kv => SqT K.f H p [kV kv.1, kv.2]) ps ws ∧ KR K G H kvs ws
  | [], _, g, .nil => ⟨[], [], rfl, .nil, .nil⟩
  | (k, d) :: kvs, _, g, .cons r t => by
    obtain ⟨ps, ws, e, h1, h2⟩ := pairs_of g t
    subst e
    cases r with
    | tup s l =>
    cases l with
    | cons l1 l =>
    cases l with
    | cons l2 l =>
    cases l
    rename_i a v1 v2
    have := kD_inv l1
    subst this
    exact ⟨a :: ps, (k, v2) :: ws, rfl, .cons s h1, .cons l2 h2⟩
end
def bDict : QL := fun ds G Q => match ds with
  | [x] => ∃ kvs : List (Key × D), lq G x = some (kvs.map fun kv => .tup [kD kv.1, kv.2]) ∧ ∀ p, G p = none → Q (.ref p) (up G p (.dic (mergeD kvs)))
  | _ => False
section
variable {X : Cx} {Z : Zx} {W : WX}
theorem b_dict (hc : X.calm = true) : CallR3 X Z (.type "dict") bDict := by
  refine ⟨_, call_dictP hc, fun G H xs vs Q3 Q g r h q => ?_⟩
  unfold bDict at h
  split at h
  · cases r with
    | cons r1 r2 =>
    cases r2
    obtain ⟨kvs, e, h⟩ := h
    obtain ⟨a, us, ea, s, rl⟩ := lq_ok g r1 e
    obtain ⟨ps, ws, e2, h1, h2⟩ := pairs_of g rl
    subst e2
    refine ⟨a, ps, ws, by rw [ea], s, h1, fun p n => ?_⟩
    have m := KR.merge h2 (KR.nil (K := Cxk X Z) (G := G) (H := H))
    obtain ⟨m1, m2⟩ := m.keys
    have kp : Keep G H (up G p (.dic (mergeD kvs))) (upd H p (.dK (mergeK [] ws))) := Keep.newG n
    exact q _ _ _ _ (h p (g.free n)) (g.newG n ⟨_, by rw [upd_same]; exact congrArg (fun z => some (HO.dK z)) m1, m2.keep g kp⟩) (.ref p) kp
  · exact h.elim
/-- x in d -/
def tdin (neg : Bool) (ty td : TE3) : TE3 := fun σ G Q E => ty σ G (fun y G1 => td σ G1 (fun x G2 => ∃ p kvs k, x = .ref p ∧ G2 p = some (.dic kvs) ∧ y = kD k ∧ Q (.bl (if neg then !anyD kvs k else anyD kvs k)) G2) E) E
theorem din_k {ty td : TE3} {σ : St} {H : Hp} {Q : VK} (neg : Bool) (h : liftE (Cxk X Z) W (tdin neg ty td) σ H Q) : liftE (Cxk X Z) W ty σ H fun y H1 => liftE (Cxk X Z) W td σ H1 fun x H2 => ∃ a o, x = .ref a ∧ DGet H2 a y o ∧ Q (.bl (if neg then !o.isSome else o.isSome)) H2 := by
  obtain ⟨σ3, G, Q3, E3, g, rs, h, q, x⟩ := h
  refine ⟨σ3, G, _, E3, g, rs, h, fun d1 G1 v1 H1 h1 g1 r1 k1 => ?_, x⟩
  refine ⟨σ3, G1, _, E3, g1, rs.keep g k1, h1, fun d2 G2 v2 H2 ⟨p, kvs, k, e1, e2, e3, h2⟩ g2 r2 k2 => ?_, x.keep k1⟩
  subst e1 e3
  cases r2
  have := kD_inv r1
  subst this
  obtain ⟨vs, e4, r4⟩ := g2 p _ e2
  have a := (KR.of r4).any k
  refine ⟨p, _, rfl, DGet.k (k := k) e4, ?_⟩
  have va := valV_any k ((kvs.map (·.1)).zip vs)
  unfold anyD at a
  rw [← va, a]
  exact q _ _ _ _ h2 g2 (.bl _) (k1.trans k2)
variable {i o : Expr} {ty td : TE3} {pos : Pos} {k : Nat}
theorem din_ (hr : Room k X.A) (hi : PE3 X Z W i ty) (ho : PE3 X Z W o td) (hm : behindInMarks .In o = false := by rfl) : PE3 X Z W (.Compare i [.In] [o] pos) (tdin false ty td) :=
  PE.imp (pe_cmp (pc_din (by have := hr.units; omega) hi ho) hm) fun σ H Q h => din_k false h
theorem tdin_ (hr : Room k X.A) (hi : PE3 X Z W i ty) (ho : PE3 X Z W o td) (hm : behindInMarks .In o = false := by rfl) : PT3 X Z W (.Compare i [.In] [o] pos) (tb3 (tdin false ty td)) :=
  PT.imp (pt_cmp (pc_din (by have := hr.units; omega) hi ho) hm) fun σ H Q hq => din_k (W := W) (Q := fun x H' => ∃ k, x = .bl k ∧ Q k H') false (by
    obtain ⟨σ3, G, Q3, E3, g, rs, h, q, x⟩ := hq
    refine ⟨σ3, G, _, E3, g, rs, h, fun d G1 v H1 ⟨b, e, h1⟩ g1 r1 k1 => ?_, x⟩
    subst e
    cases r1
    exact ⟨b, rfl, q b G1 H1 h1 g1 k1⟩)
/-- xs[::-1] -/
def trev (m : Bool) (te : TE3) : TE3 := fun σ G Q E => te σ G (fun x G1 => ∃ xs, lq G1 x = some xs ∧ outL m xs.reverse G1 Q) E
theorem rev_ (m : Bool) {e : Expr} {te : TE3} {j : Nat} {p1 p2 p3 : Pos} (he : PE3 X Z W e te) : PE3 X Z W (.Subscript e (.Slice none none (some (.UnaryOp .USub (.Constant (.int 1) j p1) p2)) p3) pos) (trev m te) := PE.imp (pe_revL he) fun σ H Q h => by
  obtain ⟨σ3, G, Q3, E3, g, rs, h, q, x⟩ := h
  refine ⟨σ3, G, _, E3, g, rs, h, fun d G1 v H1 ⟨xs, e, h1⟩ g1 r1 k1 => ?_, x⟩
  obtain ⟨a, us, ea, s, rl⟩ := lq_ok g1 r1 e
  exact ⟨a, us, ea, s, fun p n => outL_ok m g1 rl.reverse (q.keep k1) h1 n⟩
end
end L3
namespace L3
open PySem PySem.Spec PyProof.Rows L2
open He (ga)
/-! ### constant tuples of the module -/
/-- what a constant tuple holds -/
inductive Cn where
  | s (x : Str) | i (i : Int) | n
  deriving DecidableEq
def Cn.d : Cn → D
  | .s z => .str z
  | .i z => .int z
  | .n => .non
def Cn.v : Cn → V
  | .s z => .str z
  | .i z => .int z
  | .n => .non
def TupF (K : PySem.W.Frag) (a : Addr) (xs : List Cn) : Prop :=
  ∃ (o : Obj) (its : Array Value) (n : Nat), K.lookup a = some o ∧ o.cls = .type "tuple" ∧ o.data = .seq its n ∧ its.size ≤ sizeLine ∧ Vals (xs.map Cn.v) its.toList
def cnsB : List Cn → List Value → Bool
  | [], [] => true
  | .s x :: xs, .str y _ :: ys => decide (x = y) && cnsB xs ys
  | .i x :: xs, .int y _ :: ys => decide (x = y) && cnsB xs ys
  | .n :: xs, .none :: ys => cnsB xs ys
  | _, _ => false
theorem cns_ok : ∀ {xs : List Cn} {ys : List Value}, cnsB xs ys = true → Vals (xs.map Cn.v) ys := by
  intro xs ys
  induction xs, ys using cnsB.induct with
  | case1 => exact fun _ => .nil
  | case2 x xs y t ys ih =>
    intro h
    unfold cnsB at h
    obtain ⟨h1, h2⟩ := He.ba h
    have h1 := of_decide_eq_true h1
    subst h1
    exact .cons ⟨t, rfl⟩ (ih h2)
  | case3 x xs y t ys ih =>
    intro h
    unfold cnsB at h
    obtain ⟨h1, h2⟩ := He.ba h
    have h1 := of_decide_eq_true h1
    subst h1
    exact .cons ⟨t, rfl⟩ (ih h2)
  | case4 xs ys ih =>
    intro h
    unfold cnsB at h
    exact .cons rfl (ih h)
  | case5 xs ys h1 h2 h3 h4 => 
    intro h
    unfold cnsB at h
    split at h
    · exact absurd rfl (h1 rfl)
    · exact (h2 _ _ _ _ _ rfl rfl).elim
    · exact (h3 _ _ _ _ _ rfl rfl).elim
    · exact (h4 _ _ rfl rfl).elim
    · cases h
def tupB (x : Str) (xs : List Cn) (K : PySem.W.Frag) : Bool := match K.lookup (ga K x) with
  | some o => decide (o.cls = .type "tuple") && (match o.data with
    | .seq its _ => decide (its.size ≤ sizeLine) && cnsB xs its.toList
    | _ => false)
  | _ => false
theorem tupF_ok {K : PySem.W.Frag} {x : Str} {xs : List Cn} (h : tupB x xs K = true) : TupF K (ga K x) xs := by
  unfold tupB at h
  cases e : K.lookup (ga K x) with
  | none => rw [e] at h; cases h
  | some o =>
    rw [e] at h
    obtain ⟨h1, h2⟩ := He.ba h
    cases e2 : o.data with
    | seq its n =>
      rw [e2] at h2
      obtain ⟨h2, h3⟩ := He.ba h2
      exact ⟨o, its, n, e, of_decide_eq_true h1, e2, of_decide_eq_true h2, cns_ok h3⟩
    | _ => rw [e2] at h2; cases h2
theorem cns_dv {K : K3} {G : Gp} {H : Hp} : ∀ xs : List Cn, DvL K G H (xs.map Cn.d) (xs.map Cn.v)
  | [] => .nil
  | .s x :: xs => .cons (.str x) (cns_dv xs)
  | .i x :: xs => .cons (.int x) (cns_dv xs)
  | .n :: xs => .cons .non (cns_dv xs)
section
variable {X : Cx} {Z : Zx} {W : WX} {pos : Pos}
theorem cgt_ {x : Str} {xs : List Cn} {ds : List D} {a : Addr} (hm : X.mg x = some (.ref a)) (t : TupF X.K a xs) (e : xs.map Cn.d = ds := by rfl) (hg : Gl X x := by rfl) (hd : (x == ("__debug__" : Str)) = false := by decide +kernel) : PE3 X Z W (.Name x pos) (tc (.tup ds)) := by
  subst e
  exact cg_ (v := .ref a) hm rfl (fun _ _ => .tup (.inr t) (cns_dv xs)) hg hd
end
end L3
/-! ### enumerate of a tuple, of a list -/
namespace PySem
open Sem (wp)
theorem l3_enum_newB {v : Value} {o : Obj} {H : Heap → Prop} (B : Begins v o H) :
    Meets (Builtin.«enumerate.__new__» ⟨[.type "enumerate", v], []⟩) (fun _ R s => H s.heap ∧
      R (.ok (.ret (.ref (s.heap.push o).objs.size))) { s with heap := (s.heap.push o).push { cls := .type "enumerate", data := .fields #[.none, .bool false, .ref s.heap.objs.size, rawInt 0, .none, .none] } }) :=
  .of_wp fun prog w A R s h => by
    obtain ⟨hp, g, d, tk, os⟩ := s; obtain ⟨h1, h⟩ := h
    have hsub := sub_enumerate
    have q1 : ∀ {A' : Around} {E : Value → Shared → Prop} {Q : Value → Shared → Prop}, Q (.ref hp.objs.size) ⟨hp.push o, g, d, tk, os⟩ → wpAny (model prog w) A' (pyIter v) Q E ⟨hp, g, d, tk, os⟩ :=
      fun q => B.iter prog w _ _ ⟨hp, g, d, tk, os⟩ _ h1 q
    wp_walk using q1
    refine wpAny_stack_any fun st => wpAny_pure ?_
    split
    · rename_i c _ _ _ _ _
      cases (c == Value.type "enumerate")
      · wp_walk using q1
        exact ⟨_, rfl, h⟩
      · wp_walk using q1
        exact ⟨_, rfl, h⟩
    · wp_walk using q1
      exact ⟨_, rfl, h⟩
section
variable {prog : Program} {w : World} {A : Around} {E : Value → Shared → Prop} {s : Shared}
theorem l3_call_enumB {v : Value} {o : Obj} {H : Heap → Prop} {Q : Value → Shared → Prop} (B : Begins v o H) (h1 : H s.heap)
    (h : ∀ h', IsEnum h' (s.heap.objs.size + 1) s.heap.objs.size 0 .none → h'.get? s.heap.objs.size = some o → h'.objs.size = s.heap.objs.size + 2 →
      (∀ b o, s.heap.get? b = some o → h'.get? b = some o) → Q (.ref (s.heap.objs.size + 1)) { s with heap := h' }) :
    wpAny (model prog w) A (call (.type "enumerate") [v]) Q E s := by
  refine callType_new F.called_enumerate (by decide) (F.typeCall_enumerate_1 _) (F.newCall_enumerate_1 _) (fun obj => F.args_object_init_2 obj _) F.entry_enumerate_new
    (l3_enum_newB B) ⟨h1, ?_⟩
  have hz : (s.heap.push o).objs.size = s.heap.objs.size + 1 := Heap.size_push ..
  show _ ∧ _
  rw [hz]
  have he : IsEnum ((s.heap.push o).push { cls := .type "enumerate", data := .fields #[.none, .bool false, .ref s.heap.objs.size, rawInt 0, .none, .none] }) (s.heap.objs.size + 1) s.heap.objs.size 0 .none := by
    have := Heap.get?_push_size (s.heap.push o) (o := { cls := .type "enumerate", data := .fields #[.none, .bool false, .ref s.heap.objs.size, rawInt 0, .none, .none] }) rfl
    rw [hz] at this; exact this
  refine ⟨⟨_, he, rfl⟩, h _ he (Heap.get?_push_of_some _ (Heap.get?_push_size _ B.free)) (by rw [Heap.size_push, hz]) fun b o x => Heap.get?_push_of_some _ (Heap.get?_push_of_some _ x)⟩
end
end PySem
namespace L3
open PySem PySem.Spec PyProof.Rows L2
open He (ga)
def IteT (K : PySem.W.Frag) (a : Addr) : It :=
  ⟨fun i H => ∃ (xs : List V) (x : V), SqT K H a xs ∧ xs[i]? = some x, fun i H v H' => ∃ T x, v = .ref T ∧ H T = none ∧ H' = upd H T (.tup [.int (i : Nat), x]) ∧ ∀ xs, SqT K H a xs → xs[i]? = some x, fun i H => ∃ xs : List V, SqT K H a xs ∧ xs.length = i⟩
theorem turn_enumT {P : Program} {w : World} {K : PySem.W.Frag} {elts : List Expr} {kk : Nat} {tpos : Pos} (a e it : Addr) (hai : a ≠ it) (hae : a ≠ e) :
    Turn P w K (.Tuple elts kk tpos) (IteT K a) [e, it] e (fun i h => (∃ old, IsEnum h e it ((i : Nat) : Int) old) ∧ h.IsTupleIter it a i ∧ e ≠ it) where
  mem := by simp
  obj := fun i h st b hb => by
    obtain ⟨⟨old, he⟩, ⟨o, ho, hc, hd⟩, _⟩ := st
    have e' : b = e ∨ b = it := by simpa using hb
    rcases e' with z | z
    · rw [z]; exact ⟨_, he, fun v q => nomatch q⟩
    · rw [z]; exact ⟨o, ho, fun v q => by rw [hd] at q; cases q⟩
  keep := fun i h h' st k => let ⟨⟨old, he⟩, hi, hne⟩ := st; ⟨⟨old, k e (by simp) _ he⟩, hi.at fun o q => k it (by simp) o q, hne⟩
  item := by
    intro X hP hw hK hc i pins s σ H E I hf st hg
    subst hP hw hK
    obtain ⟨⟨old, he⟩, hit, hne⟩ := st
    obtain ⟨xs, x, hq, hx⟩ := hg
    obtain ⟨its, rv, p, hz⟩ := I.tuple hq
    obtain ⟨u, hu, ru⟩ := rv.get hx
    have hel : e < s.heap.objs.size := Heap.lt_size he
    have hil : it < s.heap.objs.size := by obtain ⟨_, q, _⟩ := hit; exact Heap.lt_size q
    have ilt : i < its.length := (List.getElem?_eq_some_iff.mp hu).1
    refine wpAny_pyNext_enum_itemD (Draws.tuple (A := X.A.in1) (show X.A.in1.handled = none from I.ok.hd hc) it a hai its.toArray) he (i := i) ⟨hit, p⟩ (by simpa using ilt) hne (by simp; exact ⟨hne, fun z => hae z.symm⟩) fun x' h' tk hPx ho hit' hT hsz hk => ?_
    have ex : x' = u := by
      have hPx : its.toArray[i]? = some x' := hPx
      rw [List.getElem?_toArray, hu] at hPx
      exact (Option.some.inj hPx).symm
    subst ex
    refine ⟨_, rfl, wpAny_letOwnedTupleGo_enum (s := { s with heap := h', toks := tk + 1 }) ho fun h'' he' sb => ?_⟩
    have hT2 : h''.get? s.heap.objs.size = some { cls := .type "tuple", data := .seq #[.int i tk, x'] } := (sb.2 _ (Nat.ne_of_gt hel)).trans hT
    have new : ObjOk X.prog X.w (upd H s.heap.objs.size (.tup [.int (i : Nat), x])) h'' s.heap.objs.size (.tup [.int (i : Nat), x]) :=
      ⟨by show 2 ≤ sizeLine; decide, [.int i tk, x'], .cons ⟨_, rfl⟩ (.cons ru .nil), ⟨_, hT2, rfl, _, rfl⟩⟩
    have I1 : Inv X pins σ (upd H s.heap.objs.size (.tup [.int (i : Nat), x])) { s with heap := h'', toks := tk + 1 } :=
      I.turnedNew (ch := [e, it]) (fun b ob hb q => (sb.2 b (fun z => hb (by simp [z]))).trans (hk b ob (fun z => hb (by simp [z])) (fun z => hb (by simp [z])) q)) hf (Nat.le_refl _) new
    refine ⟨.ref s.heap.objs.size, _, I1, rfl, ⟨_, x, rfl, I.hok.fresh (Nat.le_refl _), rfl, fun ys hy => by rw [I.tuple_inj hy hq]; exact hx⟩, ⟨⟨x', ?_⟩, hit'.1.at fun o q => (sb.2 it (Ne.symm hne)).trans q, hne⟩, fun b hb => ?_⟩
    · have e1 : ((i + 1 : Nat) : Int) = (i : Int) + 1 := by omega
      rw [e1]; exact he'
    · have hb' : b < s.heap.objs.size := by
        have e' : b = e ∨ b = it := by simpa using hb
        rcases e' with z | z
        · rw [z]; exact hel
        · rw [z]; exact hil
      rw [upd_ne (Nat.ne_of_lt hb')]
      exact (hf b hb).1
  done := by
    intro X hP hw hK hc i pins s σ H E I hf st hg
    subst hP hw hK
    obtain ⟨⟨old, he⟩, hit, hne⟩ := st
    obtain ⟨xs, hq, hx⟩ := hg
    obtain ⟨its, rv, p, hz⟩ := I.tuple hq
    obtain ⟨f0, f1, f2, f3, f4, f5⟩ := hf it (by simp)
    have hl := rv.length
    have e1 : i = its.toArray.size := by simp; omega
    subst e1
    exact wpAny_pyNext_enum_endD (Draws.tuple (A := X.A.in1) (show X.A.in1.handled = none from I.ok.hd hc) it a hai its.toArray) he ⟨hit, p⟩ fun h' eb => ⟨rfl, I.turned (t' := s.toks) (fun b o hb q => eb b o hb q) f0 f1 f3 f4 f5⟩
  self := fun A i s Q E st h => let ⟨⟨_, he⟩, _⟩ := st; wpAny_pyIter_enum he h
def iEnumA (K : PySem.W.Frag) (ta : TA) : TI := fun σ H R => ta σ H fun vs H1 => ∃ a, vs = [.ref a] ∧ (((∃ xs, SqL K H1 a xs) ∧ R (Ite K a) H1) ∨ ((∃ xs, SqT K H1 a xs) ∧ R (IteT K a) H1))
theorem pi_enumA {X : Cx} {e : Expr} {ta : TA} {p pos tpos : Pos} {elts : List Expr} {kk : Nat} (hg : Gl X "enumerate") (hm : X.mg "enumerate" = none) (ha : PA X [e] ta) (hs : starEach [e] X.env = [(false, eval e X.env)] := by rfl) :
    PI X (.Tuple elts kk tpos) (.Call (.Name "enumerate" p) [e] [] pos) (iEnumA X.K ta) := by
  refine ⟨fun pins s σ H R I h => ?_⟩
  refine Call_ (ld_blt I hg hm boot_enumerate (PyProof.Rows.callWith_type1 (thn (ha.run pos pins s σ H _ I h) fun us s1 ⟨vs, H1, I1, r1, q1⟩ => ?_) hs rfl))
  obtain ⟨a, ex, q1⟩ := q1
  subst ex
  cases r1 with
  | cons r rr =>
    cases rr
    cases r
    have fp : ∀ b, b ∈ [s1.heap.objs.size + 1, s1.heap.objs.size] → FpOk X pins H1 b := fun b hb => by
      have e' : b = s1.heap.objs.size + 1 ∨ b = s1.heap.objs.size := by simpa using hb
      have hle : s1.heap.objs.size ≤ b := by
        rcases e' with z | z
        · rw [z]; exact Nat.le_add_right _ _
        · rw [z]; exact Nat.le_refl _
      exact I1.fpOk hle (I1.hok.fresh hle)
    rcases q1 with ⟨⟨xs, hq⟩, q⟩ | ⟨⟨xs, hq⟩, q⟩
    · obtain ⟨its, rv, p', hz⟩ := I1.list hq
      refine call_enumerate_list p'.isList fun h' he hit hsz hk => wpAny_pyIter_enum he ?_
      have I2 : Inv X pins σ H1 { s1 with heap := h' } := I1.kept (t' := s1.toks) hk
      exact ⟨s1.heap.objs.size + 1, [s1.heap.objs.size + 1, s1.heap.objs.size], _, _, H1, rfl, I2, turn_enum a (s1.heap.objs.size + 1) s1.heap.objs.size, ⟨⟨.none, he⟩, hit, Nat.succ_ne_self _⟩, fp, q⟩
    · obtain ⟨its, rv, p', hz⟩ := I1.tuple hq
      obtain ⟨o1, ho1, _⟩ := id p'
      have al : a < s1.heap.objs.size := Heap.lt_size ho1
      refine l3_call_enumB (begins_tuple a its.toArray) (show s1.heap.IsTuple a its.toArray from p') fun h' he hit hsz hk => wpAny_pyIter_enum he ?_
      have I2 : Inv X pins σ H1 { s1 with heap := h' } := I1.kept (t' := s1.toks) hk
      exact ⟨s1.heap.objs.size + 1, [s1.heap.objs.size + 1, s1.heap.objs.size], _, _, H1, rfl, I2, turn_enumT a (s1.heap.objs.size + 1) s1.heap.objs.size (Nat.ne_of_lt al) (Nat.ne_of_lt (Nat.lt_succ_of_lt al)), ⟨⟨.none, he⟩, ⟨_, hit, rfl, rfl⟩, Nat.succ_ne_self _⟩, fp, q⟩
def enD (xs : List D) : List D := xs.mapIdx fun i x => D.tup [.int (i : Nat), x]
theorem enD_len {xs : List D} : (enD xs).length = xs.length := List.length_mapIdx
theorem enD_get {xs : List D} {i : Nat} {y : D} (h : (enD xs)[i]? = some y) : ∃ x, xs[i]? = some x ∧ y = .tup [.int (i : Nat), x] := by
  unfold enD at h
  rw [List.getElem?_mapIdx] at h
  cases e : xs[i]? with
  | none => rw [e] at h; cases h
  | some x => rw [e] at h; cases h; exact ⟨x, rfl, rfl⟩
def ienum (ta : TA3) : TI3 := fun σ G R E => ta σ G (fun ds G1 => ∃ d xs, ds = [d] ∧ sq G1 d = some xs ∧ R (enD xs) (gdOf d xs) G1) E
section
variable {K : K3} {G : Gp} {H : Hp}
theorem itr_enL {d : D} {a : Addr} {xs : List D} (g : GH K G H) (r : Dv K G H d (.ref a)) (e : lq G d = some xs) : ItR K G H (Ite K.f a) (enD xs) (gdOf d xs) := by
  have key : ∀ G1 H1, Keep G H G1 H1 → GH K G1 H1 → gdOf d xs G1 → ∃ ws, SqL K.f H1 a ws ∧ DvL K G1 H1 xs ws := fun G1 H1 k g1 gd => by
    have r1 := r.keep g k
    have e1 : lq G1 d = some xs := by
      cases d with
      | ref p => unfold lq; simp only; rw [show G1 p = some (.lst xs) from gd]
      | _ => exact e
    obtain ⟨b, ws, eb, s, rl⟩ := lq_ok g1 r1 e1
    cases eb
    exact ⟨ws, s, rl⟩
  refine ⟨fun G1 H1 k g1 gd => ?_, fun i G1 H1 hi k g1 gd => ?_, fun i x v G1 H1 H2 hi k g1 gd y => ?_⟩
  · obtain ⟨ws, s, rl⟩ := key G1 H1 k g1 gd
    exact ⟨ws, s, by rw [enD_len, rl.length]; exact Nat.le_refl _⟩
  · obtain ⟨ws, s, rl⟩ := key G1 H1 k g1 gd
    rw [enD_len] at hi
    have : i < ws.length := by rw [← rl.length]; exact hi
    exact ⟨ws, ws[i], s, by simp [this]⟩
  · obtain ⟨ws, s, rl⟩ := key G1 H1 k g1 gd
    obtain ⟨T, u, rfl, nT, rfl, h1⟩ := y
    obtain ⟨x', e1, rfl⟩ := enD_get hi
    obtain ⟨w, h3, h2⟩ := rl.get e1
    rw [h1 ws s] at h3
    cases h3
    have kn := Keep.new (G := G1) (o := .tup [.int (i : Nat), u]) nT
    exact ⟨g1.new nT, kn, .tup (SqT.of upd_same) (.cons (.int _) (.cons (h2.keep g1 kn) .nil))⟩
theorem itr_enT {a : Addr} {xs : List D} (g : GH K G H) (r : Dv K G H (.tup xs) (.ref a)) : ItR K G H (IteT K.f a) (enD xs) (fun _ => True) := by
  have key : ∀ G1 H1, Keep G H G1 H1 → ∃ ws, SqT K.f H1 a ws ∧ DvL K G1 H1 xs ws := fun G1 H1 k => by
    have r1 := r.keep g k
    cases r1 with
    | tup s rl => exact ⟨_, s, rl⟩
  refine ⟨fun G1 H1 k g1 gd => ?_, fun i G1 H1 hi k g1 gd => ?_, fun i x v G1 H1 H2 hi k g1 gd y => ?_⟩
  · obtain ⟨ws, s, rl⟩ := key G1 H1 k
    exact ⟨ws, s, by rw [enD_len, rl.length]⟩
  · obtain ⟨ws, s, rl⟩ := key G1 H1 k
    rw [enD_len] at hi
    have : i < ws.length := by rw [← rl.length]; exact hi
    exact ⟨ws, ws[i], s, by simp [this]⟩
  · obtain ⟨ws, s, rl⟩ := key G1 H1 k
    obtain ⟨T, u, rfl, nT, rfl, h1⟩ := y
    obtain ⟨x', e1, rfl⟩ := enD_get hi
    obtain ⟨w, h3, h2⟩ := rl.get e1
    rw [h1 ws s] at h3
    cases h3
    have kn := Keep.new (G := G1) (o := .tup [.int (i : Nat), u]) nT
    exact ⟨g1.new nT, kn, .tup (SqT.of upd_same) (.cons (.int _) (.cons (h2.keep g1 kn) .nil))⟩
end
theorem ienum_ {X : Cx} {Z : Zx} {W : WX} {e : Expr} {ta : TA3} {p pos tpos : Pos} {elts : List Expr} {kk : Nat} (hm : X.mg "enumerate" = none) (ha : PA3 X Z W [e] ta) (hg : Gl X "enumerate" := by rfl)
    (hs : starEach [e] X.env = [(false, eval e X.env)] := by rfl) :
    PI3 X Z W (.Tuple elts kk tpos) (.Call (.Name "enumerate" p) [e] [] pos) (ienum ta) := PI.imp (pi_enumA hg hm ha hs) fun σ H R h => by
  obtain ⟨σ3, G, R3, E3, g, rs, h, q, x⟩ := h
  refine ⟨σ3, G, _, E3, g, rs, h, fun ds G1 vs H1 ⟨d, xs, ed, e, h1⟩ g1 r1 k1 => ?_, x⟩
  subst ed
  cases r1 with
  | cons r1 rr =>
  cases rr
  by_cases ht : ∃ ys, d = .tup ys
  · obtain ⟨ys, rfl⟩ := ht
    cases e
    have r0 := r1
    cases r1 with
    | tup s rl => exact ⟨_, rfl, .inr ⟨⟨_, s⟩, q _ _ _ _ _ h1 g1 k1 (itr_enT g1 r0)⟩⟩
  · have e' := lq_of e fun ys z => ht ⟨ys, z⟩
    obtain ⟨a, vs, ea, s, rl⟩ := lq_ok g1 r1 e'
    subst ea
    exact ⟨_, rfl, .inl ⟨⟨_, s⟩, q _ _ _ _ _ h1 g1 k1 (itr_enL g1 r1 e')⟩⟩
end L3
namespace L3
open PySem PySem.Spec PyProof.Rows L2
open He (ga)
/-! ### constant dicts of the module: text keys, ints -/
def lkI : List (Str × Int) → Str → Option Int
  | [], _ => none
  | (k, i) :: r, z => if k == z then some i else lkI r z
def entsB : List (Str × Int) → List DictEntry → Bool
  | [], [] => true
  | (k, i) :: r, e :: es => (match e.key, e.val with
    | .str x _, .int j _ => decide (x = k) && decide (j = i)
    | _, _ => false) && entsB r es
  | _, _ => false
def tabI (x : Str) (kvs : List (Str × Int)) (K : PySem.W.Frag) : Bool := match K.lookup (ga K x) with
  | some o => (match o.data with
    | .dict es _ => entsB kvs es.toList
    | _ => false)
  | _ => false
structure TabF (K : PySem.W.Frag) (w : World) (d : Addr) (kvs : List (Str × Int)) : Prop where
  dk : ∃ es n, KDict K w d es n ∧ entsB kvs es.toList = true
theorem tabF_ok {K : PySem.W.Frag} {w : World} {x : Str} {kvs : List (Str × Int)} (h : tabI x kvs K = true) (c : ∃ es n, KDict K w (ga K x) es n) : TabF K w (ga K x) kvs := by
  obtain ⟨es, n, D⟩ := c
  refine ⟨es, n, D, ?_⟩
  unfold tabI at h
  rw [D.at_] at h
  exact h
theorem ents_find : ∀ {kvs : List (Str × Int)} {l : List DictEntry}, entsB kvs l = true → ∀ z, (match lkI kvs z with
    | some i => ∃ t, (l.find? fun e => Value.isStrOf z e.key).map (·.val) = some (.int i t)
    | none => (l.find? fun e => Value.isStrOf z e.key).map (·.val) = none)
  | [], [], _, z => rfl
  | [], _ :: _, h, _ => by cases h
  | _ :: _, [], h, _ => by cases h
  | (k, i) :: r, e :: es, h, z => by
    have h : ((match e.key, e.val with
      | .str x _, .int j _ => decide (x = k) && decide (j = i)
      | _, _ => false) && entsB r es) = true := h
    obtain ⟨h1, h2⟩ := He.ba h
    have ih := ents_find h2 z
    obtain ⟨hh, ek, ev⟩ := e
    dsimp only at h1
    cases ek with
    | str x t =>
      cases ev with
      | int j u =>
        obtain ⟨h3, h4⟩ := He.ba h1
        have h3 := of_decide_eq_true h3
        have h4 := of_decide_eq_true h4
        subst h3 h4
        have e1 : Value.isStrOf z (Value.str x t) = (x == z) := rfl
        rw [List.find?_cons]
        dsimp only
        rw [e1]
        show (match (if x == z then some j else lkI r z) with
          | some i => _
          | none => _)
        cases q : x == z with
        | true => exact ⟨u, rfl⟩
        | false => exact ih
      | _ => cases h1
    | _ => simp at h1
section
variable {X : Cx} {x : Str} {d : Addr} {kvs : List (Str × Int)} {i e f : Expr} {ty tx : TE} {p pos apos cpos : Pos}
theorem tab_map {pins : List (Addr × Obj)} {σ : L2.St} {H : Hp} {s : Shared} (T : TabF X.K X.w d kvs) (I : Inv X pins σ H s) : ∃ g : Str → Option Value, s.heap.MapOf (strKind X.prog X.w) d g ∧ (d == sysModules) = false ∧
    ∀ z, (match lkI kvs z with | some i => ∃ t, g z = some (.int i t) | none => g z = none) := by
  obtain ⟨es, n, D, he⟩ := T.dk
  refine ⟨_, PySem.W.mapOf_K (prog := X.prog) I.kIn D.at_ D.lit, D.low, fun z => ?_⟩
  have := ents_find he z
  obtain ⟨l⟩ := es
  unfold findBy
  rw [List.find?_toArray]
  exact this
theorem pe_kix (hm : X.mg x = some (.ref d)) (T : TabF X.K X.w d kvs) (hi : PE X i ty) (hs : NoSl i) (hg : Gl X x) (hd : (x == ("__debug__" : Str)) = false) :
    PE X (.Subscript (.Name x p) i pos) (fun σ H Q => ty σ H fun y H2 => ∃ z j, y = .str z ∧ lkI kvs z = some j ∧ Q (.int j) H2) := by
  refine ⟨fun pins s σ H Q I h => ?_⟩
  refine subD_of PySem.F.slot_dict_getitem.lookup hs (thn ((pe_glob (v := .ref d) hg hm rfl hd).run pins s σ H (fun v H' => v = .ref d ∧ ty σ H' fun y H2 => ∃ z j, y = .str z ∧ lkI kvs z = some j ∧ Q (.int j) H2) I ⟨rfl, h⟩) fun u s1 ⟨x1, H1, I1, rx, ex, q1⟩ => thn (hi.run pins s1 σ H1 _ I1 q1) fun iv s2 ⟨y, H2, I2, ry, z, j, ey, l, q2⟩ => ?_)
  subst ex ey
  obtain rfl : u = Value.ref d := rx
  obtain ⟨t, rfl⟩ := ry
  obtain ⟨g, M, lo, hz⟩ := tab_map T I2
  have hz := hz z
  rw [l] at hz
  obtain ⟨t2, hz⟩ := hz
  exact ⟨M.typeIs, wpAny_getItem_of (PySem.strKind_is X.prog X.w z t) M hz ⟨.int j, H2, I2.tok _, ⟨_, rfl⟩, q2⟩⟩
theorem pe_kget (hm : X.mg x = some (.ref d)) (T : TabF X.K X.w d kvs) (he : PE X e ty) (hf : PE X f tx) (m : M2 X (.Name x p) "get" apos e f cpos) (hg : Gl X x) (hd : (x == ("__debug__" : Str)) = false) :
    PE X (.Call (.Attribute (.Name x p) "get" apos) [e, f] [] cpos) (fun σ H Q => ty σ H fun y H2 => tx σ H2 fun v H3 => ∃ z, y = .str z ∧ Q (match lkI kvs z with | some j => .int j | none => v) H3) := by
  refine ⟨fun pins s σ H Q I h => ?_⟩
  refine wpAny_Call_method m.base m.few m.line PySem.F.plainAttrs_dict PySem.F.slot_dict_get PySem.F.type_dict_get (thn ((pe_glob (v := .ref d) hg hm rfl hd).run pins s σ H (fun v H' => v = .ref d ∧ ty σ H' fun y H2 => tx σ H2 fun v H3 => ∃ z, y = .str z ∧ Q (match lkI kvs z with | some j => .int j | none => v) H3) I ⟨rfl, h⟩) fun u s1 ⟨x1, H1, I1, rx, ex, q1⟩ => ?_)
  subst ex
  obtain rfl : u = Value.ref d := rx
  obtain ⟨g, M, lo, hz⟩ := tab_map T I1
  refine ⟨M.typeIs, fun b q => ?_, ?_⟩
  · cases q
    obtain ⟨es, n, D, _⟩ := T.dk
    exact ⟨_, I1.kIn _ _ D.at_, rfl⟩
  rw [m.trees]
  refine Calls.callWith_builtin rfl (Calls.evalArgs_plain (Calls.spliced_cons (thn (he.run pins s1 σ H1 _ I1 q1) fun iv s2 ⟨y, H2, I2, ry, q2⟩ =>
    Calls.spliced_cons (thn (hf.run pins s2 σ H2 _ I2 q2) fun fv s3 ⟨v, H3, I3, rv, z, ey, q3⟩ => Calls.spliced_nil ?_))))
  subst ey
  obtain ⟨t, rfl⟩ := ry
  obtain ⟨g, M, lo, hz⟩ := tab_map T I3
  refine call_meetsIn PySem.F.slot_dict_get M.typeIs PySem.F.entry_dict_get (PySem.F.args_dict_get_3 _ _ _) (meets_dict_get_default (strKind X.prog X.w) d (PySem.strKind_is X.prog X.w z t) lo fv) ⟨_, M, _, H3, I3.tok _, ?_, q3⟩
  have hz := hz z
  cases l : lkI kvs z with
  | none => rw [l] at hz; rw [hz]; exact rv
  | some j => rw [l] at hz; obtain ⟨t2, hz⟩ := hz; rw [hz]; exact ⟨_, rfl⟩
end
/-- C[y], C a constant dict -/
def tkix (kvs : List (Str × Int)) (ty : TE3) : TE3 := fun σ G Q E => ty σ G (fun y G1 => ∃ z j, y = .str z ∧ lkI kvs z = some j ∧ Q (.int j) G1) E
/-- C.get(y, x) -/
def tkget (kvs : List (Str × Int)) (ty tx : TE3) : TE3 := fun σ G Q E => ty σ G (fun y G1 => tx σ G1 (fun v G2 => ∃ z, y = .str z ∧ Q (match lkI kvs z with | some j => .int j | none => v) G2) E) E
section
variable {X : Cx} {Z : Zx} {W : WX} {x : Str} {d : Addr} {kvs : List (Str × Int)} {i e f : Expr} {ty tx : TE3} {p pos apos cpos : Pos}
theorem kix_ (hm : X.mg x = some (.ref d)) (T : TabF X.K X.w d kvs) (hi : PE3 X Z W i ty) (hs : NoSl i) (hg : Gl X x := by rfl) (hd : (x == ("__debug__" : Str)) = false := by decide +kernel) :
    PE3 X Z W (.Subscript (.Name x p) i pos) (tkix kvs ty) := PE.imp (pe_kix hm T hi hs hg hd) fun σ H Q h => by
  obtain ⟨σ3, G, Q3, E3, g, rs, h, q, xx⟩ := h
  refine ⟨σ3, G, _, E3, g, rs, h, fun y G1 v H1 ⟨z, j, e, l, h1⟩ g1 r1 k1 => ?_, xx⟩
  subst e
  cases r1
  exact ⟨z, j, rfl, l, q_of (q.keep k1) g1 h1 (.int _)⟩
theorem kget_ (hm : X.mg x = some (.ref d)) (T : TabF X.K X.w d kvs) (he : PE3 X Z W e ty) (hf : PE3 X Z W f tx) (hg : Gl X x := by rfl) (hd : (x == ("__debug__" : Str)) = false := by decide +kernel)
    (hbase : attributeBase (.Name x p) "get" X.env (eval (.Name x p) X.env) = eval (.Name x p) X.env := by rfl)
    (hfew : ((backTo cpos (starEach [e, f] X.env)).all (fun x => !x.1) && (backToKw cpos (keywordEach [] X.env)).all (fun x => x.1.isSome)
      && decide (([e, f] : List Expr).length + ([] : List Keyword).length + (if ([] : List Keyword).isEmpty then 0 else 1) < 30)) = true := by rfl)
    (hline : (apos.endLine == cpos.line) = true := by rfl) (htr : backTo cpos (starEach [e, f] X.env) = [(false, eval e X.env), (false, eval f X.env)] := by rfl) :
    PE3 X Z W (.Call (.Attribute (.Name x p) "get" apos) [e, f] [] cpos) (tkget kvs ty tx) := PE.imp (pe_kget hm T he hf ⟨hbase, hfew, hline, htr⟩ hg hd) fun σ H Q h => by
  obtain ⟨σ3, G, Q3, E3, g, rs, h, q, xx⟩ := h
  refine ⟨σ3, G, _, E3, g, rs, h, fun y G1 v H1 h1 g1 r1 k1 => ?_, xx⟩
  refine ⟨σ3, G1, _, E3, g1, rs.keep g k1, h1, fun d2 G2 v2 H2 ⟨z, e, h2⟩ g2 r2 k2 => ?_, xx.keep k1⟩
  subst e
  cases r1
  refine ⟨z, rfl, ?_⟩
  cases l : lkI kvs z with
  | none => rw [l] at h2; exact q_of (q.keep (k1.trans k2)) g2 h2 r2
  | some j => rw [l] at h2; exact q_of (q.keep (k1.trans k2)) g2 h2 (.int _)
end
end L3
namespace L3
open PySem PySem.Spec PyProof.Rows L2
open He (ga)
/-! ### i << j -/
def shl3 : Q2 := fun x y G Q => match x, y with
  | .int i, .int j => CPow i j ∧ Q (.int (i * 2 ^ j.toNat)) G
  | _, _ => False
section
variable {X : Cx} {Z : Zx}
theorem o_shl : OpR3 X Z (binaryOp .LShift) shl3 := by
  refine ⟨_, op_shl, fun G H x y v u Q3 Q g rx ry h q => ?_⟩
  unfold shl3 at h
  split at h
  · cases rx; cases ry
    exact ⟨_, _, rfl, rfl, h.1, q_of q g h.2 (.int _)⟩
  · exact h.elim
end
/-! ### xs[i] op= e -/
theorem pg_list {X : Cx} : PGet X (fun x y H Q => ∃ p xs i v, x = .ref p ∧ y = .int i ∧ 0 ≤ i ∧ SqL X.K H p xs ∧ xs[i.toNat]? = some v ∧ Q v H) := by
  intro pins s σ H x y v u Q I rx ry h
  obtain ⟨p, xs, i, z, rfl, rfl, h0, hq, he, q⟩ := h
  cases rx
  obtain ⟨t, rfl⟩ := ry
  obtain ⟨its, r, pl, hz⟩ := I.list hq
  obtain ⟨w, ew, rw'⟩ := r.get he
  have hl := r.length
  have hlt : i.toNat < xs.length := (List.getElem?_eq_some_iff.mp he).1
  have hn := line63
  exact wpAny_getItem_list pl.isList h0 (by omega) (by simpa using ew) ⟨z, H, I, rw', q⟩
def saugS (to ti te : TE3) (ip : Q2) : TS3 := fun E σ G => to σ G (fun o G1 => ti σ G1 (fun i G2 => ∃ xs k d, lq G2 o = some xs ∧ i = .int k ∧ 0 ≤ k ∧ xs[k.toNat]? = some d ∧
  te σ G2 (fun y G3 => ip d y G3 fun z G4 => setL3 o i z G4 fun G5 => E.nx σ G5) (fun x G1 => E.ex x σ G1)) (fun x G1 => E.ex x σ G1)) (fun x G1 => E.ex x σ G1)
section
variable {X : Cx} {Z : Zx} {W : WX} {o i e : Expr} {to ti te : TE3} {ip : Q2} {op : Operator} {tpos pos : Pos}
theorem augS_ (hp : IpR3 X Z op ip) (ho : PE3 X Z W o to) (hi : PE3 X Z W i ti) (he : PE3 X Z W e te)
    (ha : ∀ ov iv new, augStore i ov iv new = (do holding [new, ov, iv] (setItem ov iv new); release [new, ov, iv] []; pure .next) := by intros; rfl) :
    PS3 X Z W (.AugAssign (.Subscript o i tpos) op e pos) (saugS to ti te ip) := by
  obtain ⟨r, hp, k⟩ := hp
  obtain ⟨rs, hs, ks⟩ := se_list (X := X) (Z := Z)
  refine PS.imp (ps_augS ho hi pg_list he hp hs ha) fun D σ H h => ?_
  obtain ⟨σ3, G, D3, g, rs, h, d⟩ := h
  refine ⟨σ3, G, _, _, g, rs, h, fun x G1 v H1 h1 g1 r1 k1 => ?_, d.exk g rs⟩
  refine ⟨σ3, G1, _, _, g1, rs.keep g k1, h1, fun x2 G2 v2 H2 ⟨xs, kk, dd, e1, e2, e3, e4, h2⟩ g2 r2 k2 => ?_, (d.keep k1).exk g1 (rs.keep g k1)⟩
  subst e2
  have r1' := r1.keep g1 k2
  obtain ⟨a, vs, ea, s, rl⟩ := lq_ok g2 r1' e1
  subst ea
  cases r2
  obtain ⟨w, ew, rw'⟩ := rl.get e4
  refine ⟨a, vs, kk, w, rfl, rfl, e3, s, ew, ?_⟩
  refine ⟨σ3, G2, _, _, g2, (rs.keep g k1).keep g1 k2, h2, fun x3 G3 v3 H3 h3 g3 r3 k3 => ?_, ((d.keep k1).keep k2).exk g2 ((rs.keep g k1).keep g1 k2)⟩
  refine k G3 H3 dd x3 w v3 _ _ g3 (rw'.keep g2 k3) r3 h3 fun z G4 u4 H4 h4 g4 r4 k4 => ?_
  refine ks G4 H4 x (.int kk) z _ _ u4 _ _ g4 ((r1'.keep g2 k3).keep g3 k4) (.int kk) r4 h4 fun G5 H5 h5 g5 k5 => ?_
  exact d.nx _ _ _ _ h5 g5 (((((rs.keep g k1).keep g1 k2).keep g2 k3).keep g3 k4).keep g4 k5) ((((k1.trans k2).trans k3).trans k4).trans k5)
end
end L3
/-! ### list(zip(x, y)) of two tuples: the next pair while the last one is held -/
namespace PySem
open Sem (wp)
section
variable {prog : Program} {w : World} {A : Around} {E : Value → Shared → Prop} {s : Shared} {z TI TO T i1 i2 a b : Addr} {f : Bool} {oT : Obj} {i : Nat} {xs ys : Array Value}
theorem lz_begin {Q : Fin → Shared → Prop} (hz : IsZipHeld s.heap z TI TO T f) (hT : s.heap.get? T = some oT) (hp : IsPair s.heap TI (.ref i1) (.ref i2))
    (h : ∀ h₁, IsZipHeld h₁ z TI TO T true → Heap.SameBut z s.heap h₁ → wpAny (model prog w) A (Builtin.SmallTypes.nextOf (.ref i1)) (fun x s1 => wpAny (model prog w) A (Builtin.SmallTypes.nextOf (.ref i2)) (fun y s2 => Q (.done (.ret (.ref s2.heap.objs.size))) { s2 with heap := s2.heap.push { cls := .type "tuple", data := .seq #[x, y] } }) E s1) E { s with heap := h₁ }) :
    wpAny (model prog w) A (Builtin.«zip.__next__» ⟨[.ref z], []⟩) Q E s := by
  show wpAny _ _ (field (.ref z) 2 >>= _) Q E s
  refine wpAny_bind (wpAny_field hz rfl (x := .bool false) rfl (?_ : wpAny _ _ (field (.ref z) 3 >>= _) _ _ _))
  refine wpAny_bind (wpAny_field hz rfl (x := .ref TI) rfl (wpAny_bind (wpAny_seqItems hp rfl ?_)))
  refine (?_ : wpAny _ _ (Builtin.SmallTypes.ownedTupleIsFree (.ref z) >>= _) _ _ _)
  refine wpAny_bind (wpAny_tupleHeld_zip hz hT fun h₁ k1 k2 => ?_)
  simp only [Bool.false_eq_true, if_false]
  rw [← Array.forIn_toList]; simp only [List.forIn_cons, List.forIn_nil]
  refine wpAny_bind (wpAny_bind (wpAny_bind (wpAny_holding (?_ : wpAny _ _ (Builtin.SmallTypes.nextOf (.ref i1) >>= _) _ _ _))))
  refine wpAny_bind (wpAny_mono (h h₁ k1 k2) (fun x s1 hx => wpAny_pure (wpAny_pure ?_)) fun _ _ e => e)
  refine wpAny_bind (wpAny_bind (wpAny_holding (?_ : wpAny _ _ (Builtin.SmallTypes.nextOf (.ref i2) >>= _) _ _ _)))
  refine wpAny_bind (wpAny_mono hx (fun y s2 hy => wpAny_pure (wpAny_pure (wpAny_pure ?_))) fun _ _ e => e)
  refine (?_ : wpAny _ _ (newTuple [x, y] >>= _) _ _ _)
  exact wpAny_bind (wpAny_newTuple (wpAny_pure hy))
theorem lz_item {x y : Value} {Q : Option Value → Shared → Prop} (D : ZipApart z TI TO i1 i2 a b) (hz : IsZipHeld s.heap z TI TO T f) (hT : s.heap.get? T = some oT) (hp : IsPair s.heap TI (.ref i1) (.ref i2))
    (h1 : s.heap.IsTupleIter i1 a i) (h2 : s.heap.IsTupleIter i2 b i) (ha : s.heap.IsTuple a xs) (hb : s.heap.IsTuple b ys) (hx : xs[i]? = some x) (hy : ys[i]? = some y)
    (hQ : ∀ h', IsZipHeld h' z TI TO T true → h'.IsTupleIter i1 a (i + 1) → h'.IsTupleIter i2 b (i + 1) → IsPair h' s.heap.objs.size x y → h'.objs.size = s.heap.objs.size + 1 → (∀ c o, c ≠ z → c ≠ i1 → c ≠ i2 → s.heap.get? c = some o → h'.get? c = some o) → Q (some (.ref s.heap.objs.size)) { s with heap := h' }) :
    wpAny (model prog w) A (pyNext (.ref z)) Q E s := by
  have ty : s.TypeIs (.ref z) "zip" := ⟨_, hz, rfl⟩
  unfold pyNext
  refine wpAny_bind (wpAny_attempt (wpAny_callSpecial?_slot (name := Str.ofString "__next__") ty F.slot_zip_next (wpAny_call_entry F.slot_zip_next ty F.entry_zip_next (lz_begin hz hT hp fun h₁ e1 b1 => ?_) (F.args_zip_next_1 _))))
  refine RZ.nextOf_tuple_item (h1.extBut b1.extBut D.i1z) (ha.extBut b1.extBut D.l1z) hx fun h₂ k1 b2 => ?_
  refine RZ.nextOf_tuple_item ((h2.extBut b1.extBut D.i2z).extBut b2.extBut D.i12.symm) ((hb.extBut b1.extBut D.l2z).extBut b2.extBut D.l2i1) hy fun h₃ k2 b3 => ⟨_, rfl, ?_⟩
  have sz : h₃.objs.size = s.heap.objs.size := by rw [b3.1, b2.1, b1.1]
  have e3 : IsZipHeld h₃ z TI TO T true := b3.extBut _ _ D.i2z.symm (b2.extBut _ _ D.i1z.symm e1)
  have kk : ∀ c o, c ≠ z → c ≠ i1 → c ≠ i2 → s.heap.get? c = some o → h₃.get? c = some o := fun c o c1 c2 c3 e => b3.extBut _ _ c3 (b2.extBut _ _ c2 (b1.extBut _ _ c1 e))
  have k3 : h₃.IsTupleIter i1 a (i + 1) := k1.extBut b3.extBut D.i12
  have pr : IsPair (h₃.push { cls := .type "tuple", data := .seq #[x, y] }) h₃.objs.size x y := Heap.get?_push_size _ rfl
  have z4 : (h₃.push { cls := .type "tuple", data := .seq #[x, y] }).objs.size = h₃.objs.size + 1 := Heap.size_push ..
  dsimp only
  rw [sz] at pr z4 ⊢
  exact wpAny_pure (hQ _ (Heap.get?_push_of_some _ e3) (k3.at fun o e => Heap.get?_push_of_some _ e) (k2.at fun o e => Heap.get?_push_of_some _ e) pr z4 fun c o c1 c2 c3 e => Heap.get?_push_of_some _ (kk c o c1 c2 c3 e))
theorem lz_end {Q : Option Value → Shared → Prop} (hh : A.handled = none) (D : ZipApart z TI TO i1 i2 a b) (hz : IsZipHeld s.heap z TI TO T f) (hT : s.heap.get? T = some oT) (hp : IsPair s.heap TI (.ref i1) (.ref i2))
    (h1 : s.heap.IsTupleIter i1 a i) (h2 : s.heap.IsTupleIter i2 b i) (ha : s.heap.IsTuple a xs) (hb : s.heap.IsTuple b ys) (hend : xs[i]? = none ∨ ys[i]? = none)
    (hQ : ∀ h', (∀ c o, c ≠ z → c ≠ i1 → c ≠ i2 → s.heap.get? c = some o → h'.get? c = some o) → Q none { s with heap := h' }) : wpAny (model prog w) A (pyNext (.ref z)) Q E s := by
  have ty : s.TypeIs (.ref z) "zip" := ⟨_, hz, rfl⟩
  unfold pyNext
  refine wpAny_bind (wpAny_attempt (wpAny_callSpecial?_slot (name := Str.ofString "__next__") ty F.slot_zip_next (wpAny_call_entry F.slot_zip_next ty F.entry_zip_next (lz_begin hz hT hp fun h₁ e1 b1 => ?_) (F.args_zip_next_1 _))))
  cases hx : xs[i]? with
  | none =>
    refine RZ.nextOf_tuple_end hh (h1.extBut b1.extBut D.i1z) (ha.extBut b1.extBut D.l1z) hx fun h₂ e b2 ⟨o, ho, hc⟩ => ?_
    exact wpAny_bind (wpAny_isInstance (T := "StopIteration") (b := true) ⟨o, ho, hc⟩ isSubtype_stop (wpAny_pure (hQ _ fun c o c1 c2 _ x => b2 _ _ c2 (b1.extBut _ _ c1 x))))
  | some x =>
    have hy : ys[i]? = none := hend.resolve_left (by rw [hx]; simp)
    refine RZ.nextOf_tuple_item (h1.extBut b1.extBut D.i1z) (ha.extBut b1.extBut D.l1z) hx fun h₂ k1 b2 => ?_
    refine RZ.nextOf_tuple_end hh ((h2.extBut b1.extBut D.i2z).extBut b2.extBut D.i12.symm) ((hb.extBut b1.extBut D.l2z).extBut b2.extBut D.l2i1) hy fun h₃ e b3 ⟨o, ho, hc⟩ => ?_
    exact wpAny_bind (wpAny_isInstance (T := "StopIteration") (b := true) ⟨o, ho, hc⟩ isSubtype_stop (wpAny_pure (hQ _ fun c o c1 c2 c3 x => b3 _ _ c3 (b2.extBut _ _ c2 (b1.extBut _ _ c1 x)))))
end
/-! ### the whole list -/
structure LzAp (z TI TO i1 i2 a b S : Addr) : Prop where
  D : ZipApart z TI TO i1 i2 a b
  z : S ≠ z
  ti : S ≠ TI
  to : S ≠ TO
  i1 : S ≠ i1
  i2 : S ≠ i2
  a : S ≠ a
  b : S ≠ b
/-- the zip as it stands at turn i -/
def LzSt (h : Heap) (z TI TO i1 i2 a b S : Addr) (i : Nat) : Prop :=
  IsPair h TI (.ref i1) (.ref i2) ∧ h.IsTupleIter i1 a i ∧ h.IsTupleIter i2 b i ∧
  ((IsZip h z TI TO .none ∧ ∃ u v, IsPair h TO u v) ∨ ∃ T f u v, IsZipHeld h z TI TO T f ∧ IsPair h T u v ∧ T ≠ S)
theorem LzSt.keep {h h' : Heap} {z TI TO i1 i2 a b S : Addr} {i : Nat} (st : LzSt h z TI TO i1 i2 a b S i) (P : LzAp z TI TO i1 i2 a b S) (k : ∀ c o, c ≠ S → h.get? c = some o → h'.get? c = some o) : LzSt h' z TI TO i1 i2 a b S i := by
  obtain ⟨p, h1, h2, q⟩ := st
  refine ⟨k _ _ P.ti.symm p, h1.at fun o e => k _ o P.i1.symm e, h2.at fun o e => k _ o P.i2.symm e, ?_⟩
  rcases q with ⟨hz, u, v, t⟩ | ⟨T, f, u, v, hz, hT, n⟩
  · exact .inl ⟨k _ _ P.z.symm hz, u, v, k _ _ P.to.symm t⟩
  · exact .inr ⟨T, f, u, v, k _ _ P.z.symm hz, k _ _ n hT, n⟩
section
variable {prog : Program} {w : World} {A : Around} {E : Value → Shared → Prop} {s : Shared} {z TI TO i1 i2 a b S : Addr} {i : Nat} {xs ys : Array Value}
theorem lz_apart {T : Addr} {f : Bool} {u v : Value} {h : Heap} (hz : IsZipHeld h z TI TO T f) (hT : IsPair h T u v) (h1 : h.IsTupleIter i1 a i) (h2 : h.IsTupleIter i2 b i) : T ≠ z ∧ T ≠ i1 ∧ T ≠ i2 := by
  refine ⟨fun e => ?_, fun e => ?_, fun e => ?_⟩
  · subst e; have q1 : h.get? T = _ := hz; have q2 : h.get? T = _ := hT; rw [q1] at q2; simp at q2
  · subst e; obtain ⟨o, e1, e2, _⟩ := h1; have q2 : h.get? T = _ := hT; rw [q2] at e1; cases e1; simp at e2
  · subst e; obtain ⟨o, e1, e2, _⟩ := h2; have q2 : h.get? T = _ := hT; rw [q2] at e1; cases e1; simp at e2
theorem lz_next {x y : Value} {Q : Option Value → Shared → Prop} (P : LzAp z TI TO i1 i2 a b S) (st : LzSt s.heap z TI TO i1 i2 a b S i) (ha : s.heap.IsTuple a xs) (hb : s.heap.IsTuple b ys) (hx : xs[i]? = some x) (hy : ys[i]? = some y) (hS : S < s.heap.objs.size)
    (hQ : ∀ h', LzSt h' z TI TO i1 i2 a b S (i + 1) → IsPair h' s.heap.objs.size x y → h'.objs.size = s.heap.objs.size + 1 → (∀ c o, c ≠ z → c ≠ TO → c ≠ i1 → c ≠ i2 → s.heap.get? c = some o → h'.get? c = some o) → Q (some (.ref s.heap.objs.size)) { s with heap := h' }) :
    wpAny (model prog w) A (pyNext (.ref z)) Q E s := by
  obtain ⟨p, h1, h2, q⟩ := st
  have D := P.D
  rcases q with ⟨hz, u, v, t⟩ | ⟨T, f, u, v, hz, hT, n⟩
  · exact RZ.pyNext_zipT_item D hz p t h1 h2 ha hb hx hy fun h' z1 t1 k1 k2 pr sz kk => hQ h' ⟨kk _ _ D.TIz D.TITO D.TIi1 D.TIi2 p, k1, k2, .inr ⟨_, false, _, _, z1, pr, (Nat.ne_of_lt hS).symm⟩⟩ pr sz kk
  · obtain ⟨n1, n2, n3⟩ := lz_apart hz hT h1 h2
    exact lz_item D hz hT p h1 h2 ha hb hx hy fun h' z1 k1 k2 pr sz kk => hQ h' ⟨kk _ _ D.TIz D.TIi1 D.TIi2 p, k1, k2, .inr ⟨T, true, u, v, z1, kk _ _ n1 n2 n3 hT, n⟩⟩ pr sz fun c o c1 _ c3 c4 e => kk c o c1 c3 c4 e
theorem lz_done {Q : Option Value → Shared → Prop} (hh : A.handled = none) (P : LzAp z TI TO i1 i2 a b S) (st : LzSt s.heap z TI TO i1 i2 a b S i) (ha : s.heap.IsTuple a xs) (hb : s.heap.IsTuple b ys) (hend : xs[i]? = none ∨ ys[i]? = none)
    (hQ : ∀ h', (∀ c o, c ≠ z → c ≠ TO → c ≠ i1 → c ≠ i2 → s.heap.get? c = some o → h'.get? c = some o) → Q none { s with heap := h' }) : wpAny (model prog w) A (pyNext (.ref z)) Q E s := by
  obtain ⟨p, h1, h2, q⟩ := st
  rcases q with ⟨hz, u, v, t⟩ | ⟨T, f, u, v, hz, hT, n⟩
  · exact RZ.pyNext_zipT_end hh P.D hz p t h1 h2 ha hb hend hQ
  · exact lz_end hh P.D hz hT p h1 h2 ha hb hend fun h' kk => hQ h' fun c o c1 _ c3 c4 e => kk c o c1 c3 c4 e
end
structure LzG (xs ys : Array Value) (lo : Addr) (h : Heap) (as : List Addr) : Prop where
  rise : as.Pairwise (· < ·)
  above : ∀ c ∈ as, lo ≤ c
  pairs : ∀ (j : Nat) (c : Addr), as[j]? = some c → ∃ x y, xs[j]? = some x ∧ ys[j]? = some y ∧ IsPair h c x y
theorem LzG.there {xs ys : Array Value} {lo : Addr} {h : Heap} {as : List Addr} (g : LzG xs ys lo h as) {c : Addr} (hc : c ∈ as) : c < h.objs.size := by
  obtain ⟨j, hj⟩ := List.mem_iff_getElem?.mp hc
  obtain ⟨_, _, _, _, e⟩ := g.pairs j c hj; exact Heap.lt_size e
section
variable {prog : Program} {w : World} {A : Around} {s : Shared} {R : Result → Shared → Prop} {xs ys : Array Value} {z TI TO i1 i2 a b S : Addr} {n : Nat}
theorem lz_loop (hh : A.handled = none) (P : LzAp z TI TO i1 i2 a b S) (hn : n ≤ sizeLine) (l1 : xs.size = n) (l2 : ys.size = n) (res : Value) {h₁ : Heap} (b1 : z < h₁.objs.size ∧ TO < h₁.objs.size ∧ i1 < h₁.objs.size ∧ i2 < h₁.objs.size ∧ S < h₁.objs.size)
    (hR : ∀ h' tk acc c as, (∀ d o, d ≠ S → d ≠ z → d ≠ TO → d ≠ i1 → d ≠ i2 → h₁.get? d = some o → h'.get? d = some o) → h'.get? S = some { cls := .type "list", dict := none, data := .seq acc c, slots := #[] } → as.length = n → LzG xs ys h₁.objs.size h' as → acc.toList = as.map Value.ref → R (.ok (.ret res)) { s with heap := h', toks := tk }) :
    ∀ (k i : Nat) (h : Heap) (tk c : Nat) (acc : Array Value) (as : List Addr), n - i = k → i ≤ n → LzSt h z TI TO i1 i2 a b S i → h.IsTuple a xs → h.IsTuple b ys → (∀ d o, d ≠ S → d ≠ z → d ≠ TO → d ≠ i1 → d ≠ i2 → h₁.get? d = some o → h.get? d = some o) →
      h.get? S = some { cls := .type "list", dict := none, data := .seq acc c, slots := #[] } → acc.toList = as.map Value.ref → as.length = i → LzG xs ys h₁.objs.size h as → h₁.objs.size ≤ h.objs.size → codeAny (model prog w) A (.builtin "list.extend.loop" ⟨[.ref S, .ref z, res], []⟩) R { s with heap := h, toks := tk } := by
  obtain ⟨bz, bt, b1, b2, bS⟩ := b1
  have D := P.D
  have low : ∀ {h : Heap} {as : List Addr}, LzG xs ys h₁.objs.size h as → ∀ c ∈ as, c ≠ S ∧ c ≠ z ∧ c ≠ TO ∧ c ≠ i1 ∧ c ≠ i2 := fun g c hc => by
    have : h₁.objs.size ≤ c := g.above c hc
    exact ⟨Nat.ne_of_gt (Nat.lt_of_lt_of_le bS this), Nat.ne_of_gt (Nat.lt_of_lt_of_le bz this), Nat.ne_of_gt (Nat.lt_of_lt_of_le bt this), Nat.ne_of_gt (Nat.lt_of_lt_of_le b1 this), Nat.ne_of_gt (Nat.lt_of_lt_of_le b2 this)⟩
  intro k
  induction k with
  | zero =>
    intro i h tk c acc as hk hi st ha hb kp hS hacc hal hG hsz
    refine codeAny_builtin PySem.F.entry_extend_loop ?_; rw [Around.under_plainId PySem.F.plain_extend_loop _]
    refine (?_ : wpAny _ A.in1 (pyNext (.ref z) >>= _) _ _ _)
    refine wpAny_bind (lz_done (s := { s with heap := h, toks := tk }) (A := A.in1) hh P st ha hb (.inl (by simp; omega)) fun h' kk => wpAny_pure (hR h' tk acc c as (fun d o d1 d2 d3 d4 d5 e => kk d o d2 d3 d4 d5 (kp d o d1 d2 d3 d4 d5 e)) (kk S _ P.z P.to P.i1 P.i2 hS) (by omega) ⟨hG.rise, hG.above, fun j c hj => ?_⟩ hacc))
    obtain ⟨x, y, e1, e2, e3⟩ := hG.pairs j c hj
    obtain ⟨_, m2, m3, m4, m5⟩ := low hG c (List.mem_of_getElem? hj)
    exact ⟨x, y, e1, e2, kk c _ m2 m3 m4 m5 e3⟩
  | succ k ih =>
    intro i h tk c acc as hk hi st ha hb kp hS hacc hal hG hsz
    have hx : xs[i]? = some (xs[i]'(by omega)) := by simp
    have hy : ys[i]? = some (ys[i]'(by omega)) := by simp
    have asz : acc.size = i := by rw [← Array.length_toList, hacc, List.length_map, hal]
    have bS' : S < h.objs.size := Nat.lt_of_lt_of_le bS hsz
    refine codeAny_builtin PySem.F.entry_extend_loop ?_; rw [Around.under_plainId PySem.F.plain_extend_loop _]
    refine (?_ : wpAny _ A.in1 (pyNext (.ref z) >>= _) _ _ _)
    refine wpAny_bind (lz_next (s := { s with heap := h, toks := tk }) P st ha hb hx hy bS' fun h' st' pr sz kk => ?_)
    dsimp only at pr sz kk ⊢
    have hS' := kk S _ P.z P.to P.i1 P.i2 hS
    have up : ∀ d o, d ≠ S → h'.get? d = some o → (h'.update S (Obj.mapSeq (·.push (Value.ref h.objs.size)))).get? d = some o := fun d o hd e => (Heap.get?_update_other _ _ (Ne.symm hd)).trans e
    have tup : ∀ {t : Addr} {us : Array Value}, h.IsTuple t us → t ≠ S → t ≠ z → t ≠ TO → t ≠ i1 → t ≠ i2 → (h'.update S (Obj.mapSeq (·.push (Value.ref h.objs.size)))).IsTuple t us := fun ⟨o, e, q⟩ m1 m2 m3 m4 m5 => ⟨o, up _ _ m1 (kk _ _ m2 m3 m4 m5 e), q⟩
    have usz : (h'.update S (Obj.mapSeq (·.push (Value.ref h.objs.size)))).objs.size = h.objs.size + 1 := by rw [Heap.size_update]; exact sz
    refine (?_ : wpAny _ A.in1 (updateSeq S (·.push (Value.ref h.objs.size)) >>= _) _ _ _)
    refine wpAny_bind (wpAny_updateSeq hS' rfl (wpAny_pure ⟨plainId_quiet PySem.F.plain_extend_loop _, ih (i + 1) _ tk _ (acc.push (Value.ref h.objs.size)) (as ++ [h.objs.size]) (by omega) (by omega) (st'.keep P up) (tup ha P.a.symm D.l1z D.l1TO D.l1i1 D.l1i2) (tup hb P.b.symm D.l2z D.l2TO D.l2i1 D.l2i2)
      (fun d o d1 d2 d3 d4 d5 e => up d o d1 (kk d o d2 d3 d4 d5 (kp d o d1 d2 d3 d4 d5 e))) (Heap.get?_update_self _ hS' rfl) (by rw [Array.toList_push, hacc, List.map_append]; rfl) (by rw [List.length_append, hal]; rfl) ⟨?_, ?_, ?_⟩ (Nat.le_trans hsz (Nat.le_of_lt (Nat.lt_of_lt_of_eq (Nat.lt_succ_self _) usz.symm)))⟩) (by rw [asz]; omega) (by show (acc.push (Value.ref h.objs.size)).size ≤ sizeLine + 1; rw [Array.size_push, asz]; omega))
    · refine List.pairwise_append.mpr ⟨hG.rise, List.pairwise_singleton _ _, fun c hc d hd => ?_⟩
      rw [List.mem_singleton.mp hd]; exact hG.there hc
    · intro c hc
      rcases List.mem_append.mp hc with hc | hc
      · exact hG.above c hc
      · rw [List.mem_singleton.mp hc]; exact hsz
    · intro j c hj
      by_cases h1 : j < as.length
      · rw [List.getElem?_append_left h1] at hj
        obtain ⟨x, y, e1, e2, e3⟩ := hG.pairs j c hj
        obtain ⟨m1, m2, m3, m4, m5⟩ := low hG c (List.mem_of_getElem? hj)
        exact ⟨x, y, e1, e2, up c _ m1 (kk c _ m2 m3 m4 m5 e3)⟩
      · rw [List.getElem?_append_right (by omega)] at hj
        have j0 : j = as.length := by
          by_cases q : j - as.length = 0
          · omega
          · rw [List.getElem?_eq_none (by simp; omega)] at hj; cases hj
        subst j0
        have e : h.objs.size = c := by simpa using hj
        subst e
        exact ⟨_, _, by rw [hal]; exact hx, by rw [hal]; exact hy, up _ _ (Nat.ne_of_gt bS') pr⟩
end
theorem lz_no_len : typeLookup (.type "zip") "__len__" = pure none := am_miss_of_fast (by decide +kernel)
theorem lz_no_hint : typeLookup (.type "zip") "__length_hint__" = pure none := am_miss_of_fast (by decide +kernel)
section
variable {prog : Program} {w : World} {A : Around} {E : Value → Shared → Prop} {s : Shared} {xs ys : Array Value} {z TI TO i1 i2 a b : Addr} {n : Nat}
theorem lz_ext {R : Result → Shared → Prop} {S : Addr} (hh : A.handled = none) (P : LzAp z TI TO i1 i2 a b S) (hn : n ≤ sizeLine) (l1 : xs.size = n) (l2 : ys.size = n) (res : Value) (hz : IsZip s.heap z TI TO .none) (st : LzSt s.heap z TI TO i1 i2 a b S 0) (ha : s.heap.IsTuple a xs) (hb : s.heap.IsTuple b ys)
    (bb : z < s.heap.objs.size ∧ TO < s.heap.objs.size ∧ i1 < s.heap.objs.size ∧ i2 < s.heap.objs.size ∧ S < s.heap.objs.size) (c₀ : Nat) (hS : s.heap.get? S = some { cls := .type "list", data := .seq #[] c₀ })
    (hR : ∀ h' tk acc c as, (∀ d o, d ≠ S → d ≠ z → d ≠ TO → d ≠ i1 → d ≠ i2 → s.heap.get? d = some o → h'.get? d = some o) → h'.get? S = some { cls := .type "list", dict := none, data := .seq acc c, slots := #[] } → as.length = n → LzG xs ys s.heap.objs.size h' as → acc.toList = as.map Value.ref → R (.ok (.ret res)) { s with heap := h', toks := tk }) :
    wpAny (model prog w) A.in1 (Builtin.List.listExtendWith (.ref S) (.ref z) res) (fun fin s' => match fin with | .done f => R (.ok f) s' | .again c' => c'.quiet = true ∧ codeAny (model prog w) A c' R s') (fun e s' => R (.error e) s') s := by
  have ty : s.TypeIs (.ref z) "zip" := ⟨_, hz, rfl⟩
  unfold Builtin.List.listExtendWith
  refine wpAny_bind (wpAny_typeOf (T := "zip") ty ?_)
  have f1 : Builtin.List.listSameRef (.ref S) (.ref z) = false := by simp [Builtin.List.listSameRef, P.z]
  have f2 : (Value.type "zip" == Value.type "list") = false := by decide
  have f3 : (Value.type "zip" == Value.type "tuple") = false := by decide
  simp only [f1, f2, f3, Bool.or_false, Bool.false_eq_true, if_false]
  refine wpAny_bind (wpAny_pyIter_zip hz (wpAny_bind (wpAny_holding ?_)))
  unfold Builtin.List.listLengthHint
  refine wpAny_bind (wpAny_specialOf ty lz_no_len (?_ : wpAny _ A.in1 (specialOf (Value.ref z) (Str.ofString "__length_hint__") >>= _) _ _ _))
  refine wpAny_bind (wpAny_specialOf ty lz_no_hint (wpAny_pure (?_ : wpAny _ A.in1 (rule "list.extend.makes-room" >>= fun _ => Builtin.List.listTouch (.ref S) >>= fun _ => again (.builtin "list.extend.loop" ⟨[.ref S, .ref z, res], []⟩)) _ _ _)))
  refine wpAny_bind (wpAny_rule (wpAny_bind (?_ : wpAny _ A.in1 (updateSeq S (·.push .none) >>= fun _ => updateSeq S (·.pop)) _ _ _)))
  refine wpAny_bind (wpAny_updateSeq hS rfl ?_)
  have g2 := Heap.get?_update_self (Obj.mapSeq (·.push Value.none)) hS rfl
  refine wpAny_updateSeq (hz := by seq_fits) g2 rfl ?_
  have g3 := Heap.get?_update_self (Obj.mapSeq (·.pop)) g2 rfl
  have up : ∀ d o, d ≠ S → s.heap.get? d = some o → ((s.heap.update S (Obj.mapSeq (·.push Value.none))).update S (Obj.mapSeq (·.pop))).get? d = some o := fun d o hd e => (Heap.get?_update_other _ _ (Ne.symm hd)).trans ((Heap.get?_update_other _ _ (Ne.symm hd)).trans e)
  have tup : ∀ {t : Addr} {us : Array Value}, s.heap.IsTuple t us → t ≠ S → ((s.heap.update S (Obj.mapSeq (·.push Value.none))).update S (Obj.mapSeq (·.pop))).IsTuple t us := fun ⟨o, e, q⟩ m => ⟨o, up _ _ m e, q⟩
  exact wpAny_pure ⟨plainId_quiet PySem.F.plain_extend_loop _, lz_loop (s := s) hh P hn l1 l2 res bb hR n 0 _ s.toks _ #[] [] (Nat.sub_zero _) (Nat.zero_le _) (st.keep P up) (tup ha P.a.symm) (tup hb P.b.symm) (fun d o d1 _ _ _ _ e => up d o d1 e) g3 rfl rfl ⟨List.Pairwise.nil, (fun _ h => nomatch h), (fun j c h => by simp at h)⟩ (by rw [Heap.size_update, Heap.size_update]; exact Nat.le_refl _)⟩
theorem lz_call {Q : Value → Shared → Prop} (hh : A.handled = none) (D : ZipApart z TI TO i1 i2 a b) (hn : n ≤ sizeLine) (l1 : xs.size = n) (l2 : ys.size = n) (hz : IsZip s.heap z TI TO .none) (hp : IsPair s.heap TI (.ref i1) (.ref i2)) {u v : Value} (ht : IsPair s.heap TO u v) (h1 : s.heap.IsTupleIter i1 a 0) (h2 : s.heap.IsTupleIter i2 b 0) (ha : s.heap.IsTuple a xs) (hb : s.heap.IsTuple b ys)
    (hQ : ∀ h' tk acc c as, (∀ d o, d ≠ z → d ≠ TO → d ≠ i1 → d ≠ i2 → s.heap.get? d = some o → h'.get? d = some o) → h'.get? s.heap.objs.size = some { cls := .type "list", dict := none, data := .seq acc c, slots := #[] } → as.length = n → LzG xs ys (s.heap.objs.size + 1) h' as → acc.toList = as.map Value.ref → Q (.ref s.heap.objs.size) { s with heap := h', toks := tk }) :
    wpAny (model prog w) A (call (.type "list") [.ref z]) Q E s := by
  refine callType_codes (Q₁ := fun obj s₁ => obj = .ref s.heap.objs.size ∧ s₁ = { s with heap := s.heap.push { cls := .type "list", data := .seq #[] } }) PySem.F.called_list (PySem.F.typeCall_list_1 _) PySem.F.entry_list_init (code_list_new _ ⟨rfl, rfl⟩) fun obj s₁ hq => ?_
  obtain ⟨rfl, rfl⟩ := hq
  have lt : ∀ {t : Addr} {o : Obj}, s.heap.get? t = some o → t < s.heap.objs.size := fun e => Heap.lt_size e
  have z1 := lt hz
  have z2 := lt ht
  have z3 := lt hp
  obtain ⟨o1, q1, _⟩ := id h1
  obtain ⟨o2, q2, _⟩ := id h2
  obtain ⟨o3, q3, _⟩ := id ha
  obtain ⟨o4, q4, _⟩ := id hb
  have P : LzAp z TI TO i1 i2 a b s.heap.objs.size := ⟨D, Nat.ne_of_gt z1, Nat.ne_of_gt z3, Nat.ne_of_gt z2, Nat.ne_of_gt (lt q1), Nat.ne_of_gt (lt q2), Nat.ne_of_gt (lt q3), Nat.ne_of_gt (lt q4)⟩
  have gS : (s.heap.push { cls := .type "list", data := .seq #[] }).get? s.heap.objs.size = some { cls := .type "list", data := .seq #[] } := Heap.get?_push_size _ rfl
  refine ⟨⟨_, gS, rfl⟩, PySem.F.args_list_init_2 _ _, ?_⟩
  refine (?_ : wpAny _ _ (do let old ← Builtin.List.listItems (.ref s.heap.objs.size); Builtin.List.listUpdate (.ref s.heap.objs.size) (fun _ => #[]); letGo old.toList.reverse; Builtin.List.listExtendWith (.ref s.heap.objs.size) (.ref z) .none) _ _ _)
  refine wpAny_bind ?_; unfold Builtin.List.listItems; refine wpAny_bind (wpAny_seqItems gS rfl (wpAny_pure ?_))
  refine (?_ : wpAny _ _ (updateSeq s.heap.objs.size (fun _ => #[]) >>= fun _ => letGo (#[] : Array Value).toList.reverse >>= fun _ => Builtin.List.listExtendWith (.ref s.heap.objs.size) (.ref z) .none) _ _ _)
  refine wpAny_bind (wpAny_updateSeq gS rfl (wpAny_bind (wpAny_letGo ?_)))
  have g2 := Heap.get?_update_self (Obj.mapSeq (fun _ => (#[] : Array Value))) gS rfl
  have up : ∀ d o, d ≠ s.heap.objs.size → s.heap.get? d = some o → ((s.heap.push { cls := .type "list", data := .seq #[] }).update s.heap.objs.size (Obj.mapSeq (fun _ => (#[] : Array Value)))).get? d = some o := fun d o hd e => (Heap.get?_update_other _ _ (Ne.symm hd)).trans (Heap.get?_push_of_some _ e)
  have sz : ((s.heap.push { cls := .type "list", data := .seq #[] }).update s.heap.objs.size (Obj.mapSeq (fun _ => (#[] : Array Value)))).objs.size = s.heap.objs.size + 1 := by rw [Heap.size_update, Heap.size_push]
  have tup : ∀ {t : Addr} {us : Array Value}, s.heap.IsTuple t us → s.heap.objs.size ≠ t → ((s.heap.push { cls := .type "list", data := .seq #[] }).update s.heap.objs.size (Obj.mapSeq (fun _ => (#[] : Array Value)))).IsTuple t us := fun ⟨o, e, q⟩ m => ⟨o, up _ _ m.symm e, q⟩
  have st : LzSt s.heap z TI TO i1 i2 a b s.heap.objs.size 0 := ⟨hp, h1, h2, .inl ⟨hz, u, v, ht⟩⟩
  refine lz_ext (A := A.in1) (s := { s with heap := (s.heap.push { cls := .type "list", data := .seq #[] }).update s.heap.objs.size (Obj.mapSeq (fun _ => (#[] : Array Value))) }) hh P hn l1 l2 .none (up _ _ P.z.symm hz) (st.keep P up) (tup ha P.a) (tup hb P.b) ?_ _ g2 fun h' tk acc c as kk hS' hl hG hacc => ⟨rfl, ?_⟩
  · dsimp only
    rw [sz]
    exact ⟨Nat.lt_succ_of_lt z1, Nat.lt_succ_of_lt z2, Nat.lt_succ_of_lt (lt q1), Nat.lt_succ_of_lt (lt q2), Nat.lt_succ_self _⟩
  · dsimp only at hG kk
    rw [sz] at hG
    exact hQ h' tk acc c as (fun d o d1 d2 d3 d4 e => kk d o (Nat.ne_of_lt (Heap.lt_size e)) d1 d2 d3 d4 (up d o (Nat.ne_of_lt (Heap.lt_size e)) e)) hS' hl hG hacc
end
end PySem
namespace L3
open PySem PySem.Spec PyProof.Rows L2
open He (ga)
def layP : Hp → List (Addr × HO) → Hp
  | H, [] => H
  | H, q :: r => layP (upd H q.1 q.2) r
theorem inv_lay {X : Cx} {pins : List (Addr × Obj)} {σ : St} {s : Shared} {h' : Heap} {t' : Nat} : ∀ (as : List (Addr × HO)) (H : Hp) (h : Heap) (t : Nat), Inv X pins σ H { s with heap := h, toks := t } → (∀ b o, h.get? b = some o → h'.get? b = some o) → (∀ q ∈ as, h.get? q.1 = none) → (∀ q ∈ as, H q.1 = none) → (as.map (·.1)).Nodup →
    (∀ q ∈ as, ∀ (J : Hp) (g : Heap), g.get? q.1 = h'.get? q.1 → ObjOk X.prog X.w J g q.1 q.2) → Inv X pins σ (layP H as) { s with heap := h', toks := t' }
  | [], H, h, t, I, k, _, _, _, _ => I.kept (t' := t') k
  | q :: as, H, h, t, I, k, hn, hH, nd, ok => by
    obtain ⟨n1, n2⟩ := List.nodup_cons.mp (by simpa using nd : (q.1 :: as.map (·.1)).Nodup)
    obtain ⟨h1, e1, e2⟩ := restrict h' fun b => (h.get? b).isSome || decide (b = q.1)
    have k1 : ∀ b o, h.get? b = some o → h1.get? b = some o := fun b o e => by
      rw [e1 b (by simp [e])]; exact k b o e
    have kq := e1 q.1 (by simp)
    have I1 := I.laidN (t' := t) k1 (hn q (by simp)) (hH q (by simp)) (ok q (by simp) _ h1 kq)
    refine inv_lay as (upd H q.1 q.2) h1 t I1 (fun b o e => ?_) (fun p hp => ?_) (fun p hp => ?_) n2 fun p hp => ok p (List.mem_cons_of_mem _ hp)
    · cases z : ((h.get? b).isSome || decide (b = q.1)) with
      | true => rw [e1 b z] at e; exact e
      | false => rw [e2 b z] at e; cases e
    · have ne : p.1 ≠ q.1 := fun z => n1 (z ▸ List.mem_map_of_mem hp)
      exact e2 p.1 (by simp [hn p (List.mem_cons_of_mem _ hp), ne])
    · have ne : p.1 ≠ q.1 := fun z => n1 (z ▸ List.mem_map_of_mem hp)
      rw [upd_ne ne]; exact hH p (List.mem_cons_of_mem _ hp)
def lzP (as : List Addr) (xs ys : List V) : List (Addr × HO) := List.zipWith (fun c q => (c, HO.tup [q.1, q.2])) as (xs.zip ys)
theorem lzP_map : ∀ (as : List Addr) (xs ys : List V), as.length = xs.length → xs.length = ys.length → (lzP as xs ys).map (·.1) = as
  | [], _, _, _, _ => by simp [lzP]
  | c :: as, x :: xs, y :: ys, h1, h2 => by
    show c :: (lzP as xs ys).map (·.1) = _
    rw [lzP_map as xs ys (by simpa using h1) (by simpa using h2)]
theorem lzP_mem {as : List Addr} {xs ys : List V} {q : Addr × HO} (h : q ∈ lzP as xs ys) : ∃ (j : Nat) (x y : V), as[j]? = some q.1 ∧ xs[j]? = some x ∧ ys[j]? = some y ∧ q.2 = .tup [x, y] := by
  obtain ⟨j, e⟩ := List.mem_iff_getElem?.mp h
  unfold lzP at e
  rw [List.getElem?_zipWith] at e
  cases e1 : as[j]? with
  | none => rw [e1] at e; cases e
  | some c =>
    cases e2 : (xs.zip ys)[j]? with
    | none => rw [e1, e2] at e; cases e
    | some w =>
      rw [e1, e2] at e
      obtain ⟨m1, m2⟩ := List.getElem?_zip_eq_some.mp e2
      cases e
      exact ⟨j, w.1, w.2, e1, m1, m2, rfl⟩
def tLz (K : PySem.W.Frag) (ta : TA) : TE := fun σ H Q => ta σ H fun vs H1 => ∃ a b xs ys, vs = [.ref a, .ref b] ∧ SqT K H1 a xs ∧ SqT K H1 b ys ∧ xs.length = ys.length ∧ xs.length ≤ sizeLine ∧
  ∀ (S : Addr) (as : List Addr), H1 S = none → S ∉ as → (∀ c ∈ as, H1 c = none) → as.Nodup → as.length = xs.length → Q (.ref S) (layP H1 (lzP as xs ys ++ [(S, .lst (as.map V.ref))]))
theorem vals_refs : ∀ as : List Addr, Vals (as.map V.ref) (as.map Value.ref)
  | [] => .nil
  | c :: as => .cons rfl (vals_refs as)
theorem pe_lz {X : Cx} {e e2 : Expr} {ta : TA} {p p1 p2 pos : Pos} (hc : X.calm = true) (hl : X.mg "list" = none) (hm : X.mg "zip" = none) (ha : PA X [e, e2] ta) (hg : Gl X "zip" := by rfl) (hgl : Gl X "list" := by rfl)
    (hs : starEach [e, e2] X.env = (false, eval e X.env) :: starEach [e2] X.env := by rfl) (hpl : (backTo p1 (starEach [e2] X.env)).any (·.1) = false := by rfl)
    (na : starEach [.Call (.Name "zip" p2) [e, e2] [] p1] X.env = (false, eval (.Call (.Name "zip" p2) [e, e2] [] p1) X.env) :: starEach [] X.env := by rfl) :
    PE X (.Call (.Name "list" p) [.Call (.Name "zip" p2) [e, e2] [] p1] [] pos) (tLz X.K ta) := by
  refine ⟨fun pins s σ H Q I h => ?_⟩
  have zp : wpAny (model X.prog X.w) X.A (eval (.Call (.Name "zip" p2) [e, e2] [] p1) X.env) (fun v s2 => ∃ (s1 : Shared) (H1 : Hp) (a b : Addr) (xs ys : List V) (h' : Heap), v = .ref (s1.heap.objs.size + 4) ∧ s2 = { s1 with heap := h' } ∧ Inv X pins σ H1 s1 ∧ SqT X.K H1 a xs ∧ SqT X.K H1 b ys ∧ xs.length = ys.length ∧ xs.length ≤ sizeLine ∧
      (∀ (S : Addr) (as : List Addr), H1 S = none → S ∉ as → (∀ c ∈ as, H1 c = none) → as.Nodup → as.length = xs.length → Q (.ref S) (layP H1 (lzP as xs ys ++ [(S, .lst (as.map V.ref))]))) ∧
      IsZip h' (s1.heap.objs.size + 4) (s1.heap.objs.size + 2) (s1.heap.objs.size + 3) .none ∧ IsPair h' (s1.heap.objs.size + 2) (.ref s1.heap.objs.size) (.ref (s1.heap.objs.size + 1)) ∧ IsPair h' (s1.heap.objs.size + 3) .none .none ∧ h'.IsTupleIter s1.heap.objs.size a 0 ∧ h'.IsTupleIter (s1.heap.objs.size + 1) b 0 ∧ h'.objs.size = s1.heap.objs.size + 5 ∧ (∀ c o, s1.heap.get? c = some o → h'.get? c = some o)) X.xe s := by
    refine Call_ (ld_blt I hg hm PyProof.Rows.boot_zip (PyProof.Rows.callWith_type1 (thn (ha.run p1 pins s σ H _ I h) fun us s1 ⟨vs, H1, I1, r1, a, b, xs, ys, ex, qa, qb, l1, l2, q1⟩ => ?_) hs hpl))
    subst ex
    cases r1 with
    | cons r rr =>
    cases rr with
    | cons r' rr =>
    cases rr; cases r; cases r'
    obtain ⟨its, rv, t1, _⟩ := I1.tuple qa
    obtain ⟨its2, rv2, t2, _⟩ := I1.tuple qb
    exact RZ.call_zipT (show s1.heap.IsTuple a its.toArray from t1) (show s1.heap.IsTuple b its2.toArray from t2) fun h' hz hTI hTO h1 h2 hsz hk => ⟨s1, H1, a, b, xs, ys, h', rfl, rfl, I1, qa, qb, l1, l2, q1, hz, hTI, hTO, h1, h2, hsz, hk⟩
  refine Call_ (ld_blt I hgl hl boot_list (PyProof.Rows.callWith_type1 (args_cons (thn zp fun v s2 ⟨s1, H1, a, b, xs, ys, h', ev, es, I1, qa, qb, l1, l2, q1, hz, hTI, hTO, h1, h2, hsz, hk⟩ => args_nil ?_) na) na))
  subst ev es
  obtain ⟨its, rv, t1, _⟩ := I1.tuple qa
  obtain ⟨its2, rv2, t2, _⟩ := I1.tuple qb
  have up : ∀ {t : Addr} {us : Array Value}, s1.heap.IsTuple t us → h'.IsTuple t us := fun ⟨o, e, q⟩ => ⟨o, hk _ _ e, q⟩
  have t1' : s1.heap.IsTuple a its.toArray := t1
  have t2' : s1.heap.IsTuple b its2.toArray := t2
  obtain ⟨o1, ho1, _⟩ := id t1'
  obtain ⟨o2, ho2, _⟩ := id t2'
  have v1 := rv.length
  have v2 := rv2.length
  refine lz_call (n := xs.length) (s := { s1 with heap := h' }) (I1.ok.hd hc) (PySem.W.ktu_apart s1.heap.objs.size a b (Heap.lt_size ho1) (Heap.lt_size ho2)) l2 (by simp; omega) (by simp; omega) hz hTI hTO h1 h2 (up t1') (up t2') fun h2 tk acc c as kk hS hal hG hacc => ?_
  dsimp only at kk hS hG ⊢
  rw [hsz] at hG hS ⊢
  have old : ∀ d o, s1.heap.get? d = some o → h2.get? d = some o := fun d o ed => by
    have lt := Heap.lt_size ed
    exact kk d o (Nat.ne_of_lt (Nat.lt_add_right 4 lt)) (Nat.ne_of_lt (Nat.lt_add_right 3 lt)) (Nat.ne_of_lt lt) (Nat.ne_of_lt (Nat.lt_add_right 1 lt)) (hk d o ed)
  have no : ∀ {d}, s1.heap.objs.size ≤ d → s1.heap.get? d = none := fun {d} hd => by
    cases ed : s1.heap.get? d with
    | none => rfl
    | some o => exact absurd (Heap.lt_size ed) (Nat.not_lt.mpr hd)
  have ge : ∀ c ∈ as, s1.heap.objs.size + 5 + 1 ≤ c := hG.above
  have nas : s1.heap.objs.size + 5 ∉ as := fun m => by
    have : s1.heap.objs.size + 5 + 1 ≤ s1.heap.objs.size + 5 := ge _ m
    omega
  have ndas : as.Nodup := hG.rise.imp fun h => Nat.ne_of_lt h
  have mp := lzP_map as xs ys hal l1
  have big : ∀ q ∈ lzP as xs ys ++ [(s1.heap.objs.size + 5, HO.lst (as.map V.ref))], s1.heap.objs.size ≤ q.1 := fun q hq => by
    rcases List.mem_append.mp hq with m | m
    · have : q.1 ∈ as := by rw [← mp]; exact List.mem_map_of_mem m
      have : s1.heap.objs.size + 5 + 1 ≤ q.1 := ge _ this
      omega
    · rw [List.mem_singleton.mp m]; show s1.heap.objs.size ≤ s1.heap.objs.size + 5; omega
  refine ⟨.ref (s1.heap.objs.size + 5), _, inv_lay (lzP as xs ys ++ [(s1.heap.objs.size + 5, .lst (as.map V.ref))]) H1 s1.heap s1.toks I1 old (fun q hq => no (big q hq)) (fun q hq => I1.hok.fresh (big q hq)) ?_ ?_, rfl, q1 _ as (I1.hok.fresh (Nat.le_add_right _ _)) nas (fun c hc => I1.hok.fresh (Nat.le_trans (by omega) (ge c hc))) ndas hal⟩
  · rw [List.map_append, mp]
    exact List.nodup_append.mpr ⟨ndas, by simp, fun x hx y hy e => by
      rw [List.map_cons, List.map_nil, List.mem_singleton] at hy
      subst hy e; exact nas hx⟩
  · intro q hq J g eg
    rcases List.mem_append.mp hq with m | m
    · obtain ⟨j, x, y, e1, e2, e3, e4⟩ := lzP_mem m
      obtain ⟨u, w, f1, f2, f3⟩ := hG.pairs j q.1 e1
      obtain ⟨u', g1, g2⟩ := rv.get e2
      obtain ⟨w', g3, g4⟩ := rv2.get e3
      have : u = u' := by simpa [g1] using f1.symm
      subst this
      have : w = w' := by simpa [g3] using f2.symm
      subst this
      rw [e4]
      exact ⟨by show 2 ≤ sizeLine; decide, [u, w], .cons g2 (.cons g4 .nil), ⟨_, eg.trans f3, rfl, _, rfl⟩⟩
    · rw [List.mem_singleton.mp m] at eg ⊢
      refine ⟨by rw [List.length_map, hal]; exact l2, as.map Value.ref, c, vals_refs as, ?_⟩
      rw [← hacc, Array.toArray_toList]
      exact eg.trans hS
/-! ### as a reading -/
def tlzip (m : Bool) (ta : TA3) : TE3 := fun σ G Q E => ta σ G (fun ds G1 => ∃ xs ys, ds = [.tup xs, .tup ys] ∧ xs.length = ys.length ∧ xs.length ≤ sizeLine ∧ outL m (List.zipWith (fun a b => D.tup [a, b]) xs ys) G1 Q) E
theorem dvl_len {K : K3} {G : Gp} {H : Hp} : ∀ {xs : List D} {vs : List V}, DvL K G H xs vs → xs.length = vs.length
  | _, _, .nil => rfl
  | _, _, .cons _ t => by rw [List.length_cons, List.length_cons, dvl_len t]
theorem lay_dv {K : K3} {G : Gp} : ∀ (as : List Addr) (xs ys : List D) (us ws : List V) (H : Hp), GH K G H → DvL K G H xs us → DvL K G H ys ws → (∀ c ∈ as, H c = none) → as.Nodup → as.length = us.length → us.length = ws.length →
    GH K G (layP H (lzP as us ws)) ∧ Keep G H G (layP H (lzP as us ws)) ∧ DvL K G (layP H (lzP as us ws)) (List.zipWith (fun a b => D.tup [a, b]) xs ys) (as.map V.ref) ∧ ∀ c, c ∉ as → layP H (lzP as us ws) c = H c
  | [], _, _, _, _, H, g, .nil, .nil, _, _, _, _ => ⟨g, Keep.refl, .nil, fun _ _ => rfl⟩
  | c :: as, x :: xs, y :: ys, u :: us, w :: ws, H, g, .cons rx tx, .cons ry ty, hn, nd, l1, l2 => by
    obtain ⟨n1, n2⟩ := List.nodup_cons.mp nd
    have nc := hn c (by simp)
    have k0 : Keep G H G (upd H c (.tup [u, w])) := Keep.new nc
    obtain ⟨g2, k2, d2, o2⟩ := lay_dv as xs ys us ws (upd H c (.tup [u, w])) (g.new nc) (tx.keep g k0) (ty.keep g k0) (fun d hd => by
      have ne : d ≠ c := fun z => n1 (by rw [← z]; exact hd)
      rw [upd_ne ne]; exact hn d (List.mem_cons_of_mem _ hd)) n2 (by simpa using l1) (by simpa using l2)
    refine ⟨g2, k0.trans k2, .cons ?_ d2, fun d hd => ?_⟩
    · exact Dv.keep (g.new nc) k2 (.tup (SqT.of upd_same) (.cons (rx.keep g k0) (.cons (ry.keep g k0) .nil)))
    · rw [List.mem_cons, not_or] at hd
      rw [show layP H (lzP (c :: as) (u :: us) (w :: ws)) = layP (upd H c (.tup [u, w])) (lzP as us ws) from rfl, o2 d hd.2, upd_ne hd.1]
  | _ :: _, [], _, [], _, _, _, _, _, _, _, l1, _ => by cases l1
  | _ :: _, _ :: _, [], _ :: _, [], _, _, _, _, _, _, _, l2 => by cases l2
theorem layP_snoc : ∀ (as : List (Addr × HO)) (H : Hp) (q : Addr × HO), layP H (as ++ [q]) = upd (layP H as) q.1 q.2
  | [], _, _ => rfl
  | p :: as, H, q => layP_snoc as (upd H p.1 p.2) q
theorem lzip_ {X : Cx} {Z : Zx} {W : WX} (m : Bool) {e e2 : Expr} {ta : TA3} {p p1 p2 pos : Pos} (hc : X.calm = true) (hl : X.mg "list" = none) (hm : X.mg "zip" = none) (ha : PA3 X Z W [e, e2] ta) (hg : Gl X "zip" := by rfl) (hgl : Gl X "list" := by rfl)
    (hs : starEach [e, e2] X.env = (false, eval e X.env) :: starEach [e2] X.env := by rfl) (hpl : (backTo p1 (starEach [e2] X.env)).any (·.1) = false := by rfl)
    (na : starEach [.Call (.Name "zip" p2) [e, e2] [] p1] X.env = (false, eval (.Call (.Name "zip" p2) [e, e2] [] p1) X.env) :: starEach [] X.env := by rfl) :
    PE3 X Z W (.Call (.Name "list" p) [.Call (.Name "zip" p2) [e, e2] [] p1] [] pos) (tlzip m ta) := PE.imp (pe_lz hc hl hm ha hg hgl hs hpl na) fun σ H Q hq => by
  obtain ⟨σ3, G, Q3, E3, g, rs, h, q, x⟩ := hq
  refine ⟨σ3, G, _, E3, g, rs, h, fun ds G1 vs H1 ⟨xs, ys, e, l1, l2, h1⟩ g1 r1 k1 => ?_, x⟩
  subst e
  cases r1 with
  | cons ra rb =>
  cases rb with
  | cons rb rc =>
  cases rc
  cases ra with
  | tup s1 d1 =>
  cases rb with
  | tup s2 d2 =>
  have e1 := dvl_len d1
  have e2 := dvl_len d2
  refine ⟨_, _, _, _, rfl, s1, s2, by omega, by omega, fun S as nS nas na nd la => ?_⟩
  obtain ⟨g2, k2, dd, oo⟩ := lay_dv as xs ys _ _ H1 g1 d1 d2 na nd la (by omega)
  rw [layP_snoc]
  exact outL_ok m g2 dd (q.keep (k1.trans k2)) h1 (by rw [oo S nas]; exact nS)
end L3
namespace L3
open PySem PySem.Spec PyProof.Rows L2
open He (ga)
/-! ### a, b[i], .. = e; a, b, .. = a list -/
def tgN (i : Nat) (d : D) : TS3 := fun E σ G => E.nx (σ.set i (some d)) G
def tgS (to ti : TE3) (t : QS) (d : D) : TS3 := fun E σ G => to σ G (fun o G2 => ti σ G2 (fun i G3 => t o i d G3 fun G4 => E.nx σ G4) (fun x G1 => E.ex x σ G1)) (fun x G1 => E.ex x σ G1)
def asgL : List (D → TS3) → List D → TS3
  | g :: gs, d :: ds => fun E σ G => g d { E with nx := fun σ G => asgL gs ds E σ G } σ G
  | _, _ => fun E σ G => E.nx σ G
def sasgs (gs : List (D → TS3)) (te : TE3) : TS3 := fun E σ G => te σ G (fun x G1 => ∃ ds, x = .tup ds ∧ ds.length = gs.length ∧ asgL gs ds E σ G1) (fun x G1 => E.ex x σ G1)
def sunl (is : List Nat) (te : TE3) : TS3 := fun E σ G => te σ G (fun x G1 => ∃ ds, lq G1 x = some ds ∧ ds.length = is.length ∧ E.nx (setD is ds σ) G1) (fun x G1 => E.ex x σ G1)
structure Tg1 (X : Cx) (Z : Zx) (W : WX) (tg : Expr) (g : D → TS3) : Prop where
  ex : ∃ t : TG, PG X tg t ∧ ∀ (σ3 : St3) (G : Gp) (D3 : Ends3) (σ : St) (H : Hp) (Dd : Ends) (d : D) (v : V), GH (Cxk X Z) G H → Rs (Cxk X Z) G H σ3 σ → Dv (Cxk X Z) G H d v → g d D3 σ3 G → Dk (Cxk X Z) G H W D3 Dd → t v σ H fun σ' H' => Dd.nx σ' H'
structure Tgs1 (X : Cx) (Z : Zx) (W : WX) (ts : List Expr) (gs : List (D → TS3)) : Prop where
  ex : ∃ t : TGs, PGs X ts t ∧ ∀ (ds : List D) (vs : List V) (σ3 : St3) (G : Gp) (D3 : Ends3) (σ : St) (H : Hp) (Dd : Ends), ds.length = gs.length → GH (Cxk X Z) G H → Rs (Cxk X Z) G H σ3 σ → DvL (Cxk X Z) G H ds vs → asgL gs ds D3 σ3 G → Dk (Cxk X Z) G H W D3 Dd → t vs σ H fun σ' H' => Dd.nx σ' H'
section
variable {X : Cx} {Z : Zx} {W : WX} {e : Expr} {te : TE3} {pos : Pos}
theorem tn_ (i : Nat) {x : Str} {p : Pos} (hN : X.N.Nodup) (hi : X.N[i]? = some x := by rfl) (hx : Loc X.env.scope x := by first | exact .inl rfl | exact .inr rfl) (hf : X.fn x = true ∨ X.env.scope.names.lookup x = some .local := by first | exact .inl rfl | exact .inr rfl) : Tg1 X Z W (.Name x p) (tgN i) :=
  ⟨gName i, pg_name hN hi hx hf, fun σ3 G D3 σ H Dd d v g rs r h dk => dk.nx _ _ _ _ h g (rs.set r i) Keep.refl⟩
theorem ts_ {t : QS} {o i : Expr} {to ti : TE3} {p : Pos} (hs : PSet3 X Z t) (ho : PE3 X Z W o to) (hi : PE3 X Z W i ti)
    (ha : ∀ v, assign (.Subscript o i p) X.env v = (do
      let ov ← holding [v] (eval o X.env); let iv ← holding [v, ov] (eval i X.env)
      standAt p; holding [v, ov, iv] (setItem ov iv v); release [v, ov, iv] []) := by intro _; rfl) : Tg1 X Z W (.Subscript o i p) (tgS to ti t) := by
  obtain ⟨r, hs, kk⟩ := hs
  refine ⟨_, pg_sub ho hi hs ha, fun σ3 G D3 σ H Dd d v g rs rv h dk => ?_⟩
  refine ⟨σ3, G, _, _, g, rs, h, fun o G2 ov H2 h2 g2 ro k2 => ?_, dk.exk g rs⟩
  have rs2 := rs.keep g k2
  have dk2 := dk.keep k2
  refine ⟨σ3, G2, _, _, g2, rs2, h2, fun i G3 iv H3 h3 g3 ri k3 => ?_, dk2.exk g2 rs2⟩
  exact kk G3 H3 o i d ov iv v _ _ g3 (ro.keep g2 k3) ri ((rv.keep g k2).keep g2 k3) h3 fun G4 H4 h4 g4 k4 => (dk2.keep (k3.trans k4)).nx _ _ _ _ h4 g4 ((rs2.keep g2 k3).keep g3 k4) Keep.refl
theorem t0_ : Tgs1 X Z W [] [] := ⟨gNil, pgs_nil, fun ds vs σ3 G D3 σ H Dd l g rs r h dk => by
  cases r with
  | nil => exact ⟨rfl, dk.nx _ _ _ _ h g rs Keep.refl⟩
  | cons => cases l⟩
theorem tc_ {g : D → TS3} {gs : List (D → TS3)} {t : Expr} {ts : List Expr} (h1 : Tg1 X Z W t g) (h2 : Tgs1 X Z W ts gs) (hs : (assignEach (t :: ts) X.env).map (·.2) = assign t X.env :: (assignEach ts X.env).map (·.2) := by rfl) : Tgs1 X Z W (t :: ts) (g :: gs) := by
  obtain ⟨u, p1, k1⟩ := h1
  obtain ⟨us, p2, k2⟩ := h2
  refine ⟨gCons u us, pgs_cons p1 p2 hs, fun ds vs σ3 G D3 σ H Dd l g0 rs r h dk => ?_⟩
  cases r with
  | nil => cases l
  | cons r rr =>
    rename_i d v ds vs
    refine ⟨v, vs, rfl, k1 σ3 G { D3 with nx := fun σ G => asgL gs ds D3 σ G } σ H { Dd with nx := fun σ' H' => us vs σ' H' fun σ2 H2 => Dd.nx σ2 H2 } d v g0 rs r h ⟨fun σ4 G' σ' H' h' g' rs' k' => ?_, dk.rt, dk.bk, dk.ct, dk.ex⟩⟩
    exact k2 ds vs σ4 G' D3 σ' H' Dd (by simpa using l) g' rs' (rr.keep g0 k') h' (dk.keep k')
theorem asgT_ {gs : List (D → TS3)} {ts : List Expr} {k : Nat} {pt : Pos} (hc : X.calm = true) (ht : Tgs1 X Z W ts gs) (he : PE3 X Z W e te) (hs : swapsWithSole [.Tuple ts k pt] e pos.line X.env = pure false := by rfl) (hw : swappedStores [.Tuple ts k pt] e X.env = pure none := by rfl)
    (h1 : (assignEach [.Tuple ts k pt] X.env).map (·.2) = [assign (.Tuple ts k pt) X.env] := by rfl) (hn : (assignEach ts X.env).length = gs.length := by rfl) (hst : (assignEach ts X.env).findIdx? (·.1) = none := by rfl) : PS3 X Z W (.Assign [.Tuple ts k pt] e pos) (sasgs gs te) := by
  obtain ⟨u, p, kk⟩ := ht
  refine PS.imp (ps_asg he (pg_tup (n := gs.length) hc p hn hst) hs hw h1) fun Dd σ H h => ?_
  obtain ⟨σ3, G, D3, g, rs, h, d⟩ := h
  refine ⟨σ3, G, _, _, g, rs, h, fun x G1 v H1 ⟨ds, ex, l, h1⟩ g1 rx k1 => ?_, d.exk g rs⟩
  subst ex
  cases rx with
  | tup s r => exact ⟨_, _, rfl, s, (dvl_len r).symm.trans l, kk ds _ σ3 G1 D3 σ H1 Dd l g1 (rs.keep g k1) r h1 (d.keep k1)⟩
theorem unl_ (is : List Nat) {ts : List Expr} {k : Nat} {pt : Pos} (hc : X.calm = true) (he : PE3 X Z W e te) (hg : PGs X ts (gNames is)) (hs : swapsWithSole [.Tuple ts k pt] e pos.line X.env = pure false := by rfl) (hw : swappedStores [.Tuple ts k pt] e X.env = pure none := by rfl)
    (h1 : (assignEach [.Tuple ts k pt] X.env).map (·.2) = [assign (.Tuple ts k pt) X.env] := by rfl) (hn : (assignEach ts X.env).length = is.length := by rfl) (hst : (assignEach ts X.env).findIdx? (·.1) = none := by rfl) : PS3 X Z W (.Assign [.Tuple ts k pt] e pos) (sunl is te) := by
  refine PS.imp (ps_asg he (pg_lst (n := is.length) hc hg hn hst) hs hw h1) fun Dd σ H h => ?_
  obtain ⟨σ3, G, D3, g, rs, h, d⟩ := h
  refine ⟨σ3, G, _, _, g, rs, h, fun x G1 v H1 ⟨ds, ex, l, h1⟩ g1 rx k1 => ?_, d.exk g rs⟩
  obtain ⟨a, us, ea, s, rl⟩ := lq_ok g1 rx ex
  have lu : us.length = is.length := (dvl_len rl).symm.trans l
  exact ⟨a, us, ea, s, lu, gNames_ok lu (d.nx _ _ _ _ h1 g1 (setD_rs rl (rs.keep g k1)) k1)⟩
end
end L3
/-! ### lambdas handed to a def; defs as values; errors that are held -/
namespace L3
open PySem PySem.Spec PyProof.Rows L2
open He (ga)
section
variable {X : Cx} {pins : List (Addr × Obj)} {σ : L2.St} {H : Hp} {s : Shared}
/-- the lambda is made: all but the maker's table stays -/
theorem lam_new {c P : Addr} {params : Arguments} {body : Expr} {scope : Scope} {pos : Pos}
    {E Q : Value → Shared → Prop} (I : Inv X pins σ H s) (TB : LamX.TabB X.base X.mg c P)
    (hcd : X.env.code = .ref c) (hT : LamX.TabS H P (X.env.qual ++ "<lambda>"))
    (hdef : defaultsOf params X.env = ([], []))
    (hfree : ∀ y ∈ scope.names, y.2 = .free → ∃ c, X.env.cells.lookup y.1 = some c)
    (h : ∀ (f c' : Addr) (pm ctv : Value) (H1 : Hp) (s' : Shared), Inv X pins σ H1 s' →
      (∀ b o, b ≠ P → H b = some o → H1 b = some o) → LamX.TabS H1 P (X.env.qual ++ "<lambda>") →
      s'.heap.get? f = some (PySem.W.kla_obj "<lambda>" (X.env.qual ++ "<lambda>") params body scope
        (cloFrom X.env.cells scope.names []) pm c' ctv) →
      H1 f = none → f ∉ frs X.stack → H1 c' = some (LamX.CodeO c' (X.env.qual ++ "<lambda>")) → Q (.ref f) s') :
    wpAny (model X.prog X.w) X.A (eval (.Lambda params body scope pos) X.env) Q E s := by
  obtain ⟨tb, atP, tok, among⟩ := hT
  refine PySem.W.kla_eval hdef ?_
  have bs : s.heap.BuiltinsAt X.mg P := TB.bm.keeps I.bk
  have realP := I.hok P _ atP
  have free_fr : ∀ f, s.heap.objs.size ≤ f → f ∉ frs X.stack := fun f big z =>
    (List.mem_cons.mp (I.stkSub _ z)).elim
      (fun e => Nat.lt_irrefl _ (Nat.lt_of_lt_of_le (by have := I.lt; rw [← e] at this; exact this) big))
      fun e => I.nofs big e
  have cl := closure_ok hfree
  have gb := I.mod.glob.keeps I.bk
  have ch := TB.code.keeps I.bk
  cases look : codeAmong pos tb.toList with
  | some cv =>
    obtain ⟨c', ec, known⟩ := among pos cv look
    subst ec
    refine PySem.W.kla_makeFunctionHit (mg := X.mg) (c := c) (P := P) (ps := tb) cl I.ok.glob gb hcd ch
      realP tok look bs fun ctv h2 tk keep big => ?_
    exact h h2.objs.size c' ((X.mg "__name__").getD .none) ctv H _
      (I.kept fun b o e => Heap.get?_push_of_some _ (keep b o e)) (fun _ _ _ z => z) ⟨tb, atP, tok, among⟩
      (Heap.get?_push_size _ rfl) (I.hok.fresh big) (free_fr _ big) known
  | none =>
    refine PySem.W.kla_makeFunction (mg := X.mg) (c := c) (P := P) (ps := tb) cl I.ok.glob gb hcd ch
      realP tok look TB.gP bs fun c' ctv h2 tk keep lo hi rec_ tb2 => ?_
    obtain ⟨c3, oc, vs, t, e3, there, dat, nm⟩ := rec_
    cases e3
    have newC : H c' = none := I.hok.fresh lo
    have big : s.heap.objs.size ≤ h2.objs.size := Nat.le_trans lo (Nat.le_of_lt hi)
    have J := LamX.inv_table (q := X.env.qual ++ "<lambda>") (t' := tk)
      (more := #[rawInt pos.line, rawInt pos.col, .ref c'])
      (h' := h2.push (PySem.W.kla_obj "<lambda>" (X.env.qual ++ "<lambda>") params body scope
        (cloFrom X.env.cells scope.names []) ((X.mg "__name__").getD .none) c' ctv)) I atP
      (fun b o ne e => Heap.get?_push_of_some _ (keep b o ne e)) (Heap.get?_push_of_some _ tb2) lo
      ⟨oc, vs, t, Heap.get?_push_of_some _ there, dat, nm⟩
    have stay : ∀ b o, b ≠ P → H b = some o → upd (upd H P (.tbl (tb ++ #[rawInt pos.line, rawInt pos.col, .ref c']))) c' (LamX.CodeO c' (X.env.qual ++ "<lambda>")) b = some o :=
      fun b o ne e => by rw [upd_ne (ne_of_none e newC), upd_ne ne]; exact e
    have ca : ∀ c0, H c0 = some (LamX.CodeO c0 (X.env.qual ++ "<lambda>")) → c0 ≠ P := fun c0 e z => by
      rw [z, atP] at e
      exact LamX.codeO_ne _ (Option.some.inj e).symm
    refine h h2.objs.size c' ((X.mg "__name__").getD .none) ctv _ _ J stay ?_ (Heap.get?_push_size _ rfl) ?_ (free_fr _ big) upd_same
    · refine ⟨_, by rw [upd_ne (ne_of_none atP newC), upd_same], ?_, fun p' cv hcv => ?_⟩
      · rw [show (tb ++ #[rawInt pos.line, rawInt pos.col, .ref c']).toList = tb.toList ++ [rawInt pos.line, rawInt pos.col, .ref c'] by simp]
        exact PySem.TriplesOk_snoc _ _ _ _ tok
      · rw [show (tb ++ #[rawInt pos.line, rawInt pos.col, .ref c']).toList = tb.toList ++ [rawInt pos.line, rawInt pos.col, .ref c'] by simp] at hcv
        rcases LamX.among_app _ tok hcv with z | z
        · obtain ⟨c0, e1, e2⟩ := among p' cv z
          exact ⟨c0, e1, stay _ _ (ca _ e2) e2⟩
        · exact ⟨c', z, upd_same⟩
    · rw [upd_ne (Nat.ne_of_gt hi), upd_ne (Nat.ne_of_gt (Nat.lt_of_lt_of_le (Heap.lt_size realP) big))]
      exact I.hok.fresh big
end

/-! ### what is captured -/
def capD (σ : St3) : List D := σ.map fun o => o.getD .non
def capV : St3 → L2.St → List V
  | some _ :: r, o :: q => o.getD .non :: capV r q
  | none :: r, _ :: q => .non :: capV r q
  | _, _ => []
theorem cap_dv {K : K3} {G : Gp} {H : Hp} : ∀ {σ3 : St3} {σ : L2.St}, Rs K G H σ3 σ → DvL K G H (capD σ3) (capV σ3 σ)
  | [], [], _ => .nil
  | [], _ :: _, r => by have := r.1; simp at this
  | _ :: _, [], r => by have := r.1; simp at this
  | o :: σ3, u :: σ, r => by
    have tl : DvL K G H (capD σ3) (capV σ3 σ) := cap_dv ⟨by simpa using r.1, fun i d e => r.2 (i + 1) d (by simpa using e)⟩
    cases o with
    | none => exact .cons .non tl
    | some d =>
      obtain ⟨v, e1, e2⟩ := r.2 0 d rfl
      simp at e1
      subst e1
      exact .cons e2 tl
theorem cap_rs {K K' : K3} {G G' : Gp} {H H' : Hp} : ∀ {σ3 : St3} {σ : L2.St}, Rs K G H σ3 σ → DvL K' G' H' (capD σ3) (capV σ3 σ) → Rs K' G' H' σ3 σ := by
  intro σ3 σ r h
  refine ⟨r.1, fun i d e => ?_⟩
  obtain ⟨v, e1, _⟩ := r.2 i d e
  refine ⟨v, e1, ?_⟩
  have e2 : (capD σ3)[i]? = some d := by unfold capD; rw [List.getElem?_map, e]; rfl
  obtain ⟨u, e3, e4⟩ := h.get e2
  have key : ∀ (σ3 : St3) (σ : L2.St) (i : Nat), σ3[i]? = some (some d) → σ[i]? = some (some v) → (capV σ3 σ)[i]? = some u → u = v := by
    intro σ3
    induction σ3 with
    | nil => intro σ i e _ _; simp at e
    | cons o r ih =>
      intro σ i e e1 e3
      cases σ with
      | nil => simp at e1
      | cons q σ =>
        cases i with
        | zero =>
          simp at e e1
          subst e e1
          simp [capV] at e3
          exact e3.symm
        | succ i =>
          refine ih σ i (by simpa using e) (by simpa using e1) ?_
          cases o <;> simpa [capV] using e3
  rw [← key σ3 σ i e e1 e3]; exact e4
/-- x(), x a name that holds what was handed -/
def tcl (i : Nat) (L : D) (tl : Gp → QK → EK → Prop) : TE3 := fun σ G Q E => gt σ i = some L ∧ tl G Q E
section
variable {X : Cx} {pins : List (Addr × Obj)} {σ : L2.St} {H : Hp} {s : Shared}
theorem takes_lam {A : Around} {outer : List Env} {E : XK} {scope : Scope} {f c' : Addr} : Takes (LamX.lamCx X A outer s H E scope f c') (fun c d _ H' => E c d H') := takes_of rfl rfl rfl rfl
theorem act_ {CXg : CXT} {Eg : XK} {Ng : List Str} {qg : Str} {sg : Scope} {g f c' : Addr} {cdg pm ctv : Value} {params : Arguments} {body : Expr} {scope : Scope} {k : Nat} {a : Str}
    {σ3 : St3} {G0 : Gp} {tb : TE3} (I : Inv X pins σ H s) (L : LamX.LamS X.env.scope scope)
    (hf : s.heap.get? f = some (PySem.W.kla_obj "<lambda>" (X.env.qual ++ "<lambda>") params body scope (cloFrom X.env.cells scope.names []) pm c' ctv)) (hfn : H f = none) (hfr : f ∉ frs X.stack)
    (hbind : bindArgs (PySem.W.kla_fn "<lambda>" (X.env.qual ++ "<lambda>") params body scope (cloFrom X.env.cells scope.names []) pm (.ref c') ctv) ⟨[], []⟩ = pure [])
    (rs : Rs (Cxk X Z0) G0 H σ3 σ)
    (hbody : ∀ (A : Around) (outer : List Env) (s : Shared) (H : Hp) (E : XK), Room k (A.deeper (LamX.lamEnv X scope s.heap.objs.size f c')) →
      PE3 (LamX.lamCx X A outer s H E scope f c') Z0 (fun c d _ H' => E c d H') body tb)
    (hr : Room (k + 1) (X.A.deeper (envOfC qg sg s.heap.objs.size g cdg)))
    (hN : Ng[0]? = some a) (hv : Vis sg a) (hd : (a == ("__debug__" : Str)) = false) (hcd : (a == ("__classdict__" : Str)) = false)
    (W : WX) (pn : List (Addr × Obj)) (xe : Value → Shared → Prop) (p1 p2 : Pos)
    (tk : Takes ((cxOf CXg X.prog X.w X.K X.mg X.base Ng qg sg g cdg X.A X.stack s H Eg).tr pn xe) W) :
    PE3 ((cxOf CXg X.prog X.w X.K X.mg X.base Ng qg sg g cdg X.A X.stack s H Eg).tr pn xe) Z0 W (.Call (.Name a p1) [] [] p2)
      (tcl 0 (.lam f c' (X.env.qual ++ "<lambda>") (capD σ3) (capV σ3 σ)) (fun G Q E => tb σ3 G Q E)) := by
  refine ⟨fun pinsZ sZ σZ HZ Q IZ h => ?_⟩
  obtain ⟨σ3Z, G, Q3, E3, gZ, rsZ, ⟨e0, ht⟩, qk, xk⟩ := h
  obtain ⟨v0, at0, dv0⟩ := rsZ.2 0 _ (gt_eq _ _ e0)
  cases dv0 with
  | lam hc gc dl =>
  have rz : Rs (Cxk X Z0) G HZ σ3 σ := cap_rs rs dl
  refine wpAny_Call_Name_kw (thn ((pe_var (pos := p1) (i := 0) hN hv hd hcd).run pinsZ sZ σZ HZ (fun v H1 => v = .ref f ∧ H1 = HZ) IZ ⟨.ref f, at0, rfl, rfl⟩) fun u s1 ⟨v, H1, I1, r1, q1⟩ => ?_)
  obtain ⟨ev, eH⟩ := q1
  subst ev
  rw [eH] at I1
  obtain rfl : u = Value.ref f := r1
  have of1 := I1.base.keep f _ hf hfn hfr (fun z => nomatch (show f ∈ ([] : List Addr) from z))
  refine PySem.W.callWith_F0 ⟨_, _, _, _, of1⟩ ?_
  have un : Un (frs X.stack) [] H HZ s.heap s1.heap := I1.base
  obtain ⟨⟨oc, vs, t, hoc, hdc, hvc⟩, _, _⟩ := I1.hok c' _ hc
  let E : XK := fun c d H' => W c d σZ H'
  have rc : codeAny (model X.prog X.w) (X.A.deeper (envOfC qg sg s.heap.objs.size g cdg)) (.call (.ref f) ⟨[], []⟩) (CR (L2.CX X.prog X.w) (envOfC qg sg s.heap.objs.size g cdg :: X.stack) X.prog X.w HZ s1 Q E) s1 := by
    refine PySem.W.kla_callFunE hr.depth of1 rfl L.co L.gen rfl ⟨c', oc, vs, t, rfl, hoc, hdc, hvc⟩ ?_
    rw [hbind]
    refine wpAny_pure (wpAny_newFunctionEnv (fun y hy => (L.own y hy).2) (fun y hy => absurd hy (by simp)) (fun h₁ hns hsb => ⟨I1.nolimit.fresh _ hsb, ?_⟩) L.kind)
    show codeAny _ _ (.expr body (LamX.lamEnv X scope s1.heap.objs.size f c')) _ _
    have kp : ∀ b o, s1.heap.get? b = some o → h₁.get? b = some o := fun b o e => hsb.extBut b o (Nat.ne_of_lt (Heap.lt_size e)) (Heap.get?_push_of_some _ e)
    have J : Inv (LamX.lamCx X (X.A.deeper (envOfC qg sg s.heap.objs.size g cdg)) (envOfC qg sg s.heap.objs.size g cdg :: X.stack) s1 HZ E scope f c') [] σ HZ { s1 with heap := h₁, toks := s1.toks + ([] : List (Str × Value)).length } :=
      LamX.lam_start2 I L I1.env0 hr.hd un hns kp
    have lift : liftE (Cxk (LamX.lamCx X (X.A.deeper (envOfC qg sg s.heap.objs.size g cdg)) (envOfC qg sg s.heap.objs.size g cdg :: X.stack) s1 HZ E scope f c') Z0) (fun c d _ H' => E c d H') tb σ HZ Q :=
      ⟨σ3, G, Q3, E3, gZ, rz, ht, qk, xk⟩
    refine PySem.W.kla_codeExpr (wpAny_mono ((hbody _ _ s1 HZ E (hr.deeper _)).run [] _ _ HZ Q J lift) (fun v s' hq => ?_) fun e s' hq => hq)
    obtain ⟨w', H', J', rv, q⟩ := hq
    exact ⟨w', H', J'.os, J'.bare, J'.base, J'.hok, rv, q⟩
  refine wpAny_call (codeAny_mono rc fun r s' hq => ?_)
  cases r with
  | error e => exact passAt tk σZ _ _ _ _ _ I1 hq
  | ok fl =>
    cases fl with
    | ret u => exact I1.after hq
    | next => exact False.elim hq
    | brk => exact False.elim hq
    | cont => exact False.elim hq
end
/-! ### a def that gets a lambda -/
abbrev SpW := (Gp → QK → EK → Prop) → Gp → QK → EK → Prop
structure Lw3 (P : Program) (w : World) (K : PySem.W.Frag) (mg : Str → Option Value) (base : Heap) (x : Str) (k : Nat) (spw : SpW) : Prop where
  ex : ∃ (g : Addr) (fd : FuncData) (a : Str) (Ng : List Str) (pg : Arguments) (bg : List Stmt) (sg : Scope) (tw : D → (Gp → QK → EK → Prop) → TS3), mg x = some (.ref g) ∧ FunD K x x pg bg sg [] [] g fd ∧
    FnScope Ng [a] sg ∧ Binds K fd [a] [] ∧ Ng[0]? = some a ∧ Vis sg a ∧ (a == ("__debug__" : Str)) = false ∧ (a == ("__classdict__" : Str)) = false ∧
    (∀ (L : D) (tl : Gp → QK → EK → Prop) (cdv : Value) (A : Around) (outer : List Env) (s : Shared) (H : Hp) (E : XK), Room k (A.deeper (envOfC x sg s.heap.objs.size g cdv)) →
      (∀ (W : WX) (pn : List (Addr × Obj)) (xe : Value → Shared → Prop) (p1 p2 : Pos), Takes ((cxOf (L2.CX P w) P w K mg base Ng x sg g cdv A outer s H E).tr pn xe) W →
        PE3 ((cxOf (L2.CX P w) P w K mg base Ng x sg g cdv A outer s H E).tr pn xe) Z0 W (.Call (.Name a p1) [] [] p2) (tcl 0 L tl)) →
      PSs3 (cxOf (L2.CX P w) P w K mg base Ng x sg g cdv A outer s H E) Z0 (fun c d _ H' => E c d H') bg (tw L tl)) ∧
    ∀ L tl G Q E, spw tl G Q E → tw L tl (fnEnds Q E) (start3 Ng [L]) G
def tlam (P : Addr) (q : Str) (spw : SpW) (tb : TE3) : TE3 := fun σ G Q E => G P = some (.tb q) ∧ spw (fun G1 Q1 E1 => tb σ G1 Q1 E1) G Q E
section
variable {X : Cx} {W : WX}
theorem lamw_ {x q : Str} {c P : Addr} {k j : Nat} {spw : SpW} {params : Arguments} {body : Expr} {scope : Scope} {tb : TE3} {p lpos pos : Pos} (F : Lw3 X.prog X.w X.K X.mg X.base x j spw)
    (TB : LamX.TabB X.base X.mg c P) (hcd : X.env.code = .ref c) (eq : X.env.qual ++ ("<lambda>" : Str) = q) (hr : Room k X.A) (hj : j + 1 ≤ k) (tk : Takes X W) (L : LamX.LamS X.env.scope scope)
    (hbody : ∀ (A : Around) (outer : List Env) (s : Shared) (H : Hp) (E : XK) (f c' : Addr), Room (j - 1) (A.deeper (LamX.lamEnv X scope s.heap.objs.size f c')) →
      PE3 (LamX.lamCx X A outer s H E scope f c') Z0 (fun c d _ H' => E c d H') body tb)
    (hj1 : 1 ≤ j) (hg : Gl X x := by rfl) (hdb : (x == ("__debug__" : Str)) = false := by decide) (hdef : defaultsOf params X.env = ([], []) := by rfl)
    (hbind : ∀ (q : Str) (cl : List (Str × Addr)) (pm cv ctv : Value), bindArgs (PySem.W.kla_fn "<lambda>" q params body scope cl pm cv ctv) ⟨[], []⟩ = pure [] := by intros; rfl) :
    PE3 X Z0 W (.Call (.Name x p) [.Lambda params body scope lpos] [] pos) (tlam P q spw tb) := by
  obtain ⟨g, fd, a, Ng, pg, bg, sg, tw, hm, FD, Sg, hb, hNg, hva, hd, hcdd, hw, hv⟩ := F.ex
  refine ⟨fun pins s σ H Q I h => ?_⟩
  obtain ⟨σ3, G, Q3, E3, gh, rs, ⟨hP, hsp⟩, qk, xk⟩ := h
  have hT : LamX.TabS H P (X.env.qual ++ "<lambda>") := by
    have := gh _ _ hP
    rw [eq]; exact this
  refine wpAny_Call_Name_kw (ld_glob I hg hm ?_ hdb)
  refine PySem.W.callWith_K (h₀ := X.base) I.ok.mod.kin FD.kp ?_ (by rfl) (by rfl)
  show wpAny _ _ (spliced ((false, eval (.Lambda params body scope lpos) X.env) :: backTo pos (starEach [] X.env))) _ _ s
  refine Calls.spliced_cons (lam_new I TB hcd hT hdef (L.has I.ok) fun f c' pm' ctv H1 s' I1 kp T1 hf hfn hfr hco => ?_)
  refine Calls.spliced_nil ⟨I1.kIn, ?_⟩
  have keep : Keep G H G H1 := fun b o e n => ⟨kp b o (fun z => by rw [z, hP] at n; cases n) e, n⟩
  have g1 : GH (Cxk X Z0) G H1 := fun b o e => by
    by_cases hb : b = P
    · rw [hb, hP] at e
      cases e
      rw [hb, ← eq]; exact T1
    · obtain ⟨u, hu⟩ := gh.some_of e
      exact (gh b o e).keep gh keep ((kp b u hb hu).trans hu.symm)
  have gc : G c' = none := by
    cases e : G c' with
    | none => rfl
    | some o =>
      have := (g1.none_of hco (by intros; intro z; unfold LamX.CodeO at z; cases z) (by intros; intro z; unfold LamX.CodeO at z; cases z) (by intros; intro z; unfold LamX.CodeO at z; cases z) (by intros; intro z; unfold LamX.CodeO at z; cases z))
      rw [this] at e; cases e
  have rs1 := rs.keep gh keep
  have dl := cap_dv rs1
  obtain ⟨oc, od, dV, kV, doc, pm, an, cdv, ct, osl, rfl, lk, hcg, _, _⟩ := FD.ex
  have rj : Room (j + 1) X.A := hr.mono hj
  have bnd := hb s' [.ref f] I1.kIn rfl
  rw [List.append_nil] at bnd
  have rc : codeAny (model X.prog X.w) X.A (.call (.ref g) ⟨[.ref f], []⟩) (CR (L2.CX X.prog X.w) X.stack X.prog X.w H1 s' Q (fun c d H' => W c d σ H')) s' := by
    refine LamX.run_ofS (CX := L2.CX X.prog X.w) (N := Ng) (ps := [a]) (us := [.ref f]) (vs := [.ref f]) lk hcg Sg rj I1.env0 bnd (.cons rfl .nil) rfl fun hr' => ?_
    have hr2 : Room (j - 1 + 1) (X.A.deeper (envOfC x sg s'.heap.objs.size g cdv)) := by rw [show j - 1 + 1 = j by omega]; exact hr'
    refine ⟨_, hw (.lam f c' (X.env.qual ++ "<lambda>") (capD σ3) (capV σ3 σ)) (fun G1 Q1 E1 => tb σ3 G1 Q1 E1) cdv X.A X.stack s' H1 (fun c d H' => W c d σ H') hr' (fun W' pn xe p1 p2 tk' =>
      act_ (k := j - 1) I1 L hf hfn hfr (hbind _ _ _ _ _) rs1 (fun A outer s H E hr3 => hbody A outer s H E f c' hr3) hr2 hNg hva hd hcdd W' pn xe p1 p2 tk'), ?_⟩
    refine ⟨start3 Ng [.lam f c' (X.env.qual ++ "<lambda>") (capD σ3) (capV σ3 σ)], G, fnEnds Q3 E3, g1, start_rs Ng (.cons (.lam hco gc dl) .nil), hv _ _ G Q3 E3 hsp, ?_⟩
    refine ⟨fun σ4 G1 τ H2 ⟨G2, s2, h1⟩ gg r1 k1 => ?_, fun d G1 v H2 ⟨G2, s2, h1⟩ gg r1 k1 => ?_, fun _ _ _ _ z => z.elim, fun _ _ _ _ z => z.elim, fun x3 σ4 G1 cc dd τ H2 ⟨G2, s2, h1⟩ gg r1 xv k1 => ?_⟩
    · exact qk _ _ _ _ h1 (gg.sub s2) .non ((keep.trans k1).trans (Keep.sub s2))
    · exact qk _ _ _ _ h1 (gg.sub s2) (r1.keep gg (Keep.sub s2)) ((keep.trans k1).trans (Keep.sub s2))
    · exact xk _ _ _ _ _ h1 (gg.sub s2) (xv.sub gg s2) ((keep.trans k1).trans (Keep.sub s2))
  refine wpAny_call (codeAny_mono rc fun r s2 hq => ?_)
  cases r with
  | error e => exact passAt tk σ _ _ _ _ _ I1 hq
  | ok fl =>
    cases fl with
    | ret u => exact I1.after hq
    | next => exact False.elim hq
    | brk => exact False.elim hq
    | cont => exact False.elim hq
end

/-! ### defs as values -/
section
variable {X : Cx} {Z : Zx} {W : WX} {e : Expr} {es : List Expr} {ta : TA3} {te : TE3} {pos p pc : Pos} {x a : Str}
theorem cfn_ (hm : X.mg x = some (.ref (ga X.K x))) (hg : Gl X x := by rfl) (hd : (x == ("__debug__" : Str)) = false := by decide) : PE3 X Z W (.Name x pos) (tc (.fn x)) :=
  PE.imp (pe_glob (v := .ref (ga X.K x)) hg hm rfl hd) fun σ H Q ⟨σ3, G, Q3, E3, g, _, h, q, x⟩ => q_of q g h (.fn _)
def FV (P : Program) (w : World) (K : PySem.W.Frag) (mg : Str → Option Value) (base : Heap) (k : Nat) (tab : List (Str × Sp3)) : Prop := ∀ q ∈ tab, ∃ j, j ≤ k ∧ Fn3 P w K mg base q.1 j q.2 ∧ mg q.1 = some (.ref (ga K q.1))
theorem fv_nil {P : Program} {w : World} {K : PySem.W.Frag} {mg : Str → Option Value} {base : Heap} {k : Nat} : FV P w K mg base k [] := fun _ h => by cases h
theorem fv_cons {P : Program} {w : World} {K : PySem.W.Frag} {mg : Str → Option Value} {base : Heap} {k j : Nat} {x : Str} {sp : Sp3} {tab : List (Str × Sp3)} (F : Fn3 P w K mg base x j sp) (hj : j ≤ k) (hm : mg x = some (.ref (ga K x))) (r : FV P w K mg base k tab) : FV P w K mg base k ((x, sp) :: tab) := fun q hq => by
  rcases List.mem_cons.mp hq with e | e
  · rw [e]; exact ⟨j, hj, F, hm⟩
  · exact r q e
def tcv (i : Nat) (tab : List (Str × Sp3)) (ta : TA3) : TE3 := fun σ G Q E => ∃ x sp, gt σ i = some (.fn x) ∧ tab.lookup x = some sp ∧ ta σ G (fun ds G1 => sp ds G1 Q E) E
/-- x(e, ..), x a name that holds a def -/
theorem callv_ {i k : Nat} {tab : List (Str × Sp3)} (F : FV X.prog X.w X.K X.mg X.base k tab) (hr : Room k X.A) (tk : Takes X W) (ha : PA3 X Z0 W (e :: es) ta)
    (hN : X.N[i]? = some a := by rfl) (hv : Vis X.env.scope a := by first | exact Or.inl rfl | exact Or.inr (Or.inl rfl) | exact Or.inr (Or.inr rfl)) (hdb : (a == ("__debug__" : Str)) = false := by decide) (hcd : (a == ("__classdict__" : Str)) = false := by decide)
    (he : starEach (e :: es) X.env = (false, eval e X.env) :: starEach es X.env := by rfl) (hpl : (backTo pos (starEach es X.env)).any (·.1) = false := by rfl) :
    PE3 X Z0 W (.Call (.Name a p) (e :: es) [] pos) (tcv i tab ta) := by
  refine ⟨fun pins s σ H Q I h => ?_⟩
  obtain ⟨σ3, G, Q3, E3, g, rs, ⟨z, sp, e0, el, ht⟩, qk, xk⟩ := h
  obtain ⟨v0, at0, dv0⟩ := rs.2 i _ (gt_eq _ _ e0)
  cases dv0
  have mem : (z, sp) ∈ tab := PySem.mem_of_lookup el
  obtain ⟨j, hj, F1, hm1⟩ := F _ mem
  obtain ⟨f, fd, ps, hm, hk, hb, F1⟩ := F1.ex
  have ef : f = ga X.K z := by rw [hm] at hm1; injection hm1 with h; injection h
  refine wpAny_Call_Name_kw (thn ((pe_var (pos := p) (i := i) hN hv hdb hcd).run pins s σ H (fun v H1 => v = .ref (ga X.K z) ∧ H1 = H) I ⟨_, at0, rfl, rfl⟩) fun u s1 ⟨v, H1, I1, r1, q1⟩ => ?_)
  obtain ⟨ev, eH⟩ := q1
  subst ev
  rw [eH] at I1
  obtain rfl : u = Value.ref (ga X.K z) := r1
  rw [← ef]
  refine PySem.W.callWith_K (h₀ := X.base) I1.ok.mod.kin hk (thn (ha.run pos pins s1 σ H (fun vs H2 => (liftSp ⟨X.K, Z0⟩ sp) vs H2 Q (fun c d H' => W c d σ H')) I1 ?_) fun us s2 ⟨vs, H2, I2, r2, q2⟩ => ⟨I2.kIn, ?_⟩) he hpl
  · exact ⟨σ3, G, _, E3, g, rs, ht, fun ds G1 vs H2 h1 g1 r1 k1 => ⟨ds, G1, Q3, E3, g1, r1, h1, qk.keep k1, xk.keep k1⟩, xk⟩
  · exact run_fnS (E := WE W) F1 (hr.mono hj) hb (passAt tk σ) I2 r2 q2
end
/-! ### isinstance of a held error -/
def clsA (K : PySem.W.Frag) (b : Bool) (C : Str) : Value := if b then .type "ValueError" else .ref (ga K C)
structure ExiF (K : PySem.W.Frag) (l : List (Str × Str × Bool × Bool)) : Prop where
  ec : ∀ p ∈ l, ExcC K (ga K p.1)
  is : ∀ p ∈ l, PySem.W.kitOne K (.ref (ga K p.1)) (clsA K p.2.2.1 p.2.1) = some p.2.2.2
def excCB (K : PySem.W.Frag) (D : Addr) : Bool := decide (PySem.W.findIn K (.ref D) "__getattribute__" = some (some (.builtin "BaseException.__getattribute__"))) && (decide (PySem.W.findIn K (.ref D) "__getattr__" = some none) &&
  (decide (PySem.W.subIn K (.ref D) (.type "BaseException") = some true) && (PySem.W.hasDictIn K D && (decide (PySem.W.findIn K (.ref D) "__class__" = some (some (.builtin "object.__class__"))) &&
  (decide (PySem.W.specialIn K (.builtin "object.__class__") "__get__" = some (some (.builtin "getset_descriptor.__get__"))) && (decide (PySem.W.takesIn K (.builtin "object.__class__") = some true) && decide (PySem.W.mroIn K D (.type "object") = some true)))))))
def exiB (l : List (Str × Str × Bool × Bool)) (K : PySem.W.Frag) : Bool := l.all fun p => excCB K (ga K p.1) && decide (PySem.W.kitOne K (.ref (ga K p.1)) (clsA K p.2.2.1 p.2.1) = some p.2.2.2)
theorem exiF_ok {K : PySem.W.Frag} {l : List (Str × Str × Bool × Bool)} (h : exiB l K = true) : ExiF K l := by
  have key := fun p hp => He.ba (List.all_eq_true.mp h p hp)
  refine ⟨fun p hp => ?_, fun p hp => of_decide_eq_true (key p hp).2⟩
  obtain ⟨h, _⟩ := key p hp
  obtain ⟨h1, h⟩ := He.ba h
  obtain ⟨h2, h⟩ := He.ba h
  obtain ⟨h3, h⟩ := He.ba h
  obtain ⟨h4, h⟩ := He.ba h
  obtain ⟨h5, h⟩ := He.ba h
  obtain ⟨h6, h⟩ := He.ba h
  obtain ⟨h7, h8⟩ := He.ba h
  exact ⟨of_decide_eq_true h1, of_decide_eq_true h2, of_decide_eq_true h3, h4, of_decide_eq_true h5, of_decide_eq_true h6, of_decide_eq_true h7, of_decide_eq_true h8⟩
def exiOf (l : List (Str × Str × Bool × Bool)) (c C : Str) (b : Bool) : Option Bool := (l.find? fun p => p.1 == c && (p.2.1 == C && p.2.2.1 == b)).map (·.2.2.2)
theorem exi_ok {K : PySem.W.Frag} {l : List (Str × Str × Bool × Bool)} (T : ExiF K l) {c C : Str} {b r : Bool} (h : exiOf l c C b = some r) : ExcC K (ga K c) ∧ PySem.W.kitOne K (.ref (ga K c)) (clsA K b C) = some r := by
  unfold exiOf at h
  cases e : l.find? fun p => p.1 == c && (p.2.1 == C && p.2.2.1 == b) with
  | none => rw [e] at h; cases h
  | some p =>
    rw [e] at h
    have m := List.mem_of_find?_eq_some e
    have q := List.find?_some e
    simp only [Bool.and_eq_true, beq_iff_eq] at q
    have h1 : p.2.2.2 = r := Option.some.inj h
    obtain ⟨q1, q2, q3⟩ := q
    rw [← q1, ← q2, ← q3, ← h1]
    exact ⟨T.ec p m, T.is p m⟩
def tise (l : List (Str × Str × Bool × Bool)) (b : Bool) (C : Str) (te : TE3) : TE3 := fun σ G Q E => te σ G (fun x G1 => ∃ c r, x = .ex c ∧ exiOf l c C b = some r ∧ Q (.bl r) G1) E
theorem isie_ {X : Cx} {a : Addr} {oe : Obj} {d : Option Addr} {pn : List (Addr × Obj)} {W : WX} {e ce : Expr} {te : TE3} {p pos : Pos} {e3 : X3} {l : List (Str × Str × Bool × Bool)} {b : Bool} {C : Str} (T : ExiF X.K l) (hz : Zc (.ref (ga X.K e3.c)) d oe) (hf : ∃ vs, oe.data = .fields vs)
    (hi : X.mg "isinstance" = none) (hc : IsC (X.suite a ((a, oe) :: pn)) ce (clsA X.K b C)) (he : PE3 (X.suite a ((a, oe) :: pn)) ⟨a, .ref (ga X.K e3.c), d⟩ W e te) (hg : Gl X "isinstance" := by rfl)
    (he1 : starEach [e, ce] X.env = (false, eval e X.env) :: starEach [ce] X.env := by rfl) (he2 : starEach [ce] X.env = (false, eval ce X.env) :: starEach [] X.env := by rfl) (hpl : (backTo pos (starEach [ce] X.env)).any (·.1) = false := by rfl) :
    PE3 (X.suite a ((a, oe) :: pn)) ⟨a, .ref (ga X.K e3.c), d⟩ W (.Call (.Name "isinstance" p) [e, ce] [] pos) (tise l b C te) := by
  obtain ⟨cv, hc, k⟩ := hc
  have call : CallR (X.suite a ((a, oe) :: pn)) (.builtin "isinstance") (fun xs H Q => (ExcC X.K (ga X.K e3.c) ∧ d = none) ∧ rIsE X.K (ga X.K e3.c) a xs H Q) := fun pins s σ H xs us Q I r ⟨⟨h1, h2⟩, h3⟩ => by
    subst h2
    exact call_isE h1 hz hf pins s σ H xs us Q I r h3
  refine PE.imp (pe_callB (X := X.suite a ((a, oe) :: pn)) call hg hi (by decide +kernel) (pa_cons he (pa_cons hc pa_nil he2) he1) (by decide) (by decide) he1 hpl) fun σ H Q h => ?_
  obtain ⟨σ3, G, Q3, E3, g, rs, h, qk, x⟩ := h
  refine ⟨σ3, G, _, E3, g, rs, h, fun y G1 v H1 ⟨c, r, ey, h2, h3⟩ g1 r1 k1 => ?_, x⟩
  subst ey
  cases r1 with
  | ex z1 z2 =>
  obtain ⟨t1, t2⟩ := exi_ok T h2
  have z1 : Value.ref (ga X.K e3.c) = .ref (ga X.K c) := z1
  injection z1 with z1
  rw [← z1] at t1 t2
  exact ⟨⟨t1, z2⟩, cv, _, r, rfl, fun u hu => k.eq hu, t2, q_of (qk.keep k1) g1 h3 (.bl r)⟩
/-! ### count of flags -/
def mCount : QM := fun x ds G Q => match ds with
  | [.bl b] => ∃ bs : List Bool, lq G x = some (bs.map D.bl) ∧ Q (.int (bs.count b : Nat)) G
  | _ => False
theorem mt_cnt {X : Cx} : MtR X "list.count" (fun x xs H Q => ∃ (a : Addr) (ys : List V) (y : V), x = .ref a ∧ xs = [y] ∧ SqL X.K H a ys ∧ flatV y = true ∧ ys.all flatV = true ∧ Q (.int (ys.countP fun z => eqV z y : Nat)) H) := by
  intro pins s σ H x xs v us Q I rx rxs h
  obtain ⟨a, ys, y, rfl, rfl, hs, fy, fys, q⟩ := h
  cases rx
  obtain ⟨uy, rfl, ry⟩ := rxs.one
  obtain ⟨its, rv, ⟨⟨cls, dd, data, sl⟩, n, ho, hc, hdn, hd⟩, hlen⟩ := I.list hs
  simp only at hc hd
  subst hc hd
  refine call_meets PySem.F.slot_list_count ⟨_, ho, rfl⟩ PySem.F.entry_list_count (PySem.F.args_list_count_2 _ _)
    (SeqAt.list_countAt a its.toArray n dd sl uy (eqU y)) ⟨ho, fun u hu => mem_eqAt ry fy rv fys u (by simpa using hu), ?_⟩
  have key : ∀ (ys : List V) (its : List Value), Vals ys its → ys.all flatV = true → its.countP (eqU y) = ys.countP fun z => eqV z y := by
    intro ys
    induction ys with
    | nil => intro its r _; cases r; rfl
    | cons z zs ih =>
      intro its r f
      cases r with
      | cons rz rr =>
        simp only [List.all_cons, Bool.and_eq_true] at f
        rw [List.countP_cons, List.countP_cons, ih _ rr f.2, eqU_of rz f.1]
  refine ⟨.int (ys.countP fun z => eqV z y : Nat), H, I.tok _, ⟨s.toks, ?_⟩, q⟩
  show Value.int ((its.toArray.toList.countP (eqU y) : Nat) : Int) s.toks = Value.int ((ys.countP fun z => eqV z y : Nat) : Int) s.toks
  rw [show its.toArray.toList = its from rfl, key ys its rv fys]
theorem me_count {X : Cx} {Z : Zx} : MtR3 X Z "list.count" mCount := by
  refine ⟨_, mt_cnt, fun G H x v xs vs Q3 Q g rx r h q => ?_⟩
  unfold mCount at h
  split at h
  · rename_i b
    cases r with
    | cons r1 r2 =>
    cases r1
    cases r2
    obtain ⟨bs, e, h⟩ := h
    obtain ⟨a, ws, ea, s, rl⟩ := lq_ok g rx e
    have ew : ws = bs.map V.bl := by
      clear e ea s h
      induction bs generalizing ws with
      | nil => cases rl; rfl
      | cons c bs ih => cases rl with | cons r t => cases r; rw [ih _ t]; rfl
    subst ew
    refine ⟨a, _, _, ea, rfl, s, rfl, by rw [List.all_map]; exact List.all_eq_true.mpr fun _ _ => rfl, ?_⟩
    have e2 : (bs.map V.bl).countP (fun z => eqV z (V.bl b)) = bs.count b := by
      rw [List.countP_map]
      unfold List.count
      refine congrArg (fun f => List.countP f bs) (funext fun c => ?_)
      cases c <;> cases b <;> rfl
    rw [e2]
    exact q_of q g h (.int _)
  · exact h.elim
/-! ### the end of a law that hands lambdas on -/
theorem walk3t {l : PySem.W.OpenLaw} {n k : Nat} {q : Program} {loose : List Str} {XP : (Str → Option Value) → Heap → Prop} {YP : World → Heap → Prop} {d : DefRec} {x qn : Str} {sp : Addr → Sp3}
    (hn : l.most = some n) (hn2 : n ≤ sizeLine) (hdf : d.params.defaults = []) (hr : Room k callerA)
    (F : ∀ (w : World) (mg : Str → Option Value) (fa : Addr) (h : Heap), YP w h → h.Ns mainGlobals mg → mg d.name = some (.ref fa) →
      ∃ (K : PySem.W.Frag) (fd : FuncData) (c P : Addr), K.In h ∧ PySem.W.codeHdIn K c P = true ∧ K.lookup P = none ∧ h.get? P = some { cls := .none, data := .fields #[] } ∧ (∀ (s : Shared) (u : Value), BindsTo s fd ⟨[u], []⟩ [(x, u)]) ∧
        ∀ base : Heap, LamX.TabB base mg c P → FnOk l.prog w K mg base (L2.CX l.prog w) k fa fd [x] (liftSp ⟨K, Z0⟩ (sp P)))
    (hsp : ∀ (P : Addr) (ns : List Int) (Q : QK) (E : EK), ns.length ≤ n → (∀ G, Q (.bl true) G) → sp P [.sl (ns.map D.int)] (fun b => if b = P then some (.tb qn) else none) Q E) :
    PySem.W.WalkO q loose XP YP l.row.toRowW d [] (fun f vs => PySem.call f vs) := by
  refine LamX.walk_ofTsE (CX := fun w => L2.CX l.prog w) (x := x) (k := k) (n := n) hn hn2 hdf hr (fun w mg fa h Y G hmg => ?_) fun w H s e s' hx => ?_
  · obtain ⟨K, fd, c, P, KX, hc, nP, eP, hb, hF⟩ := F w mg fa h Y G hmg
    refine ⟨K, KX, fd, [(c, P)], liftSp ⟨K, Z0⟩ (sp P), ?_, ?_, ?_, hb, fun H a ns hlen _ hT hS => ?_, fun base _ _ hTB => hF base (hTB _ (List.mem_singleton.mpr rfl))⟩
    · intro p hp; rw [List.mem_singleton.mp hp]; exact eP
    · intro p hp; rw [List.mem_singleton.mp hp]; exact nP
    · intro p hp; rw [List.mem_singleton.mp hp]; exact PySem.W.codeHd_of_K KX hc
    · have tP : H P = some (.tbl #[]) := hT (c, P) (List.mem_singleton.mpr rfl)
      have g0 : GH ⟨K, Z0⟩ (fun b => if b = P then some (.tb qn) else none) H := fun b o h => by
        dsimp only at h
        by_cases hb : b = P
        · rw [if_pos hb] at h; cases h; rw [hb]; exact LamX.TabS.nil tP
        · rw [if_neg hb] at h; cases h
      have na : a ≠ P := fun z => by
        rcases hS with h | ⟨o, its, n, h, _⟩
        · rw [z] at h; rcases h with h | ⟨o, h⟩ <;> rw [tP] at h <;> cases h
        · rw [z, nP] at h; cases h
      refine ⟨[.sl (ns.map D.int)], _, fun d _ => d = .bl true, fun _ _ => False, g0, .cons (.sl (SqF.of g0 hS (if_neg na)) (dvl_ints ns)) .nil, hsp P ns _ _ hlen fun _ => rfl,
        fun d G' v H' h g r k => by subst h; cases r; rfl, fun _ _ _ _ _ z => z.elim⟩
  · obtain ⟨_, _, _, _, _, _, _, _, _, _, _, _, z⟩ := hx
    exact z
theorem isc_ve {X : Cx} {p : Pos} {C : Str} (hm : X.mg "ValueError" = none) (hg : Gl X "ValueError" := by rfl) : IsC X (.Name "ValueError" p) (clsA X.K true C) :=
  ⟨.ty "ValueError", pe_bltn hg hm (by decide +kernel) rfl (by decide +kernel) (by decide +kernel), .ty _⟩
theorem isc_oe {X : Cx} {p : Pos} {x : Str} (hm : X.mg x = some (.ref (ga X.K x))) (hg : Gl X x := by rfl) (hd : (x == ("__debug__" : Str)) = false := by decide +kernel) : IsC X (.Name x p) (clsA X.K false x) :=
  ⟨.ref (ga X.K x), pe_glob hg hm rfl hd, .own _⟩
theorem code_of {K : PySem.W.Frag} {x q : Str} {params : Arguments} {body : List Stmt} {scope : Scope} {fd : FuncData} {p : Str × Option Str} (F : FunD K x q params body scope [] [] (He.fAd K p) fd) : fd.code = .ref (He.codeOf K p) := by
  obtain ⟨oc, od, dV, kV, doc, pm, an, cdv, ct, osl, rfl, lk, hcd, _, _⟩ := F.ex
  obtain ⟨c, rfl⟩ := He.codeIn_ref hcd
  rw [He.codeOf_eq lk rfl]
section
variable {P : Program} {w : World} {mg : Str → Option Value} {base : Heap}
theorem fn3_ofc {K : PySem.W.Frag} {x qual : Str} {params : Arguments} {body : List Stmt} {scope : Scope} {f c : Addr} {fd : FuncData} {N ps : List Str} {k : Nat} {sp : Sp3}
    (F : FunD K x qual params body scope [] [] f fd) (hc : fd.code = .ref c) (S : FnScope N ps scope) (len : ∀ ds G Q E, sp ds G Q E → ds.length = ps.length)
    (hbody : ∃ t : TS3, (∀ (A : Around) (outer : List Env) (s : Shared) (H : Hp) (E : XK), Room k (A.deeper (envOfC qual scope s.heap.objs.size f (.ref c))) →
        PSs3 (cxOf (L2.CX P w) P w K mg base N qual scope f (.ref c) A outer s H E) Z0 (fun c d _ H' => E c d H') body t) ∧
      ∀ ds G Q E, sp ds G Q E → t (fnEnds Q E) (start3 N ds) G) : FnOk P w K mg base (L2.CX P w) (k + 1) f fd ps (liftSp ⟨K, Z0⟩ sp) := by
  obtain ⟨t, hb, hv⟩ := hbody
  obtain ⟨oc, od, dV, kV, doc, pm, an, cdv, ct, osl, rfl, lk, hcd, _, _⟩ := F.ex
  have hc : cdv = .ref c := hc
  subst hc
  refine fn_of lk hcd S (fun vs H Q E h => ?_) fun A outer s H vs Q E hr h => ?_
  · obtain ⟨ds, G, Q3, E3, g, r, h, _⟩ := h
    rw [← r.length]
    exact len _ _ _ _ h
  · refine ⟨_, hb A outer s H E hr, ?_⟩
    obtain ⟨ds, G, Q3, E3, g, r, h, q, x⟩ := h
    refine ⟨start3 N ds, G, fnEnds Q3 E3, g, start_rs N r, hv ds G Q3 E3 h, ⟨fun σ3 G1 σ H1 ⟨G2, s2, h1⟩ g1 r1 k1 => ?_, fun d G1 v H1 ⟨G2, s2, h1⟩ g1 r1 k1 => ?_, fun _ _ _ _ z => z.elim, fun _ _ _ _ z => z.elim, fun x3 σ3 G1 c d σ H1 ⟨G2, s2, h1⟩ g1 r1 xv k1 => ?_⟩⟩
    · exact q _ _ _ _ h1 (g1.sub s2) .non (k1.trans (Keep.sub s2))
    · exact q _ _ _ _ h1 (g1.sub s2) (r1.keep g1 (Keep.sub s2)) (k1.trans (Keep.sub s2))
    · exact x _ _ _ _ _ h1 (g1.sub s2) (xv.sub g1 s2) (k1.trans (Keep.sub s2))
end
/-- == of plain things, where the room is not told (in an except suite) -/
def eqs3 : Q2 := fun x y G Q => scD x y = true ∧ Q (.bl (eqD x y)) G
theorem o_eqs {X : Cx} {Z : Zx} : OpR3 X Z (compareOp .Eq) eqs3 := by
  refine ⟨_, op_eq, fun G H x y v u Q3 Q g rx ry h q => ?_⟩
  obtain ⟨c, h⟩ := h
  obtain ⟨h1, h2⟩ := scal_of rx ry c
  exact ⟨h1, by rw [h2]; exact q_of q g h (.bl _)⟩
section
variable {P : Program} {w : World} {K : PySem.W.Frag} {mg : Str → Option Value} {base : Heap} {N : List Str} {qual : Str} {sc : Scope} {f c : Addr} {A : Around} {outer : List Env} {s : Shared} {H : Hp} {E : XK}
/-- lamw_ in a def's own body -/
theorem lamwc_ {x : Str} {Pt : Addr} {k j : Nat} {spw : SpW} {params : Arguments} {body : Expr} {scope : Scope} {tb : TE3} {p lpos pos : Pos} (F : Lw3 P w K mg base x j spw) (TB : LamX.TabB base mg c Pt)
    (hr : Room k (A.deeper (envOfC qual sc s.heap.objs.size f (.ref c)))) (hj : j + 1 ≤ k) (L : LamX.LamS sc scope)
    (hbody : ∀ (A1 : Around) (outer1 : List Env) (s1 : Shared) (H1 : Hp) (E1 : XK) (f1 c1 : Addr), Room (j - 1) (A1.deeper (LamX.lamEnv (cxOf (L2.CX P w) P w K mg base N qual sc f (.ref c) A outer s H E) scope s1.heap.objs.size f1 c1)) →
      PE3 (LamX.lamCx (cxOf (L2.CX P w) P w K mg base N qual sc f (.ref c) A outer s H E) A1 outer1 s1 H1 E1 scope f1 c1) Z0 (fun c d _ H' => E1 c d H') body tb)
    (hj1 : 1 ≤ j) (hg : Gl (cxOf (L2.CX P w) P w K mg base N qual sc f (.ref c) A outer s H E) x := by rfl) (hdb : (x == ("__debug__" : Str)) = false := by decide) (hdef : defaultsOf params (cxOf (L2.CX P w) P w K mg base N qual sc f (.ref c) A outer s H E).env = ([], []) := by rfl)
    (hbind : ∀ (q : Str) (cl : List (Str × Addr)) (pm cv ctv : Value), bindArgs (PySem.W.kla_fn "<lambda>" q params body scope cl pm cv ctv) ⟨[], []⟩ = pure [] := by intros; rfl) :
    PE3 (cxOf (L2.CX P w) P w K mg base N qual sc f (.ref c) A outer s H E) Z0 (fun c d _ H' => E c d H') (.Call (.Name x p) [.Lambda params body scope lpos] [] pos) (tlam Pt (qual ++ (".<locals>." : Str) ++ ("<lambda>" : Str)) spw tb) :=
  lamw_ (X := cxOf (L2.CX P w) P w K mg base N qual sc f (.ref c) A outer s H E) F TB rfl rfl hr hj tk_of L hbody hj1 hg hdb hdef hbind
end
/-! ### a, b, c = e1, e2, e3 -/
def spar3 (i j l : Nat) (ta : TA3) : TS3 := fun D σ G => ta σ G (fun ds G1 => ∃ u v w, ds = [u, v, w] ∧ D.nx (((σ.set i (some u)).set j (some v)).set l (some w)) G1) (fun x G1 => D.ex x σ G1)
theorem par3_ {X : Cx} {Z : Zx} {W : WX} {a b c : Expr} {ta : TA3} {pos : Pos} (i j l : Nat) {x y z : Str} {px py pz pt : Pos} {kt k2 pt2} (hc : X.calm = true) (hN : X.N.Nodup) (ha : PA3 X Z W [a, b, c] ta) (hi : X.N[i]? = some x := by rfl) (hj : X.N[j]? = some y := by rfl) (hl : X.N[l]? = some z := by rfl)
    (hij : i ≠ j := by decide) (hil : i ≠ l := by decide) (hjl : j ≠ l := by decide)
    (hx : X.env.scope.names.lookup x = some .local := by rfl) (hy : X.env.scope.names.lookup y = some .local := by rfl) (hz : X.env.scope.names.lookup z = some .local := by rfl)
    (hw : swappedStores [.Tuple [.Name x px, .Name y py, .Name z pz] kt pt] (.Tuple [a, b, c] k2 pt2) X.env = pure (some [x, y, z]) := by rfl)
    (hs : swapsWithSole [.Tuple [.Name x px, .Name y py, .Name z pz] kt pt] (.Tuple [a, b, c] k2 pt2) pos.line X.env = pure false := by rfl) :
    PS3 X Z W (.Assign [.Tuple [.Name x px, .Name y py, .Name z pz] kt pt] (.Tuple [a, b, c] k2 pt2) pos) (spar3 i j l ta) := PS.imp (ps_par3 hc hN hi hj hl hij hil hjl hx hy hz ha hw hs) fun D σ H h => by
  obtain ⟨σ3, G, D3, g, rs, h, d⟩ := h
  refine ⟨σ3, G, _, _, g, rs, h, fun ds G1 vs H1 ⟨u, v, w, e, h1⟩ g1 r1 k1 => ?_, d.exk g rs⟩
  subst e
  cases r1 with
  | cons r1 r2 =>
  cases r2 with
  | cons r2 r3 =>
  cases r3 with
  | cons r3 r4 =>
  cases r4
  exact ⟨_, _, _, rfl, d.nx _ _ _ _ h1 g1 ((((rs.keep g k1).set r1 i).set r2 j).set r3 l) k1⟩
end L3
namespace C3
open PySem PySem.Spec PyProof.Rows L2 L3
open He (ga)

abbrev OC : List Str := [(Str.ofString "Forest")]
def top (i : Nat) : Stmt := PySem.Challenge.pw_cutlinked_k15_reachings_refused.main.body.getD i (.Pass ⟨0, 0, 0, 0⟩)
abbrev s_comes_to_none : Stmt := top 16
abbrev N_comes_to_none : List Str := [(Str.ofString "parents"), (Str.ofString "house"), (Str.ofString "here"), (Str.ofString "turn")]
abbrev s_is_integer : Stmt := top 8
abbrev N_is_integer : List Str := [(Str.ofString "thing")]
abbrev s_is_within : Stmt := top 9
abbrev N_is_within : List Str := [(Str.ofString "thing"), (Str.ofString "least"), (Str.ofString "most")]
abbrev s_is_below : Stmt := top 11
abbrev N_is_below : List Str := [(Str.ofString "thing"), (Str.ofString "many")]
abbrev s_is_sized : Stmt := top 12
abbrev N_is_sized : List Str := [(Str.ofString "thing"), (Str.ofString "least"), (Str.ofString "most")]
abbrev s_are_parents : Stmt := top 17
abbrev N_are_parents : List Str := [(Str.ofString "thing"), (Str.ofString "house"), (Str.ofString "item")]
abbrev s_Forest___init__ : Stmt := inClass (top 18) 0
abbrev N_Forest___init__ : List Str := [(Str.ofString "self"), (Str.ofString "parents"), (Str.ofString "worths"), (Str.ofString "value")]
abbrev s__law_deep : Stmt := top 61
abbrev N__law_deep : List Str := [(Str.ofString "_law_kind"), (Str.ofString "_law_found"), (Str.ofString "_law_turn")]
abbrev s__law_draw : Stmt := top 58
abbrev N__law_draw : List Str := [(Str.ofString "_law_hand_here"), (Str.ofString "_law_many"), (Str.ofString "_law_number"), (Str.ofString "_law_cell"), (Str.ofString "_law_digit")]
abbrev s__law_some : Stmt := top 59
abbrev N__law_some : List Str := [(Str.ofString "_law_hand_here"), (Str.ofString "_law_things")]
abbrev s__law_bent : Stmt := top 71
abbrev N__law_bent : List Str := [(Str.ofString "_law_hand_here"), (Str.ofString "_law_shape_here"), (Str.ofString "_law_strange"), (Str.ofString "_law_odd"), (Str.ofString "_law_one"), (Str.ofString "_law_bent_here"), (Str.ofString "_law_whole"), (Str.ofString "_law_things"), (Str.ofString "_law_at"), (Str.ofString "_law_place")]
abbrev s__law_hand : Stmt := top 57
abbrev N__law_hand : List Str := [(Str.ofString "_law_script"), (Str.ofString "_law_cells"), (Str.ofString "_law_cell")]
abbrev s__law_is_number : Stmt := top 67
abbrev N__law_is_number : List Str := [(Str.ofString "_law_thing"), (Str.ofString "_law_many")]
abbrev s__law_is_integer : Stmt := top 69
abbrev N__law_is_integer : List Str := [(Str.ofString "_law_thing")]
abbrev s__law_is_shape : Stmt := top 70
abbrev N__law_is_shape : List Str := [(Str.ofString "_law_thing"), (Str.ofString "_law_many"), (Str.ofString "_law_one"), (Str.ofString "_law_house"), (Str.ofString "_law_here"), (Str.ofString "_law_turn"), (Str.ofString "_law_son")]
abbrev s__law_planted : Stmt := top 64
abbrev N__law_planted : List Str := [(Str.ofString "_law_hand_here"), (Str.ofString "_law_part"), (Str.ofString "_law_up"), (Str.ofString "_law_given"), (Str.ofString "_law_worths"), (Str.ofString "_law_here"), (Str.ofString "_law_at"), (Str.ofString "_law_house"), (Str.ofString "_law_left"), (Str.ofString "_law_right"), (Str.ofString "_law_turned"), (Str.ofString "_law_added")]
abbrev s__law_shuffled : Stmt := top 60
abbrev N__law_shuffled : List Str := [(Str.ofString "_law_hand_here"), (Str.ofString "_law_things"), (Str.ofString "_law_pool"), (Str.ofString "_law_found")]
abbrev s__law_rows_of : Stmt := top 63
abbrev N__law_rows_of : List Str := [(Str.ofString "_law_hand_here"), (Str.ofString "_law_parents"), (Str.ofString "_law_house"), (Str.ofString "_law_found"), (Str.ofString "_law_many"), (Str.ofString "_law_going"), (Str.ofString "_law_row"), (Str.ofString "_law_turn")]
abbrev s__law_laid : Stmt := top 65
abbrev N__law_laid : List Str := [(Str.ofString "_law_hand_here"), (Str.ofString "_law_parents"), (Str.ofString "_law_worths"), (Str.ofString "_law_here"), (Str.ofString "_law_row")]
abbrev s__law_shape : Stmt := top 66
abbrev N__law_shape : List Str := [(Str.ofString "_law_here"), (Str.ofString "_law_one")]
abbrev s__law_trees : Stmt := top 62
abbrev N__law_trees : List Str := [(Str.ofString "_law_hand_here"), (Str.ofString "_law_many"), (Str.ofString "_law_at"), (Str.ofString "_law_worths"), (Str.ofString "_law_order"), (Str.ofString "_law_parents"), (Str.ofString "_law_kind"), (Str.ofString "_law_near"), (Str.ofString "_law_house")]
abbrev s_check_within : Stmt := top 13
abbrev N_check_within : List Str := [(Str.ofString "thing"), (Str.ofString "least"), (Str.ofString "most")]
abbrev s_is_number : Stmt := top 10
abbrev N_is_number : List Str := [(Str.ofString "thing")]
abbrev s_rank_of : Stmt := top 35
abbrev N_rank_of : List Str := [(Str.ofString "number"), (Str.ofString "found")]
abbrev s_most_of : Stmt := top 54
abbrev N_most_of : List Str := [(Str.ofString "many")]
abbrev s_is_paper : Stmt := top 55
abbrev N_is_paper : List Str := [(Str.ofString "many"), (Str.ofString "thing"), (Str.ofString "first"), (Str.ofString "met"), (Str.ofString "last"), (Str.ofString "change")]
abbrev s_replaced : Stmt := top 14
abbrev N_replaced : List Str := [(Str.ofString "items"), (Str.ofString "number"), (Str.ofString "item")]
abbrev s_changed : Stmt := top 38
abbrev N_changed : List Str := [(Str.ofString "shape"), (Str.ofString "house"), (Str.ofString "part"), (Str.ofString "thing")]
abbrev s_sons_of : Stmt := top 30
abbrev N_sons_of : List Str := [(Str.ofString "shape"), (Str.ofString "house"), (Str.ofString "son")]
abbrev s_with_more : Stmt := top 39
abbrev N_with_more : List Str := [(Str.ofString "part"), (Str.ofString "number")]
abbrev s_after_handing : Stmt := top 40
abbrev N_after_handing : List Str := [(Str.ofString "shape"), (Str.ofString "house"), (Str.ofString "found"), (Str.ofString "son"), (Str.ofString "up"), (Str.ofString "left"), (Str.ofString "right"), (Str.ofString "is_turned"), (Str.ofString "added"), (Str.ofString "value")]
abbrev s_is_son : Stmt := top 34
abbrev N_is_son : List Str := [(Str.ofString "shape"), (Str.ofString "house"), (Str.ofString "up")]
abbrev s_side_of : Stmt := top 41
abbrev N_side_of : List Str := [(Str.ofString "shape"), (Str.ofString "house")]
abbrev s_after_turn : Stmt := top 42
abbrev N_after_turn : List Str := [(Str.ofString "shape"), (Str.ofString "house"), (Str.ofString "one"), (Str.ofString "found"), (Str.ofString "side"), (Str.ofString "other_side"), (Str.ofString "up"), (Str.ofString "between")]
abbrev s_after_step : Stmt := top 48
abbrev N_after_step : List Str := [(Str.ofString "shape"), (Str.ofString "house"), (Str.ofString "up"), (Str.ofString "first")]
abbrev s_down_to : Stmt := top 47
abbrev N_down_to : List Str := [(Str.ofString "shape"), (Str.ofString "house"), (Str.ofString "chain"), (Str.ofString "found"), (Str.ofString "here")]
abbrev s_to_top : Stmt := top 49
abbrev N_to_top : List Str := [(Str.ofString "shape"), (Str.ofString "house"), (Str.ofString "found"), (Str.ofString "steps")]
abbrev s_met_from : Stmt := top 50
abbrev N_met_from : List Str := [(Str.ofString "shape"), (Str.ofString "house"), (Str.ofString "found"), (Str.ofString "met"), (Str.ofString "steps"), (Str.ofString "here"), (Str.ofString "more")]
abbrev s_spliced : Stmt := top 51
abbrev N_spliced : List Str := [(Str.ofString "shape"), (Str.ofString "met"), (Str.ofString "found"), (Str.ofString "ahead"), (Str.ofString "here")]
abbrev s_all_weights : Stmt := top 36
abbrev N_all_weights : List Str := [(Str.ofString "shape"), (Str.ofString "found"), (Str.ofString "left"), (Str.ofString "part"), (Str.ofString "ready"), (Str.ofString "here"), (Str.ofString "up"), (Str.ofString "house"), (Str.ofString "many")]
abbrev s_sum_of_ranks : Stmt := top 37
abbrev N_sum_of_ranks : List Str := [(Str.ofString "shape"), (Str.ofString "weight")]
abbrev s_after_reaching : Stmt := top 52
abbrev N_after_reaching : List Str := [(Str.ofString "shape"), (Str.ofString "house"), (Str.ofString "before"), (Str.ofString "change"), (Str.ofString "there"), (Str.ofString "met"), (Str.ofString "first"), (Str.ofString "found"), (Str.ofString "last")]
abbrev s_check_house : Stmt := top 19
abbrev N_check_house : List Str := [(Str.ofString "many"), (Str.ofString "thing")]
abbrev s_comes_out : Stmt := top 31
abbrev N_comes_out : List Str := [(Str.ofString "shape"), (Str.ofString "house"), (Str.ofString "here"), (Str.ofString "turn")]
abbrev s_is_place : Stmt := top 28
abbrev N_is_place : List Str := [(Str.ofString "many"), (Str.ofString "thing")]
abbrev s_is_part : Stmt := top 29
abbrev N_is_part : List Str := [(Str.ofString "many"), (Str.ofString "thing"), (Str.ofString "item")]
abbrev s_is_right_shape : Stmt := top 32
abbrev N_is_right_shape : List Str := [(Str.ofString "thing"), (Str.ofString "house"), (Str.ofString "part"), (Str.ofString "son")]
abbrev s_check_shape : Stmt := top 33
abbrev N_check_shape : List Str := [(Str.ofString "thing")]
abbrev s_reached : Stmt := top 53
abbrev N_reached : List Str := [(Str.ofString "shape"), (Str.ofString "house"), (Str.ofString "found"), (Str.ofString "met"), (Str.ofString "paper")]
abbrev s__law_word : Stmt := top 68
abbrev N__law_word : List Str := [(Str.ofString "_law_call"), (Str.ofString "_law_word_here"), (Str.ofString "e"), (Str.ofString "_law_flags")]
abbrev s_law : Stmt := top 72
abbrev N_law : List Str := [(Str.ofString "_law_script"), (Str.ofString "_law_hand_here"), (Str.ofString "_law_turn"), (Str.ofString "_law_shape_here"), (Str.ofString "_law_again"), (Str.ofString "_law_parents"), (Str.ofString "_law_worths"), (Str.ofString "_law_thing"), (Str.ofString "_law_odd"), (Str.ofString "_law_house"), (Str.ofString "_law_due"), (Str.ofString "_law_many")]
def EXI : List (Str × Str × Bool × Bool) := [((Str.ofString "NoShape"), (Str.ofString "NoShape"), false, true), ((Str.ofString "NoShape"), (Str.ofString "NoHouse"), false, false), ((Str.ofString "NoShape"), (Str.ofString "NoNumber"), false, false), ((Str.ofString "NoShape"), (Str.ofString "ValueError"), true, true), ((Str.ofString "NoHouse"), (Str.ofString "NoShape"), false, false), ((Str.ofString "NoHouse"), (Str.ofString "NoHouse"), false, true), ((Str.ofString "NoHouse"), (Str.ofString "NoNumber"), false, false), ((Str.ofString "NoHouse"), (Str.ofString "ValueError"), true, true), ((Str.ofString "NoNumber"), (Str.ofString "NoShape"), false, false), ((Str.ofString "NoNumber"), (Str.ofString "NoHouse"), false, false), ((Str.ofString "NoNumber"), (Str.ofString "NoNumber"), false, true), ((Str.ofString "NoNumber"), (Str.ofString "ValueError"), true, true)]
def EXM : List (Str × Str × Bool) := [((Str.ofString "NoShape"), (Str.ofString "ForestError"), true), ((Str.ofString "NoHouse"), (Str.ofString "ForestError"), true), ((Str.ofString "NoNumber"), (Str.ofString "ForestError"), true)]
structure Tx (w : World) (K : PySem.W.Frag) (mg : Str → Option Value) : Prop where
  f_isinstance : mg (Str.ofString "isinstance") = none
  f_int : mg (Str.ofString "int") = none
  isf : IsF K OC
  f_bool : mg (Str.ofString "bool") = none
  g_is_integer : mg (Str.ofString "is_integer") = some (.ref (ga K (Str.ofString "is_integer")))
  g_is_within : mg (Str.ofString "is_within") = some (.ref (ga K (Str.ofString "is_within")))
  f_tuple : mg (Str.ofString "tuple") = none
  f_len : mg (Str.ofString "len") = none
  x_NoNumber : ExcF K (Str.ofString "NoNumber")
  g_NoNumber : mg (Str.ofString "NoNumber") = some (.ref (ga K (Str.ofString "NoNumber")))
  f_range : mg (Str.ofString "range") = none
  i_MOST_HOUSES : ∃ t, mg (Str.ofString "MOST_HOUSES") = some (.int 64 t)
  g_is_sized : mg (Str.ofString "is_sized") = some (.ref (ga K (Str.ofString "is_sized")))
  g_is_below : mg (Str.ofString "is_below") = some (.ref (ga K (Str.ofString "is_below")))
  f_all : mg (Str.ofString "all") = none
  g_comes_to_none : mg (Str.ofString "comes_to_none") = some (.ref (ga K (Str.ofString "comes_to_none")))
  g_are_parents : mg (Str.ofString "are_parents") = some (.ref (ga K (Str.ofString "are_parents")))
  c_Forest : Cls K (ga K (Str.ofString "Forest"))
  n_Forest_parents : NoAttr K (ga K (Str.ofString "Forest")) (Str.ofString "parents")
  n_Forest_worths : NoAttr K (ga K (Str.ofString "Forest")) (Str.ofString "worths")
  x_NoHouse : ExcF K (Str.ofString "NoHouse")
  g_NoHouse : mg (Str.ofString "NoHouse") = some (.ref (ga K (Str.ofString "NoHouse")))
  i_PARTS : ∃ t, mg (Str.ofString "PARTS") = some (.int 6 t)
  i_TURNED : ∃ t, mg (Str.ofString "TURNED") = some (.int 3 t)
  g_is_place : mg (Str.ofString "is_place") = some (.ref (ga K (Str.ofString "is_place")))
  i_LEFT : ∃ t, mg (Str.ofString "LEFT") = some (.int 1 t)
  i_RIGHT : ∃ t, mg (Str.ofString "RIGHT") = some (.int 2 t)
  i_ADDED : ∃ t, mg (Str.ofString "ADDED") = some (.int 4 t)
  i_VALUE : ∃ t, mg (Str.ofString "VALUE") = some (.int 5 t)
  i_UP : ∃ t, mg (Str.ofString "UP") = some (.int 0 t)
  g_is_part : mg (Str.ofString "is_part") = some (.ref (ga K (Str.ofString "is_part")))
  g_sons_of : mg (Str.ofString "sons_of") = some (.ref (ga K (Str.ofString "sons_of")))
  g_comes_out : mg (Str.ofString "comes_out") = some (.ref (ga K (Str.ofString "comes_out")))
  g_is_right_shape : mg (Str.ofString "is_right_shape") = some (.ref (ga K (Str.ofString "is_right_shape")))
  x_NoShape : ExcF K (Str.ofString "NoShape")
  g_NoShape : mg (Str.ofString "NoShape") = some (.ref (ga K (Str.ofString "NoShape")))
  f_enumerate : mg (Str.ofString "enumerate") = none
  g_all_weights : mg (Str.ofString "all_weights") = some (.ref (ga K (Str.ofString "all_weights")))
  g_rank_of : mg (Str.ofString "rank_of") = some (.ref (ga K (Str.ofString "rank_of")))
  f_sum : mg (Str.ofString "sum") = none
  g_replaced : mg (Str.ofString "replaced") = some (.ref (ga K (Str.ofString "replaced")))
  g_with_more : mg (Str.ofString "with_more") = some (.ref (ga K (Str.ofString "with_more")))
  g_changed : mg (Str.ofString "changed") = some (.ref (ga K (Str.ofString "changed")))
  g_after_handing : mg (Str.ofString "after_handing") = some (.ref (ga K (Str.ofString "after_handing")))
  g_side_of : mg (Str.ofString "side_of") = some (.ref (ga K (Str.ofString "side_of")))
  g_is_son : mg (Str.ofString "is_son") = some (.ref (ga K (Str.ofString "is_son")))
  g_after_turn : mg (Str.ofString "after_turn") = some (.ref (ga K (Str.ofString "after_turn")))
  g_down_to : mg (Str.ofString "down_to") = some (.ref (ga K (Str.ofString "down_to")))
  g_after_step : mg (Str.ofString "after_step") = some (.ref (ga K (Str.ofString "after_step")))
  g_to_top : mg (Str.ofString "to_top") = some (.ref (ga K (Str.ofString "to_top")))
  g_met_from : mg (Str.ofString "met_from") = some (.ref (ga K (Str.ofString "met_from")))
  g_spliced : mg (Str.ofString "spliced") = some (.ref (ga K (Str.ofString "spliced")))
  g_sum_of_ranks : mg (Str.ofString "sum_of_ranks") = some (.ref (ga K (Str.ofString "sum_of_ranks")))
  g_check_shape : mg (Str.ofString "check_shape") = some (.ref (ga K (Str.ofString "check_shape")))
  g_check_house : mg (Str.ofString "check_house") = some (.ref (ga K (Str.ofString "check_house")))
  g_after_reaching : mg (Str.ofString "after_reaching") = some (.ref (ga K (Str.ofString "after_reaching")))
  i_MOST_BY_RANK : ∃ t, mg (Str.ofString "MOST_BY_RANK") = some (.int 30 t)
  i_MOST_BESIDE : ∃ t, mg (Str.ofString "MOST_BESIDE") = some (.int 7 t)
  g_check_within : mg (Str.ofString "check_within") = some (.ref (ga K (Str.ofString "check_within")))
  g_is_number : mg (Str.ofString "is_number") = some (.ref (ga K (Str.ofString "is_number")))
  i_TIMES : ∃ t, mg (Str.ofString "TIMES") = some (.int 5 t)
  g_most_of : mg (Str.ofString "most_of") = some (.ref (ga K (Str.ofString "most_of")))
  f_abs : mg (Str.ofString "abs") = none
  g__law_draw : mg (Str.ofString "_law_draw") = some (.ref (ga K (Str.ofString "_law_draw")))
  f_list : mg (Str.ofString "list") = none
  g__law_shuffled : mg (Str.ofString "_law_shuffled") = some (.ref (ga K (Str.ofString "_law_shuffled")))
  g__law_some : mg (Str.ofString "_law_some") = some (.ref (ga K (Str.ofString "_law_some")))
  g__law_planted : mg (Str.ofString "_law_planted") = some (.ref (ga K (Str.ofString "_law_planted")))
  g__law_rows_of : mg (Str.ofString "_law_rows_of") = some (.ref (ga K (Str.ofString "_law_rows_of")))
  g_ForestError : mg (Str.ofString "ForestError") = some (.ref (ga K (Str.ofString "ForestError")))
  exi : ExiF K EXI
  f_ValueError : mg (Str.ofString "ValueError") = none
  exm : ExmF K (exmOf EXM)
  g__law_is_number : mg (Str.ofString "_law_is_number") = some (.ref (ga K (Str.ofString "_law_is_number")))
  g__law_is_integer : mg (Str.ofString "_law_is_integer") = some (.ref (ga K (Str.ofString "_law_is_integer")))
  g__law_deep : mg (Str.ofString "_law_deep") = some (.ref (ga K (Str.ofString "_law_deep")))
  g__law_hand : mg (Str.ofString "_law_hand") = some (.ref (ga K (Str.ofString "_law_hand")))
  g__law_trees : mg (Str.ofString "_law_trees") = some (.ref (ga K (Str.ofString "_law_trees")))
  g__law_laid : mg (Str.ofString "_law_laid") = some (.ref (ga K (Str.ofString "_law_laid")))
  g__law_shape : mg (Str.ofString "_law_shape") = some (.ref (ga K (Str.ofString "_law_shape")))
  g_Forest : mg (Str.ofString "Forest") = some (.ref (ga K (Str.ofString "Forest")))
  m_Forest : Mk K (ga K (Str.ofString "Forest")) (He.ma K (ga K (Str.ofString "Forest")) "__init__")
  g__law_bent : mg (Str.ofString "_law_bent") = some (.ref (ga K (Str.ofString "_law_bent")))
  g__law_is_shape : mg (Str.ofString "_law_is_shape") = some (.ref (ga K (Str.ofString "_law_is_shape")))
  g_reached : mg (Str.ofString "reached") = some (.ref (ga K (Str.ofString "reached")))
  g__law_word : mg (Str.ofString "_law_word") = some (.ref (ga K (Str.ofString "_law_word")))
  g_is_paper : mg (Str.ofString "is_paper") = some (.ref (ga K (Str.ofString "is_paper")))
  g_law : mg (Str.ofString "law") = some (.ref (ga K (Str.ofString "law")))
  d_comes_to_none : ∃ fd, FunD K (Str.ofString "comes_to_none") (Str.ofString "comes_to_none") (defArgs s_comes_to_none) (defBody s_comes_to_none) (defScope s_comes_to_none) [] [] (He.fAd K ((Str.ofString "comes_to_none"), none)) fd
  d_is_integer : ∃ fd, FunD K (Str.ofString "is_integer") (Str.ofString "is_integer") (defArgs s_is_integer) (defBody s_is_integer) (defScope s_is_integer) [] [] (He.fAd K ((Str.ofString "is_integer"), none)) fd
  d_is_within : ∃ fd, FunD K (Str.ofString "is_within") (Str.ofString "is_within") (defArgs s_is_within) (defBody s_is_within) (defScope s_is_within) [] [] (He.fAd K ((Str.ofString "is_within"), none)) fd
  d_is_below : ∃ fd, FunD K (Str.ofString "is_below") (Str.ofString "is_below") (defArgs s_is_below) (defBody s_is_below) (defScope s_is_below) [] [] (He.fAd K ((Str.ofString "is_below"), none)) fd
  d_is_sized : ∃ fd, FunD K (Str.ofString "is_sized") (Str.ofString "is_sized") (defArgs s_is_sized) (defBody s_is_sized) (defScope s_is_sized) [] [] (He.fAd K ((Str.ofString "is_sized"), none)) fd
  d_are_parents : ∃ fd, FunD K (Str.ofString "are_parents") (Str.ofString "are_parents") (defArgs s_are_parents) (defBody s_are_parents) (defScope s_are_parents) [] [] (He.fAd K ((Str.ofString "are_parents"), none)) fd
  d_Forest___init__ : ∃ fd, FunD K (Str.ofString "__init__") (Str.ofString "Forest.__init__") (defArgs s_Forest___init__) (defBody s_Forest___init__) (defScope s_Forest___init__) [] [] (He.fAd K ((Str.ofString "Forest"), some (Str.ofString "__init__"))) fd
  d__law_deep : ∃ fd, FunD K (Str.ofString "_law_deep") (Str.ofString "_law_deep") (defArgs s__law_deep) (defBody s__law_deep) (defScope s__law_deep) [] [] (He.fAd K ((Str.ofString "_law_deep"), none)) fd
  d__law_draw : ∃ fd, FunD K (Str.ofString "_law_draw") (Str.ofString "_law_draw") (defArgs s__law_draw) (defBody s__law_draw) (defScope s__law_draw) [] [] (He.fAd K ((Str.ofString "_law_draw"), none)) fd
  d__law_some : ∃ fd, FunD K (Str.ofString "_law_some") (Str.ofString "_law_some") (defArgs s__law_some) (defBody s__law_some) (defScope s__law_some) [] [] (He.fAd K ((Str.ofString "_law_some"), none)) fd
  d__law_bent : ∃ fd, FunD K (Str.ofString "_law_bent") (Str.ofString "_law_bent") (defArgs s__law_bent) (defBody s__law_bent) (defScope s__law_bent) [] [] (He.fAd K ((Str.ofString "_law_bent"), none)) fd
  d__law_hand : ∃ fd, FunD K (Str.ofString "_law_hand") (Str.ofString "_law_hand") (defArgs s__law_hand) (defBody s__law_hand) (defScope s__law_hand) [] [] (He.fAd K ((Str.ofString "_law_hand"), none)) fd
  d__law_is_number : ∃ fd, FunD K (Str.ofString "_law_is_number") (Str.ofString "_law_is_number") (defArgs s__law_is_number) (defBody s__law_is_number) (defScope s__law_is_number) [] [] (He.fAd K ((Str.ofString "_law_is_number"), none)) fd
  d__law_is_integer : ∃ fd, FunD K (Str.ofString "_law_is_integer") (Str.ofString "_law_is_integer") (defArgs s__law_is_integer) (defBody s__law_is_integer) (defScope s__law_is_integer) [] [] (He.fAd K ((Str.ofString "_law_is_integer"), none)) fd
  d__law_is_shape : ∃ fd, FunD K (Str.ofString "_law_is_shape") (Str.ofString "_law_is_shape") (defArgs s__law_is_shape) (defBody s__law_is_shape) (defScope s__law_is_shape) [] [] (He.fAd K ((Str.ofString "_law_is_shape"), none)) fd
  d__law_planted : ∃ fd, FunD K (Str.ofString "_law_planted") (Str.ofString "_law_planted") (defArgs s__law_planted) (defBody s__law_planted) (defScope s__law_planted) [] [] (He.fAd K ((Str.ofString "_law_planted"), none)) fd
  d__law_shuffled : ∃ fd, FunD K (Str.ofString "_law_shuffled") (Str.ofString "_law_shuffled") (defArgs s__law_shuffled) (defBody s__law_shuffled) (defScope s__law_shuffled) [] [] (He.fAd K ((Str.ofString "_law_shuffled"), none)) fd
  d__law_rows_of : ∃ fd, FunD K (Str.ofString "_law_rows_of") (Str.ofString "_law_rows_of") (defArgs s__law_rows_of) (defBody s__law_rows_of) (defScope s__law_rows_of) [] [] (He.fAd K ((Str.ofString "_law_rows_of"), none)) fd
  d__law_laid : ∃ fd, FunD K (Str.ofString "_law_laid") (Str.ofString "_law_laid") (defArgs s__law_laid) (defBody s__law_laid) (defScope s__law_laid) [] [] (He.fAd K ((Str.ofString "_law_laid"), none)) fd
  d__law_shape : ∃ fd, FunD K (Str.ofString "_law_shape") (Str.ofString "_law_shape") (defArgs s__law_shape) (defBody s__law_shape) (defScope s__law_shape) [] [] (He.fAd K ((Str.ofString "_law_shape"), none)) fd
  d__law_trees : ∃ fd, FunD K (Str.ofString "_law_trees") (Str.ofString "_law_trees") (defArgs s__law_trees) (defBody s__law_trees) (defScope s__law_trees) [] [] (He.fAd K ((Str.ofString "_law_trees"), none)) fd
  d_check_within : ∃ fd, FunD K (Str.ofString "check_within") (Str.ofString "check_within") (defArgs s_check_within) (defBody s_check_within) (defScope s_check_within) [] [] (He.fAd K ((Str.ofString "check_within"), none)) fd
  d_is_number : ∃ fd, FunD K (Str.ofString "is_number") (Str.ofString "is_number") (defArgs s_is_number) (defBody s_is_number) (defScope s_is_number) [] [] (He.fAd K ((Str.ofString "is_number"), none)) fd
  d_rank_of : ∃ fd, FunD K (Str.ofString "rank_of") (Str.ofString "rank_of") (defArgs s_rank_of) (defBody s_rank_of) (defScope s_rank_of) [] [] (He.fAd K ((Str.ofString "rank_of"), none)) fd
  d_most_of : ∃ fd, FunD K (Str.ofString "most_of") (Str.ofString "most_of") (defArgs s_most_of) (defBody s_most_of) (defScope s_most_of) [] [] (He.fAd K ((Str.ofString "most_of"), none)) fd
  d_is_paper : ∃ fd, FunD K (Str.ofString "is_paper") (Str.ofString "is_paper") (defArgs s_is_paper) (defBody s_is_paper) (defScope s_is_paper) [] [] (He.fAd K ((Str.ofString "is_paper"), none)) fd
  d_replaced : ∃ fd, FunD K (Str.ofString "replaced") (Str.ofString "replaced") (defArgs s_replaced) (defBody s_replaced) (defScope s_replaced) [] [] (He.fAd K ((Str.ofString "replaced"), none)) fd
  d_changed : ∃ fd, FunD K (Str.ofString "changed") (Str.ofString "changed") (defArgs s_changed) (defBody s_changed) (defScope s_changed) [] [] (He.fAd K ((Str.ofString "changed"), none)) fd
  d_sons_of : ∃ fd, FunD K (Str.ofString "sons_of") (Str.ofString "sons_of") (defArgs s_sons_of) (defBody s_sons_of) (defScope s_sons_of) [] [] (He.fAd K ((Str.ofString "sons_of"), none)) fd
  d_with_more : ∃ fd, FunD K (Str.ofString "with_more") (Str.ofString "with_more") (defArgs s_with_more) (defBody s_with_more) (defScope s_with_more) [] [] (He.fAd K ((Str.ofString "with_more"), none)) fd
  d_after_handing : ∃ fd, FunD K (Str.ofString "after_handing") (Str.ofString "after_handing") (defArgs s_after_handing) (defBody s_after_handing) (defScope s_after_handing) [] [] (He.fAd K ((Str.ofString "after_handing"), none)) fd
  d_is_son : ∃ fd, FunD K (Str.ofString "is_son") (Str.ofString "is_son") (defArgs s_is_son) (defBody s_is_son) (defScope s_is_son) [] [] (He.fAd K ((Str.ofString "is_son"), none)) fd
  d_side_of : ∃ fd, FunD K (Str.ofString "side_of") (Str.ofString "side_of") (defArgs s_side_of) (defBody s_side_of) (defScope s_side_of) [] [] (He.fAd K ((Str.ofString "side_of"), none)) fd
  d_after_turn : ∃ fd, FunD K (Str.ofString "after_turn") (Str.ofString "after_turn") (defArgs s_after_turn) (defBody s_after_turn) (defScope s_after_turn) [] [] (He.fAd K ((Str.ofString "after_turn"), none)) fd
  d_after_step : ∃ fd, FunD K (Str.ofString "after_step") (Str.ofString "after_step") (defArgs s_after_step) (defBody s_after_step) (defScope s_after_step) [] [] (He.fAd K ((Str.ofString "after_step"), none)) fd
  d_down_to : ∃ fd, FunD K (Str.ofString "down_to") (Str.ofString "down_to") (defArgs s_down_to) (defBody s_down_to) (defScope s_down_to) [] [] (He.fAd K ((Str.ofString "down_to"), none)) fd
  d_to_top : ∃ fd, FunD K (Str.ofString "to_top") (Str.ofString "to_top") (defArgs s_to_top) (defBody s_to_top) (defScope s_to_top) [] [] (He.fAd K ((Str.ofString "to_top"), none)) fd
  d_met_from : ∃ fd, FunD K (Str.ofString "met_from") (Str.ofString "met_from") (defArgs s_met_from) (defBody s_met_from) (defScope s_met_from) [] [] (He.fAd K ((Str.ofString "met_from"), none)) fd
  d_spliced : ∃ fd, FunD K (Str.ofString "spliced") (Str.ofString "spliced") (defArgs s_spliced) (defBody s_spliced) (defScope s_spliced) [] [] (He.fAd K ((Str.ofString "spliced"), none)) fd
  d_all_weights : ∃ fd, FunD K (Str.ofString "all_weights") (Str.ofString "all_weights") (defArgs s_all_weights) (defBody s_all_weights) (defScope s_all_weights) [] [] (He.fAd K ((Str.ofString "all_weights"), none)) fd
  d_sum_of_ranks : ∃ fd, FunD K (Str.ofString "sum_of_ranks") (Str.ofString "sum_of_ranks") (defArgs s_sum_of_ranks) (defBody s_sum_of_ranks) (defScope s_sum_of_ranks) [] [] (He.fAd K ((Str.ofString "sum_of_ranks"), none)) fd
  d_after_reaching : ∃ fd, FunD K (Str.ofString "after_reaching") (Str.ofString "after_reaching") (defArgs s_after_reaching) (defBody s_after_reaching) (defScope s_after_reaching) [] [] (He.fAd K ((Str.ofString "after_reaching"), none)) fd
  d_check_house : ∃ fd, FunD K (Str.ofString "check_house") (Str.ofString "check_house") (defArgs s_check_house) (defBody s_check_house) (defScope s_check_house) [] [] (He.fAd K ((Str.ofString "check_house"), none)) fd
  d_comes_out : ∃ fd, FunD K (Str.ofString "comes_out") (Str.ofString "comes_out") (defArgs s_comes_out) (defBody s_comes_out) (defScope s_comes_out) [] [] (He.fAd K ((Str.ofString "comes_out"), none)) fd
  d_is_place : ∃ fd, FunD K (Str.ofString "is_place") (Str.ofString "is_place") (defArgs s_is_place) (defBody s_is_place) (defScope s_is_place) [] [] (He.fAd K ((Str.ofString "is_place"), none)) fd
  d_is_part : ∃ fd, FunD K (Str.ofString "is_part") (Str.ofString "is_part") (defArgs s_is_part) (defBody s_is_part) (defScope s_is_part) [] [] (He.fAd K ((Str.ofString "is_part"), none)) fd
  d_is_right_shape : ∃ fd, FunD K (Str.ofString "is_right_shape") (Str.ofString "is_right_shape") (defArgs s_is_right_shape) (defBody s_is_right_shape) (defScope s_is_right_shape) [] [] (He.fAd K ((Str.ofString "is_right_shape"), none)) fd
  d_check_shape : ∃ fd, FunD K (Str.ofString "check_shape") (Str.ofString "check_shape") (defArgs s_check_shape) (defBody s_check_shape) (defScope s_check_shape) [] [] (He.fAd K ((Str.ofString "check_shape"), none)) fd
  d_reached : ∃ fd, FunD K (Str.ofString "reached") (Str.ofString "reached") (defArgs s_reached) (defBody s_reached) (defScope s_reached) [] [] (He.fAd K ((Str.ofString "reached"), none)) fd
  d__law_word : ∃ fd, FunD K (Str.ofString "_law_word") (Str.ofString "_law_word") (defArgs s__law_word) (defBody s__law_word) (defScope s__law_word) [] [] (He.fAd K ((Str.ofString "_law_word"), none)) fd
  d_law : ∃ fd, FunD K (Str.ofString "law") (Str.ofString "law") (defArgs s_law) (defBody s_law) (defScope s_law) [] [] (He.fAd K ((Str.ofString "law"), none)) fd
/-! ### the plain part -/

def hnd (cs : List D) (i c s t : Int) : GO := .lst [.fl cs, .int i, .int c, .int s, .int t]
structure HOk (cs : List D) (i c : Int) : Prop where
  nums : ∀ x ∈ cs, ∃ n : Int, x = .int n
  i0 : 0 ≤ i
  c0 : 0 ≤ c
theorem snext_eq {D : Ends3} {σ : St3} {G : Gp} (h : D.nx σ G) : snext D σ G := h
theorem nof {P : Prop} (h : false = true) : P := by cases h
theorem iteT {A B : Prop} (h : A) : if true = true then A else B := h
theorem iteF {A B : Prop} (h : B) : if false = true then A else B := h
def isI : D → Bool
  | .int _ => true
  | _ => false
theorem isI_eq (x : D) : (isiD .int x && !isiD .bl x) = isI x := by cases x <;> rfl
theorem isI_of {x : D} (h : isI x = true) : ∃ i, x = .int i := by cases x <;> first | exact ⟨_, rfl⟩ | cases h
theorem isT_of {x : D} (h : isiD .tup x = true) : ∃ xs, x = .tup xs := by cases x <;> first | exact ⟨_, rfl⟩ | (simp [isiD] at h)
def wiI (a b : Int) : D → Bool
  | .int i => decide (a ≤ i) && decide (i ≤ b)
  | _ => false
def nuI : D → Bool
  | .int i => decide (0 ≤ i)
  | _ => false
def siI (a b : Int) : D → Bool
  | .tup xs => decide (a ≤ (xs.length : Int)) && decide ((xs.length : Int) ≤ b)
  | _ => false

/-! ### shapes -/
structure Row where
  u : Option Nat
  l : Option Nat
  r : Option Nat
  t : Bool
  a : Int
  v : Int
def pl : Option Nat → D
  | none => .non
  | some i => .int i
def Row.items (r : Row) : List D := [pl r.u, pl r.l, pl r.r, .bl r.t, .int r.a, .int r.v]
def Row.d (r : Row) : D := .tup r.items
def okp (n : Nat) (o : Option Nat) : Prop := ∀ i, o = some i → i < n
structure Row.ok (r : Row) (n : Nat) : Prop where
  u : okp n r.u
  l : okp n r.l
  r : okp n r.r
def Row.two (r : Row) : Prop := r.l = none ∨ r.l ≠ r.r
/-- going up from h comes to a top within k steps -/
def go (rs : List Row) : Nat → Nat → Bool
  | 0, _ => false
  | k + 1, h => match rs[h]? with
    | some r => (match r.u with
      | none => true
      | some p => go rs k p)
    | none => false
def sonIs (rs : List Row) (h : Nat) (o : Option Nat) : Prop := ∀ s, o = some s → ∃ q, rs[s]? = some q ∧ q.u = some h
structure ShpR (rs : List Row) : Prop where
  n1 : 1 ≤ rs.length
  n64 : rs.length ≤ 64
  ok : ∀ r ∈ rs, r.ok rs.length
  two : ∀ r ∈ rs, r.two
  sons : ∀ h r, rs[h]? = some r → sonIs rs h r.l ∧ sonIs rs h r.r
  go : ∀ h, h < rs.length → go rs rs.length h = true
def Shp (x : D) : Prop := ∃ rs : List Row, x = .tup (rs.map Row.d) ∧ ShpR rs
/-- a row of right form -/
def RowP (n : Nat) (x : D) : Prop := ∃ r : Row, x = r.d ∧ r.ok n
theorem pl_inj {o p : Option Nat} (h : pl o = pl p) : o = p := by
  cases o <;> cases p <;> simp [pl] at h ⊢; omega
theorem Row.d_inj {r q : Row} (h : r.d = q.d) : r = q := by
  unfold Row.d Row.items at h
  injection h with h
  injection h with h1 h; injection h with h2 h; injection h with h3 h; injection h with h4 h; injection h with h5 h; injection h with h6 h
  injection h4 with h4; injection h5 with h5; injection h6 with h6
  cases r; cases q
  simp only at h1 h2 h3 h4 h5 h6
  rw [pl_inj h1, pl_inj h2, pl_inj h3, h4, h5, h6]
theorem rows_inj : ∀ {rs qs : List Row}, rs.map Row.d = qs.map Row.d → rs = qs
  | [], [], _ => rfl
  | [], _ :: _, h => by simp at h
  | _ :: _, [], h => by simp at h
  | r :: rs, q :: qs, h => by
    simp only [List.map_cons, List.cons.injEq] at h
    rw [Row.d_inj h.1, rows_inj h.2]
theorem shp_rows {rs : List Row} : Shp (.tup (rs.map Row.d)) ↔ ShpR rs := by
  constructor
  · rintro ⟨qs, e, h⟩
    injection e with e
    rw [rows_inj e]; exact h
  · exact fun h => ⟨rs, rfl, h⟩
theorem rows_all : ∀ {n : Nat} {xs : List D}, (∀ x ∈ xs, RowP n x) → ∃ rs : List Row, xs = rs.map Row.d ∧ ∀ r ∈ rs, r.ok n
  | _, [], _ => ⟨[], rfl, by simp⟩
  | n, x :: xs, h => by
    obtain ⟨r, e, ok⟩ := h x (by simp)
    obtain ⟨rs, e2, ok2⟩ := rows_all (n := n) (xs := xs) fun y hy => h y (by simp [hy])
    refine ⟨r :: rs, by rw [e, e2]; rfl, fun q hq => ?_⟩
    rcases List.mem_cons.mp hq with rfl | hq
    · exact ok
    · exact ok2 q hq
/-- what is judged: each thing, its parts, their parts can be asked for their kinds -/
def wkr : D → Bool
  | .tup xs => xs.all (kn OC)
  | x => kn OC x
def wks : D → Bool
  | .tup xs => xs.all wkr
  | x => kn OC x
theorem wkr_kn {x : D} (h : wkr x = true) : kn OC x = true := by cases x <;> first | rfl | exact h
theorem wks_kn {x : D} (h : wks x = true) : kn OC x = true := by cases x <;> first | rfl | exact h
/-- a place: None, or a number below n -/
def plB (n : Int) : D → Bool
  | .non => true
  | x => wiI 0 (n - 1) x
theorem plB_ok {n : Nat} {x : D} : plB n x = true ↔ ∃ o, x = pl o ∧ okp n o := by
  constructor
  · intro h
    cases x with
    | non => exact ⟨none, rfl, fun i e => by cases e⟩
    | int i =>
      have h : (decide (0 ≤ i) && decide (i ≤ (n : Int) - 1)) = true := h
      rw [Bool.and_eq_true, decide_eq_true_eq, decide_eq_true_eq] at h
      refine ⟨some i.toNat, ?_, fun j e => ?_⟩
      · show D.int i = D.int (i.toNat : Int)
        rw [Int.toNat_of_nonneg h.1]
      · cases e; omega
    | _ => cases h
  · rintro ⟨o, rfl, h⟩
    cases o with
    | none => rfl
    | some i =>
      have := h i rfl
      show (decide ((0 : Int) ≤ (i : Int)) && decide ((i : Int) ≤ (n : Int) - 1)) = true
      rw [Bool.and_eq_true, decide_eq_true_eq, decide_eq_true_eq]; omega
def lenD : D → Nat
  | .tup xs => xs.length
  | _ => 0
theorem siI_of {a b : Int} {x : D} (h : siI a b x = true) : ∃ xs, x = .tup xs ∧ a ≤ xs.length ∧ (xs.length : Int) ≤ b := by
  cases x with
  | tup xs =>
    have h : (decide (a ≤ (xs.length : Int)) && decide ((xs.length : Int) ≤ b)) = true := h
    rw [Bool.and_eq_true, decide_eq_true_eq, decide_eq_true_eq] at h
    exact ⟨xs, rfl, h.1, h.2⟩
  | _ => cases h
theorem siI_tup {a b : Int} {xs : List D} : siI a b (.tup xs) = true ↔ a ≤ xs.length ∧ (xs.length : Int) ≤ b := by
  show (decide (a ≤ (xs.length : Int)) && decide ((xs.length : Int) ≤ b)) = true ↔ _
  rw [Bool.and_eq_true, decide_eq_true_eq, decide_eq_true_eq]
theorem six {xs : List D} (h : xs.length = 6) : ∃ a b c d e f, xs = [a, b, c, d, e, f] := by
  match xs, h with
  | [a, b, c, d, e, f], _ => exact ⟨a, b, c, d, e, f, rfl⟩
theorem at_row {rs : List Row} {h : Nat} {r : Row} (e : rs[h]? = some r) : atI (rs.map Row.d) (h : Int) = some r.d := at_get (by omega) (by simp [e])
theorem pl_eqD {o p : Option Nat} : eqD (pl o) (pl p) = true ↔ o = p := by
  cases o <;> cases p <;> simp [pl, eqD]
  omega
theorem pl_eqOk {o p : Option Nat} : eqOk (pl o) (pl p) = true := by cases o <;> cases p <;> rfl
theorem pl_isN {o : Option Nat} : isN (pl o) = true ↔ o = none := by cases o <;> simp [pl, isN]
def sonsL (r : Row) : List D := [pl r.l, pl r.r].filterMap fun x => if isN x then none else some x
theorem sonsL_mem {r : Row} {x : D} (h : x ∈ sonsL r) : ∃ s : Nat, x = .int s ∧ (r.l = some s ∨ r.r = some s) := by
  unfold sonsL at h
  cases hl : r.l <;> cases hr : r.r <;> simp [hl, hr, pl, isN] at h
  · exact ⟨_, h, .inr rfl⟩
  · exact ⟨_, h, .inl rfl⟩
  · rcases h with h | h
    · exact ⟨_, h, .inl rfl⟩
    · exact ⟨_, h, .inr rfl⟩
theorem sonsL_in {r : Row} {s : Nat} (h : r.l = some s ∨ r.r = some s) : D.int s ∈ sonsL r := by
  unfold sonsL
  rcases h with h | h <;> simp [h, pl, isN]

/-- where one stands after k steps up -/
def walk (rs : List Row) : Nat → Option Nat → Option Nat
  | 0, o => o
  | _ + 1, none => none
  | k + 1, some h => match rs[h]? with
    | some r => walk rs k r.u
    | none => some h
theorem walk_none (rs : List Row) : ∀ k, walk rs k none = none
  | 0 => rfl
  | _ + 1 => rfl
theorem go_walk {rs : List Row} (ok : ∀ r ∈ rs, r.ok rs.length) : ∀ (k h : Nat), h < rs.length → (go rs k h = true ↔ walk rs k (some h) = none)
  | 0, h, _ => by simp [go, walk]
  | k + 1, h, hl => by
    obtain ⟨r, er⟩ : ∃ r, rs[h]? = some r := ⟨rs[h], by simp [hl]⟩
    unfold go walk
    rw [er]
    cases hu : r.u with
    | none => simp [walk_none, hu]
    | some p => simpa [hu] using go_walk ok k p ((ok r (List.mem_of_getElem? er)).u p hu)

/-! ### rows as lists that are written -/
def upf (f : Nat → Row) (w : Nat) (r : Row) : Nat → Row := fun q => if q = w then r else f q
theorem upf_same {f : Nat → Row} {w : Nat} {r : Row} : upf f w r w = r := if_pos rfl
theorem upf_fld {α : Type} (g : Row → α) {f : Nat → Row} {w : Nat} {r : Row} (e : g r = g (f w)) (q : Nat) : g (upf f w r q) = g (f q) := by
  unfold upf
  by_cases h : q = w
  · rw [if_pos h, e, h]
  · rw [if_neg h]
theorem upf_ne {f : Nat → Row} {w q : Nat} {r : Row} (h : q ≠ w) : upf f w r q = f q := if_neg h
structure RA (G0 : Gp) (h : Addr) (m : Nat) (ad : Nat → Addr) (f : Nat → Row) (cs : List D) (i c s t : Int) (G : Gp) : Prop where
  ok : HOk cs i c
  hh : G h = some (hnd cs i c s t)
  rows : ∀ q, q < m → G (ad q) = some (.lst (f q).items)
  inj : ∀ q p, q < m → p < m → ad q = ad p → q = p
  nh : ∀ q, q < m → ad q ≠ h
  fresh : ∀ q, q < m → G0 (ad q) = none
  keep : ∀ b o, b ≠ h → G0 b = some o → G b = some o
section
variable {G0 G : Gp} {h : Addr} {m : Nat} {ad : Nat → Addr} {f : Nat → Row} {cs : List D} {i c s t i' c' s' t' : Int}
theorem RA.draw (R : RA G0 h m ad f cs i c s t G) (ok : HOk cs i' c') : RA G0 h m ad f cs i' c' s' t' (up G h (hnd cs i' c' s' t')) :=
  ⟨ok, up_same, fun q hq => by rw [up_ne (R.nh q hq)]; exact R.rows q hq, R.inj, R.nh, R.fresh, fun b o hb e => by rw [up_ne hb]; exact R.keep b o hb e⟩
theorem RA.row (R : RA G0 h m ad f cs i c s t G) {w : Nat} (hw : w < m) (r : Row) : RA G0 h m ad (upf f w r) cs i c s t (up G (ad w) (.lst r.items)) :=
  ⟨R.ok, by rw [up_ne (Ne.symm (R.nh w hw))]; exact R.hh, fun q hq => by
    by_cases e : q = w
    · subst e; rw [up_same, upf_same]
    · rw [up_ne (fun z => e (R.inj q w hq hw z)), upf_ne e]; exact R.rows q hq, R.inj, R.nh, R.fresh, fun b o hb e => by
    rw [up_ne (fun z => by rw [z, R.fresh w hw] at e; cases e)]; exact R.keep b o hb e⟩
theorem RA.sub (R : RA G0 h m ad f cs i c s t G) : L3.Sub (up G0 h (hnd cs i c s t)) G := fun b o e => by
  by_cases hb : b = h
  · subst hb; rw [up_same] at e; rw [R.hh]; exact e
  · rw [up_ne hb] at e; exact R.keep b o hb e
end
theorem RA.new {G0 G : Gp} {h : Addr} {m : Nat} {ad : Nat → Addr} {f : Nat → Row} {cs : List D} {i c s t : Int} (R : RA G0 h m ad f cs i c s t G) {q : Addr} (nq : G q = none) (r : Row) : RA G0 h (m + 1) (fun j => if j = m then q else ad j) (upf f m r) cs i c s t (up G q (.lst r.items)) := by
  have qh : q ≠ h := ne_new R.hh nq
  have old : ∀ j, j < m → (if j = m then q else ad j) = ad j := fun j hj => if_neg (by omega)
  have neq : ∀ j, j < m → ad j ≠ q := fun j hj z => by have := R.rows j hj; rw [z, nq] at this; cases this
  refine ⟨R.ok, by rw [up_ne (Ne.symm qh)]; exact R.hh, fun j hj => ?_, fun a b ha hb e => ?_, fun j hj => ?_, fun j hj => ?_, fun b o hb e => ?_⟩
  · by_cases e : j = m
    · subst e; simp only [if_true]; rw [up_same, upf_same]
    · have hj : j < m := by omega
      simp only [old j hj]
      rw [up_ne (neq j hj), upf_ne e]; exact R.rows j hj
  · by_cases ea : a = m
    · by_cases eb : b = m
      · omega
      · simp only [ea, if_true, old b (by omega)] at e
        exact absurd e.symm (neq b (by omega))
    · by_cases eb : b = m
      · simp only [eb, if_true, old a (by omega)] at e
        exact absurd e (neq a (by omega))
      · simp only [old a (by omega), old b (by omega)] at e
        exact R.inj a b (by omega) (by omega) e
  · by_cases e : j = m
    · simp only [e, if_true]; exact qh
    · simp only [old j (by omega)]; exact R.nh j (by omega)
  · by_cases e : j = m
    · simp only [e, if_true]
      cases z : G0 q with
      | none => rfl
      | some o => have := R.keep q o qh z; rw [nq] at this; cases this
    · simp only [old j (by omega)]; exact R.fresh j (by omega)
  · rw [up_ne (fun z => by
      rw [z] at e
      have := R.keep q o qh e; rw [nq] at this; cases this)]
    exact R.keep b o hb e
/-- the shape while it grows: o the order, k how many are placed -/
structure Grow (m : Nat) (o : Nat → Nat) (k : Nat) (f : Nat → Row) : Prop where
  a : ∀ i, k ≤ i → i < m → (f (o i)).u = none ∧ (f (o i)).l = none ∧ (f (o i)).r = none
  b : ∀ i, i < k → (f (o i)).u = none ∨ ∃ j, j < i ∧ (f (o i)).u = some (o j)
  c : ∀ q s, q < m → (f q).l = some s ∨ (f q).r = some s → ∃ i, i < k ∧ s = o i ∧ (f s).u = some q
  d : ∀ q, q < m → (f q).two
structure Ord (m : Nat) (o : Nat → Nat) : Prop where
  lt : ∀ i, i < m → o i < m
  inj : ∀ i j, i < m → j < m → o i = o j → i = j
  sur : ∀ q, q < m → ∃ i, i < m ∧ o i = q
theorem Grow.same {m k : Nat} {o : Nat → Nat} {f : Nat → Row} (O : Ord m o) (g : Grow m o k f) (hk : k < m) (r : Row) (e1 : r.u = (f (o k)).u) (e2 : r.l = (f (o k)).l) (e3 : r.r = (f (o k)).r) : Grow m o k (upf f (o k) r) := by
  have U : ∀ q, (upf f (o k) r q).u = (f q).u := upf_fld Row.u e1
  have L : ∀ q, (upf f (o k) r q).l = (f q).l := upf_fld Row.l e2
  have R : ∀ q, (upf f (o k) r q).r = (f q).r := upf_fld Row.r e3
  exact ⟨fun i a b => by rw [U, L, R]; exact g.a i a b, fun i a => by rw [U]; exact g.b i a, fun q s a b => by
    rw [L, R] at b
    obtain ⟨i, h1, h2, h3⟩ := g.c q s a b
    exact ⟨i, h1, h2, by rw [U]; exact h3⟩, fun q a => by unfold Row.two; rw [L, R]; exact g.d q a⟩
theorem Grow.next {m k : Nat} {o : Nat → Nat} {f : Nat → Row} (g : Grow m o k f) (hk : k < m) : Grow m o (k + 1) f :=
  ⟨fun i a b => g.a i (by omega) b, fun i a => by
    by_cases e : i = k
    · subst e; exact .inl (g.a i (Nat.le_refl _) hk).1
    · exact g.b i (by omega), fun q s a b => by
    obtain ⟨i, h1, h2, h3⟩ := g.c q s a b
    exact ⟨i, by omega, h2, h3⟩, g.d⟩
/-- the house o k gets o j as its up -/
theorem Grow.up {m k j : Nat} {o : Nat → Nat} {f : Nat → Row} (O : Ord m o) (g : Grow m o k f) (hk : k < m) (hj : j < k) : Grow m o (k + 1) (upf f (o k) { f (o k) with u := some (o j) }) := by
  have L : ∀ q, (upf f (o k) { f (o k) with u := some (o j) } q).l = (f q).l := upf_fld Row.l rfl
  have R : ∀ q, (upf f (o k) { f (o k) with u := some (o j) } q).r = (f q).r := upf_fld Row.r rfl
  have ne : ∀ i, i < m → i ≠ k → o i ≠ o k := fun i hi h e => h (O.inj i k hi hk e)
  refine ⟨fun i a b => ?_, fun i a => ?_, fun q s a b => ?_, fun q a => by unfold Row.two; rw [L, R]; exact g.d q a⟩
  · rw [L, R, upf_ne (ne i b (by omega))]; exact g.a i (by omega) b
  · by_cases e : i = k
    · subst e
      rw [upf_same]; exact .inr ⟨j, hj, rfl⟩
    · rw [upf_ne (ne i (by omega) e)]; exact g.b i (by omega)
  · rw [L, R] at b
    obtain ⟨i, h1, h2, h3⟩ := g.c q s a b
    subst h2
    exact ⟨i, by omega, rfl, by rw [upf_ne (ne i (by omega) (by omega))]; exact h3⟩
/-- .. and is o j's son -/
theorem Grow.son {m k j : Nat} {o : Nat → Nat} {f : Nat → Row} (O : Ord m o) (g : Grow m o (k + 1) f) (hk : k < m) (hj : j < k) (hu : (f (o k)).u = some (o j)) (hn : ∀ q, q < m → (f q).l ≠ some (o k) ∧ (f q).r ≠ some (o k)) (r : Row)
    (e : r.u = (f (o j)).u ∧ ((r.l = some (o k) ∧ r.r = (f (o j)).r) ∨ (r.r = some (o k) ∧ r.l = (f (o j)).l))) : Grow m o (k + 1) (upf f (o j) r) := by
  have U : ∀ q, (upf f (o j) r q).u = (f q).u := upf_fld Row.u e.1
  have ne : ∀ i, i < m → i ≠ j → o i ≠ o j := fun i hi h e => h (O.inj i j hi (by omega) e)
  refine ⟨fun i a b => ?_, fun i a => by rw [U]; exact g.b i a, fun q s a b => ?_, fun q a => ?_⟩
  · rw [upf_ne (ne i b (by omega))]; exact g.a i a b
  · rw [U]
    by_cases z : q = o j
    · subst z
      rw [upf_same] at b
      have old : (f (o j)).l = some s ∨ (f (o j)).r = some s → ∃ i, i < k + 1 ∧ s = o i ∧ (f s).u = some (o j) := g.c _ _ a
      have new : some (o k) = some s → ∃ i, i < k + 1 ∧ s = o i ∧ (f s).u = some (o j) := fun z => by
        injection z with z
        subst z
        exact ⟨k, by omega, rfl, hu⟩
      rcases e.2 with ⟨e1, e2⟩ | ⟨e1, e2⟩
      · rw [e1, e2] at b
        rcases b with b | b
        · exact new b
        · exact old (.inr b)
      · rw [e1, e2] at b
        rcases b with b | b
        · exact old (.inl b)
        · exact new b
    · rw [upf_ne z] at b
      exact g.c q s a b
  · by_cases z : q = o j
    · subst z
      rw [upf_same]
      unfold Row.two
      rcases e.2 with ⟨e1, e2⟩ | ⟨e1, e2⟩
      · right; rw [e1, e2]; exact fun z => (hn _ a).2 z.symm
      · by_cases y : r.l = none
        · exact .inl y
        · right; rw [e1, e2]; exact fun z => (hn _ a).1 z
    · rw [upf_ne z]; exact g.d q a
theorem grow_new {m k : Nat} {o : Nat → Nat} {f : Nat → Row} (O : Ord m o) (g : Grow m o k f) (hk : k < m) : ∀ q, q < m → (f q).l ≠ some (o k) ∧ (f q).r ≠ some (o k) := fun q hq => by
  constructor <;> intro e
  · obtain ⟨i, h1, h2, _⟩ := g.c q _ hq (.inl e)
    have := O.inj k i hk (by omega) h2; omega
  · obtain ⟨i, h1, h2, _⟩ := g.c q _ hq (.inr e)
    have := O.inj k i hk (by omega) h2; omega
theorem Grow.shape {m : Nat} {o : Nat → Nat} {f : Nat → Row} (O : Ord m o) (m1 : 1 ≤ m) (m2 : m ≤ 64) (g : Grow m o m f) : ShpR ((List.range m).map f) := by
  have get : ∀ {h : Nat} {r : Row}, ((List.range m).map f)[h]? = some r → h < m ∧ r = f h := fun {h r} e => by
    rw [List.getElem?_map] at e
    cases z : (List.range m)[h]? with
    | none => rw [z] at e; cases e
    | some a =>
      rw [z] at e
      obtain ⟨h1, h2⟩ := List.getElem?_eq_some_iff.mp z
      have : a = h := by simpa using h2.symm
      subst this
      cases e
      exact ⟨by simpa using h1, rfl⟩
  have at_ : ∀ {h : Nat}, h < m → ((List.range m).map f)[h]? = some (f h) := fun {h} hh => by simp [hh]
  have lt : ∀ i, i < m → o i < m := O.lt
  have son : ∀ q s, q < m → (f q).l = some s ∨ (f q).r = some s → s < m ∧ (f s).u = some q := fun q s hq e => by
    obtain ⟨i, h1, h2, h3⟩ := g.c q s hq e
    subst h2
    exact ⟨lt i h1, h3⟩
  have len : ((List.range m).map f).length = m := by simp
  have okr : ∀ r ∈ (List.range m).map f, r.ok m := fun r hr => by
    obtain ⟨q, hq, rfl⟩ := List.mem_map.mp hr
    have hq : q < m := List.mem_range.mp hq
    refine ⟨fun p e => ?_, fun p e => (son q p hq (.inl e)).1, fun p e => (son q p hq (.inr e)).1⟩
    obtain ⟨i, hi, rfl⟩ := O.sur q hq
    rcases g.b i hi with z | ⟨j, hj, z⟩
    · rw [z] at e; cases e
    · rw [z] at e; cases e; exact lt j (by omega)
  refine ⟨by rw [len]; exact m1, by rw [len]; exact m2, by rw [len]; exact okr, fun r hr => ?_, fun h r e => ?_, fun h hh => ?_⟩
  · obtain ⟨q, hq, rfl⟩ := List.mem_map.mp hr
    exact g.d q (List.mem_range.mp hq)
  · obtain ⟨h1, rfl⟩ := get e
    exact ⟨fun s e => ⟨f s, at_ (son h s h1 (.inl e)).1, (son h s h1 (.inl e)).2⟩, fun s e => ⟨f s, at_ (son h s h1 (.inr e)).1, (son h s h1 (.inr e)).2⟩⟩
  · rw [len] at hh ⊢
    have key : ∀ (i k : Nat), i < k → i < m → go ((List.range m).map f) k (o i) = true := by
      intro i
      induction i using Nat.strongRecOn with
      | ind i ih =>
        intro k hk hi
        obtain ⟨k, rfl⟩ : ∃ k', k = k' + 1 := ⟨k - 1, by omega⟩
        unfold go
        rw [at_ (lt i hi)]
        rcases g.b i hi with z | ⟨j, hj, z⟩
        · simp only [z]
        · simp only [z]
          exact ih j hj k (by omega) (by omega)
    obtain ⟨i, hi, rfl⟩ := O.sur h hh
    exact key i m hi hi
theorem ord_of {m : Nat} {l : List Nat} (p : l.Perm (List.range m)) : Ord m (fun i => l.getD i 0) := by
  have len : l.length = m := by simpa using p.length_eq
  have nd : l.Nodup := p.nodup_iff.mpr List.nodup_range
  have g : ∀ i (h : i < m), l.getD i 0 = l[i]'(by omega) := fun i h => by simp [List.getD, len, h]
  refine ⟨fun i hi => ?_, fun i j hi hj e => ?_, fun q hq => ?_⟩
  · simp only [g i hi]
    exact List.mem_range.mp (p.mem_iff.mp (List.getElem_mem _))
  · simp only [g i hi, g j hj] at e
    have pw := List.pairwise_iff_getElem.mp nd
    rcases Nat.lt_trichotomy i j with h | h | h
    · exact absurd e (pw i j (by omega) (by omega) h)
    · exact h
    · exact absurd e.symm (pw j i (by omega) (by omega) h)
  · obtain ⟨i, hi, e⟩ := List.mem_iff_getElem.mp (p.mem_iff.mpr (List.mem_range.mpr hq))
    exact ⟨i, by omega, by simp only [g i (by omega)]; exact e⟩

/-! ### forests -/
theorem kp (o : Option Nat) : kn OC (pl o) = true := by cases o <;> rfl
def pD (ps : List (Option Nat)) : D := .tup (ps.map pl)
def wD (ws : List Int) : D := .tup (ws.map D.int)
/-- going up from h comes to a root within k looks -/
def goP (ps : List (Option Nat)) : Nat → Nat → Bool
  | 0, _ => false
  | k + 1, h => match ps[h]? with
    | some (some p) => goP ps k p
    | some none => true
    | none => false
theorem goP_succ {ps : List (Option Nat)} {k h : Nat} {o : Option Nat} (e : ps[h]? = some o) : goP ps (k + 1) h = o.elim true (goP ps k) := by
  cases o <;> simp [goP, e]
structure ParR (ps : List (Option Nat)) : Prop where
  n1 : 1 ≤ ps.length
  n64 : ps.length ≤ 64
  ok : ∀ o ∈ ps, okp ps.length o
  go : ∀ h, h < ps.length → goP ps ps.length h = true
def ParP (x : D) : Prop := ∃ ps, x = pD ps ∧ ParR ps
def WorP (n : Nat) (y : D) : Prop := ∃ ws : List Int, y = wD ws ∧ ws.length = n
theorem pls_inj : ∀ {ps qs : List (Option Nat)}, ps.map pl = qs.map pl → ps = qs
  | [], [], _ => rfl
  | [], _ :: _, h => by simp at h
  | _ :: _, [], h => by simp at h
  | r :: rs, q :: qs, h => by
    simp only [List.map_cons, List.cons.injEq] at h
    rw [pl_inj h.1, pls_inj h.2]
theorem par_pls {ps : List (Option Nat)} : ParP (.tup (ps.map pl)) ↔ ParR ps := by
  constructor
  · rintro ⟨qs, e, h⟩
    injection e with e
    rw [pls_inj e]; exact h
  · exact fun h => ⟨ps, rfl, h⟩
theorem pls_all : ∀ {n : Nat} {xs : List D}, (∀ x ∈ xs, plB n x = true) → ∃ ps : List (Option Nat), xs = ps.map pl ∧ ∀ o ∈ ps, okp n o
  | _, [], _ => ⟨[], rfl, by simp⟩
  | n, x :: xs, h => by
    obtain ⟨o, e, ok⟩ := plB_ok.mp (h x (by simp))
    obtain ⟨ps, e2, ok2⟩ := pls_all (n := n) (xs := xs) fun y hy => h y (by simp [hy])
    refine ⟨o :: ps, by rw [e, e2]; rfl, fun q hq => ?_⟩
    rcases List.mem_cons.mp hq with rfl | hq
    · exact ok
    · exact ok2 q hq
theorem ints_all : ∀ {xs : List D}, (∀ x ∈ xs, isI x = true) → ∃ ws : List Int, xs = ws.map D.int
  | [], _ => ⟨[], rfl⟩
  | x :: xs, h => by
    obtain ⟨i, e⟩ := isI_of (h x (by simp))
    obtain ⟨ws, e2⟩ := ints_all (xs := xs) fun y hy => h y (by simp [hy])
    exact ⟨i :: ws, by rw [e, e2]; rfl⟩
theorem wors_inj : ∀ {ps qs : List Int}, ps.map D.int = qs.map D.int → ps = qs
  | [], [], _ => rfl
  | [], _ :: _, h => by simp at h
  | _ :: _, [], h => by simp at h
  | r :: rs, q :: qs, h => by
    simp only [List.map_cons, List.cons.injEq, D.int.injEq] at h
    rw [h.1, wors_inj h.2]
theorem at_pl {ps : List (Option Nat)} {h : Nat} {o : Option Nat} (e : ps[h]? = some o) : atI (ps.map pl) (h : Int) = some (pl o) := at_get (by omega) (by simp [e])
theorem eqD_pls : ∀ (ps qs : List (Option Nat)), eqL (ps.map pl) (qs.map pl) = decide (ps = qs)
  | [], [] => rfl
  | [], _ :: _ => rfl
  | _ :: _, [] => rfl
  | r :: rs, q :: qs => by
    have e : eqD (pl r) (pl q) = decide (r = q) := by
      cases r <;> cases q <;> simp [pl, eqD]
      rw [Bool.eq_iff_iff]; simp; omega
    simp only [List.map_cons, eqL, e, eqD_pls rs qs]
    rw [Bool.eq_iff_iff]; simp
theorem eqD_ws : ∀ (ps qs : List Int), eqL (ps.map D.int) (qs.map D.int) = decide (ps = qs)
  | [], [] => rfl
  | [], _ :: _ => rfl
  | _ :: _, [] => rfl
  | r :: rs, q :: qs => by
    simp only [List.map_cons, eqL, eqD, eqD_ws rs qs]
    rw [Bool.eq_iff_iff]; simp
theorem shL_all : ∀ {n : Nat} {xs : List D}, (∀ x ∈ xs, sh n x = true) → shL n xs = true
  | _, [], _ => rfl
  | n, x :: xs, h => by
    have h1 := h x (by simp)
    have h2 := shL_all (n := n) (xs := xs) fun y hy => h y (by simp [hy])
    simp [shL, h1, h2]
theorem sh_pl (n : Nat) (ps : List (Option Nat)) : shL n (ps.map pl) = true := shL_all fun x hx => by
  obtain ⟨o, _, rfl⟩ := List.mem_map.mp hx
  cases o <;> cases n <;> rfl
theorem sh_ws (n : Nat) (ws : List Int) : shL n (ws.map D.int) = true := shL_all fun x hx => by
  obtain ⟨o, _, rfl⟩ := List.mem_map.mp hx
  cases n <;> rfl
theorem sh_pair (ps : List (Option Nat)) (ws : List Int) : sh 64 (.tup [pD ps, wD ws]) = true := by
  simp [sh, shL, pD, wD, sh_pl, sh_ws]
theorem eq_pair (ps qs : List (Option Nat)) (ws vs : List Int) : eqD (.tup [pD ps, wD ws]) (.tup [pD qs, wD vs]) = decide (ps = qs ∧ ws = vs) := by
  simp only [eqD, eqL, pD, wD, eqD_pls, eqD_ws]
  rw [Bool.eq_iff_iff]; simp
/-- a forest object -/
def fo (ps : List (Option Nat)) (ws : List Int) : D := .ob (Str.ofString "Forest") [Str.ofString "parents", Str.ofString "worths"] [pD ps, wD ws]
theorem oc : OC.contains (Str.ofString "Forest") = true := by decide +kernel
theorem nep : ¬ ((Str.ofString "worths") = (Str.ofString "parents")) := by decide +kernel
theorem bp : ((Str.ofString "worths") == (Str.ofString "parents")) = false := by decide +kernel
theorem bp2 : ((Str.ofString "parents") == (Str.ofString "parents")) = true := by decide +kernel
theorem bp3 : ((Str.ofString "worths") == (Str.ofString "worths")) = true := by decide +kernel
theorem fo_p {G : Gp} {ps ws} : fldD (Str.ofString "Forest") (Str.ofString "parents") G (fo ps ws) = some (pD ps) := by
  unfold fldD fo; simp [List.lookup_cons]
theorem fo_w {G : Gp} {ps ws} : fldD (Str.ofString "Forest") (Str.ofString "worths") G (fo ps ws) = some (wD ws) := by
  unfold fldD fo; simp [List.lookup_cons, bp]

/-- plain data, at most n deep -/
def pln : Nat → D → Bool
  | 0, _ => false
  | _ + 1, .non => true
  | _ + 1, .bl _ => true
  | _ + 1, .int _ => true
  | _ + 1, .str _ => true
  | n + 1, .tup xs => xs.all (pln n)
  | _ + 1, _ => false

/-! ### going up, as the law goes -/
def upP (ps : List (Option Nat)) : Nat → Nat → List Nat
  | 0, h => [h]
  | k + 1, h => h :: (match ps[h]? with
    | some (some p) => upP ps k p
    | _ => [])
def stepP (ps : List (Option Nat)) (h : Nat) : Option Nat := match ps[h]? with
  | some o => o
  | none => none
/-- where one stands at the end -/
def topP (ps : List (Option Nat)) : Nat → Nat → Nat
  | 0, h => h
  | k + 1, h => match stepP ps h with
    | some p => topP ps k p
    | none => h
theorem upP_ne (ps : List (Option Nat)) : ∀ k h, upP ps k h ≠ []
  | 0, _ => by simp [upP]
  | _ + 1, _ => by simp [upP]
theorem upP_in (ps : List (Option Nat)) : ∀ k h, h ∈ upP ps k h
  | 0, _ => by simp [upP]
  | _ + 1, _ => by simp [upP]
theorem upP_len (ps : List (Option Nat)) : ∀ k h, (upP ps k h).length ≤ k + 1
  | 0, _ => by simp [upP]
  | k + 1, h => by
    unfold upP
    cases e : ps[h]? with
    | none => simp
    | some o =>
      cases o with
      | none => simp
      | some p => have := upP_len ps k p; simp; omega
theorem upP_top (ps : List (Option Nat)) : ∀ k h, (upP ps k h).getLast? = some (topP ps k h)
  | 0, _ => by simp [upP, topP]
  | k + 1, h => by
    unfold upP topP stepP
    cases e : ps[h]? with
    | none => simp
    | some o =>
      cases o with
      | none => simp
      | some p =>
        have := upP_top ps k p
        simp only [List.getLast?_cons, this]
        simp
theorem topP_lt {ps : List (Option Nat)} (ok : ∀ o ∈ ps, okp ps.length o) : ∀ k h, h < ps.length → topP ps k h < ps.length
  | 0, _, hl => hl
  | k + 1, h, hl => by
    unfold topP stepP
    have e : ps[h]? = some ps[h] := by simp [hl]
    rw [e]
    cases z : ps[h] with
    | none => exact hl
    | some p => exact topP_lt ok k p (ok ps[h] (by simp) p z)
/-- pigeons -/
theorem pigeon : ∀ (n : Nat) (f : Nat → Nat), (∀ i, i ≤ n → f i < n) → ∃ i j, i < j ∧ j ≤ n ∧ f i = f j
  | 0, f, h => absurd (h 0 (Nat.le_refl 0)) (by omega)
  | n + 1, f, h => by
    by_cases e : ∃ i, i < n + 1 ∧ f i = f (n + 1)
    · obtain ⟨i, h1, h2⟩ := e
      exact ⟨i, n + 1, h1, Nat.le_refl _, h2⟩
    · have e : ∀ i, i < n + 1 → f i ≠ f (n + 1) := fun i hi z => e ⟨i, hi, z⟩
      obtain ⟨i, j, h1, h2, h3⟩ := pigeon n (fun i => if f i = n then f (n + 1) else f i) fun i hi => by
        by_cases z : f i = n
        · simp only [z, if_true]
          have := h (n + 1) (Nat.le_refl _)
          have := e i (by omega)
          omega
        · simp only [z, if_false]
          have := h i (by omega)
          omega
      refine ⟨i, j, h1, by omega, ?_⟩
      by_cases zi : f i = n
      · by_cases zj : f j = n
        · rw [zi, zj]
        · simp only [zi, zj, if_true, if_false] at h3
          exact absurd h3.symm (e j (by omega))
      · by_cases zj : f j = n
        · simp only [zi, zj, if_true, if_false] at h3
          exact absurd h3 (e i (by omega))
        · simp only [zi, zj, if_false] at h3
          exact h3
/-- the k-th house on the way up, if one never comes to a root -/
def itP (ps : List (Option Nat)) (h : Nat) : Nat → Nat
  | 0 => h
  | k + 1 => (stepP ps (itP ps h k)).getD 0
theorem itP_shift (ps : List (Option Nat)) (h : Nat) : ∀ k p, stepP ps h = some p → itP ps h (k + 1) = itP ps p k
  | 0, p, e => by simp [itP, e]
  | k + 1, p, e => by
    show (stepP ps (itP ps h (k + 1))).getD 0 = (stepP ps (itP ps p k)).getD 0
    rw [itP_shift ps h k p e]
theorem goP_it {ps : List (Option Nat)} (ok : ∀ o ∈ ps, okp ps.length o) : ∀ k h, h < ps.length → goP ps k h = false → (∀ i, i < k → (stepP ps (itP ps h i)).isSome = true) ∧ topP ps k h = itP ps h k ∧ ∀ i, i ≤ k → itP ps h i < ps.length
  | 0, h, hl, _ => ⟨fun i hi => by omega, rfl, fun i hi => by
    have : i = 0 := by omega
    subst this; exact hl⟩
  | k + 1, h, hl, g => by
    have e : ps[h]? = some ps[h] := by simp [hl]
    rw [goP_succ e] at g
    cases z : ps[h] with
    | none => rw [z] at g; cases g
    | some p =>
      rw [z] at g
      have st : stepP ps h = some p := by unfold stepP; rw [e, z]
      obtain ⟨h1, h2, h3⟩ := goP_it ok k p (ok ps[h] (by simp) p z) g
      refine ⟨fun i hi => ?_, ?_, fun i hi => ?_⟩
      · cases i with
        | zero => show (stepP ps h).isSome = true; rw [st]; rfl
        | succ i => rw [itP_shift ps h i p st]; exact h1 i (by omega)
      · unfold topP
        rw [st, itP_shift ps h k p st]; exact h2
      · cases i with
        | zero => exact hl
        | succ i => rw [itP_shift ps h i p st]; exact h3 i (by omega)
theorem goP_top {ps : List (Option Nat)} (ok : ∀ o ∈ ps, okp ps.length o) : ∀ k h, h < ps.length → goP ps k h = true → stepP ps (topP ps k h) = none
  | 0, h, _, g => by cases g
  | k + 1, h, hl, g => by
    have e : ps[h]? = some ps[h] := by simp [hl]
    rw [goP_succ e] at g
    unfold topP
    cases z : ps[h] with
    | none =>
      have st : stepP ps h = none := by unfold stepP; rw [e, z]
      rw [st]; exact st
    | some p =>
      rw [z] at g
      have st : stepP ps h = some p := by unfold stepP; rw [e, z]
      rw [st]
      exact goP_top ok k p (ok ps[h] (by simp) p z) g
/-- the root that is come to has no parent just where one comes out -/
theorem root_iff {ps : List (Option Nat)} (ok : ∀ o ∈ ps, okp ps.length o) {h : Nat} (hl : h < ps.length) : stepP ps (topP ps ps.length h) = none ↔ goP ps ps.length h = true := by
  constructor
  · intro e
    cases g : goP ps ps.length h with
    | true => rfl
    | false =>
      obtain ⟨h1, h2, h3⟩ := goP_it ok ps.length h hl g
      obtain ⟨i, j, hij, hj, ef⟩ := pigeon ps.length (itP ps h) h3
      have per : ∀ d, itP ps h (i + d) = itP ps h (j + d) := by
        intro d
        induction d with
        | zero => exact ef
        | succ d ih => show (stepP ps (itP ps h (i + d))).getD 0 = (stepP ps (itP ps h (j + d))).getD 0; rw [ih]
      have p := per (ps.length - j)
      rw [show j + (ps.length - j) = ps.length by omega] at p
      rw [h2, ← p] at e
      have := h1 (i + (ps.length - j)) (by omega)
      rw [e] at this; cases this
  · exact goP_top ok _ _ hl

theorem rep_non : ∀ m : Nat, (List.replicate m [D.non]).flatten = List.replicate m D.non
  | 0 => rfl
  | n + 1 => by rw [List.replicate_succ, List.flatten_cons, rep_non n, List.replicate_succ]; rfl
/-- parents while they grow -/
structure PGrow (m : Nat) (o : Nat → Nat) (k : Nat) (ps : List (Option Nat)) : Prop where
  len : ps.length = m
  a : ∀ i, k ≤ i → i < m → ps[o i]? = some none
  b : ∀ i, i < k → i < m → ps[o i]? = some none ∨ ∃ j, j < i ∧ ps[o i]? = some (some (o j))
theorem PGrow.next {m k : Nat} {o : Nat → Nat} {ps : List (Option Nat)} (g : PGrow m o k ps) : PGrow m o (k + 1) ps :=
  ⟨g.len, fun i a b => g.a i (by omega) b, fun i a b => by
    by_cases e : i = k
    · subst e; exact .inl (g.a i (Nat.le_refl _) b)
    · exact g.b i (by omega) b⟩
theorem PGrow.set {m k j : Nat} {o : Nat → Nat} {ps : List (Option Nat)} (O : Ord m o) (g : PGrow m o k ps) (hk : k < m) (hj : j < k) : PGrow m o (k + 1) (ps.set (o k) (some (o j))) := by
  have ne : ∀ i, i < m → i ≠ k → o k ≠ o i := fun i hi h e => h (O.inj i k hi hk e.symm)
  refine ⟨by simp [g.len], fun i a b => ?_, fun i a b => ?_⟩
  · rw [List.getElem?_set_ne (ne i b (by omega))]; exact g.a i (by omega) b
  · by_cases e : i = k
    · subst e
      exact .inr ⟨j, hj, List.getElem?_set_self (by rw [g.len]; exact O.lt i hk)⟩
    · rw [List.getElem?_set_ne (ne i b e)]; exact g.b i (by omega) b
theorem PGrow.clear {m k : Nat} {o : Nat → Nat} {ps : List (Option Nat)} (O : Ord m o) (g : PGrow m o (k + 1) ps) (hk : k < m) : PGrow m o (k + 1) (ps.set (o k) none) := by
  have ne : ∀ i, i < m → i ≠ k → o k ≠ o i := fun i hi h e => h (O.inj i k hi hk e.symm)
  refine ⟨by simp [g.len], fun i a b => ?_, fun i a b => ?_⟩
  · rw [List.getElem?_set_ne (ne i b (by omega))]; exact g.a i a b
  · by_cases e : i = k
    · subst e
      exact .inl (List.getElem?_set_self (by rw [g.len]; exact O.lt i hk))
    · rw [List.getElem?_set_ne (ne i b e)]; exact g.b i a b
theorem PGrow.par {m k : Nat} {o : Nat → Nat} {ps : List (Option Nat)} (O : Ord m o) (m1 : 1 ≤ m) (m2 : m ≤ 64) (g : PGrow m o m ps) : ParR ps := by
  refine ⟨by rw [g.len]; exact m1, by rw [g.len]; exact m2, fun q hq => ?_, fun h hh => ?_⟩
  · obtain ⟨i, hi, e⟩ := List.mem_iff_getElem.mp hq
    rw [g.len] at hi ⊢
    obtain ⟨j, hj, rfl⟩ := O.sur i hi
    have e1 : ps[o j]? = some q := by rw [← e]; simp [g.len, hi]
    intro p ep
    rcases g.b j hj hj with z | ⟨l, hl, z⟩
    · rw [z] at e1; cases e1; cases ep
    · rw [z] at e1; cases e1; cases ep; exact O.lt l (by omega)
  · rw [g.len] at hh ⊢
    have key : ∀ (i k : Nat), i < k → i < m → goP ps k (o i) = true := by
      intro i
      induction i using Nat.strongRecOn with
      | ind i ih =>
        intro k hk hi
        obtain ⟨k, rfl⟩ : ∃ k', k = k' + 1 := ⟨k - 1, by omega⟩
        rcases g.b i hi hi with z | ⟨j, hj, z⟩
        · rw [goP_succ z]; rfl
        · rw [goP_succ z]; exact ih j hj k (by omega) (by omega)
    obtain ⟨i, hi, rfl⟩ := O.sur h hh
    exact key i m hi hi

theorem par_one : ParP (.tup [.non]) := ⟨[none], rfl, by decide, by decide, fun o ho => by
  have : o = none := by simpa using ho
  subst this; exact fun i e => (by cases e), fun h hh => by
  have : h = 0 := by have : h < 1 := hh; omega
  subst this; rfl⟩
theorem len_one {ps : List (Option Nat)} (e : D.tup [.non] = pD ps) : ps.length = 1 := by
  injection e with e
  have := congrArg List.length e
  rw [List.length_map] at this
  exact this.symm
theorem wk_fo {ns xs} : wkr (.ob (Str.ofString "Forest") ns xs) = true := oc
theorem kn_fo {ns xs} : kn OC (.ob (Str.ofString "Forest") ns xs) = true := oc
theorem wk_pls (ps : List (Option Nat)) : wkr (.tup (ps.map pl)) = true := List.all_eq_true.mpr fun y hy => by
  obtain ⟨o, _, rfl⟩ := List.mem_map.mp hy
  exact kp o
theorem wk_ws (ws : List Int) : wkr (.tup (ws.map D.int)) = true := List.all_eq_true.mpr fun y hy => by
  obtain ⟨o, _, rfl⟩ := List.mem_map.mp hy
  rfl
theorem wk_cat {xs ys zs : List D} {o : D} (h1 : wkr (.tup xs) = true) (ho : kn OC o = true) (h2 : wkr (.tup zs) = true) (s1 : ∀ y ∈ ys, y ∈ xs) (ls : List D) (s2 : ∀ y ∈ ls, y ∈ zs) : wkr (.tup (ys ++ [o] ++ ls)) = true := List.all_eq_true.mpr fun y hy => by
  rw [List.mem_append, List.mem_append, List.mem_singleton] at hy
  rcases hy with (hy | rfl) | hy
  · exact List.all_eq_true.mp h1 y (s1 y hy)
  · exact ho
  · exact List.all_eq_true.mp h2 y (s2 y hy)
theorem wk_rep (n : Nat) : wkr (.tup (List.replicate n [D.non]).flatten) = true := List.all_eq_true.mpr fun y hy => by
  rw [rep_non] at hy
  rw [List.eq_of_mem_replicate hy]; rfl

theorem pln_pls (n : Nat) (ps : List (Option Nat)) : pln (n + 2) (pD ps) = true := List.all_eq_true.mpr fun y hy => by
  obtain ⟨o, _, rfl⟩ := List.mem_map.mp hy
  cases o <;> rfl
theorem pln_ws (n : Nat) (ws : List Int) : pln (n + 2) (wD ws) = true := List.all_eq_true.mpr fun y hy => by
  obtain ⟨o, _, rfl⟩ := List.mem_map.mp hy
  rfl
theorem pln_pair (ps : List (Option Nat)) (ws : List Int) : pln 4 (.tup [pD ps, wD ws]) = true := by
  show ([pD ps, wD ws].all (pln 3)) = true
  simp [pln_pls 1, pln_ws 1]
theorem pln_told (ps : List (Option Nat)) (ws : List Int) : pln 4 (.tup [.str (Str.ofString "told"), pD ps, wD ws]) = true := by
  show ([D.str (Str.ofString "told"), pD ps, wD ws].all (pln 3)) = true
  simp [pln_pls 1, pln_ws 1, pln]

/-! ### ways up in a right forest -/
def U (ps : List (Option Nat)) (h : Nat) : List Nat := upP ps ps.length h
theorem up_fuel {ps : List (Option Nat)} : ∀ (k m h : Nat), goP ps k h = true → goP ps m h = true → upP ps k h = upP ps m h
  | 0, _, _, a, _ => by cases a
  | _ + 1, 0, _, _, b => by cases b
  | k + 1, m + 1, h, a, b => by
    unfold upP
    unfold goP at a b
    cases e : ps[h]? with
    | none => rfl
    | some o =>
      cases o with
      | none => rfl
      | some p =>
        rw [e] at a b
        simp only at a b
        simp only [up_fuel k m p a b]
section
variable {ps : List (Option Nat)} (pr : ParR ps)
include pr
theorem up_get {h : Nat} (hh : h < ps.length) : ∃ o, ps[h]? = some o ∧ okp ps.length o := ⟨ps[h], by simp [hh], pr.ok _ (by simp)⟩
theorem U_cons {h p : Nat} (hh : h < ps.length) (e : ps[h]? = some (some p)) : U ps h = h :: U ps p := by
  have g := pr.go h hh
  have hp : p < ps.length := pr.ok _ (List.mem_of_getElem? e) p rfl
  have n1 := pr.n1
  unfold U
  obtain ⟨n, en⟩ : ∃ n, ps.length = n + 1 := ⟨ps.length - 1, by omega⟩
  have g2 : goP ps n p = true := by
    rw [en, goP_succ e] at g; exact g
  have g3 := pr.go p hp
  rw [up_fuel ps.length n p g3 g2, en]
  show upP ps (n + 1) h = _
  conv => lhs; unfold upP
  rw [e]
theorem U_nil {h : Nat} (e : ps[h]? = some none) : U ps h = [h] := by
  have n1 := pr.n1
  unfold U
  obtain ⟨n, en⟩ : ∃ n, ps.length = n + 1 := ⟨ps.length - 1, by omega⟩
  rw [en]
  unfold upP
  rw [e]
theorem U_ind (P : Nat → Prop) (top : ∀ h, h < ps.length → ps[h]? = some none → P h) (step : ∀ h p, h < ps.length → p < ps.length → ps[h]? = some (some p) → P p → P h) : ∀ h, h < ps.length → P h := by
  have key : ∀ k h, h < ps.length → goP ps k h = true → P h := by
    intro k
    induction k with
    | zero => intro h _ g; cases g
    | succ k ih =>
      intro h hh g
      obtain ⟨o, e, oo⟩ := up_get pr hh
      rw [goP_succ e] at g
      cases o with
      | none => exact top h hh e
      | some p => exact step h p hh (oo p rfl) e (ih p (oo p rfl) g)
  exact fun h hh => key ps.length h hh (pr.go h hh)
theorem U_head {h : Nat} (hh : h < ps.length) : ∃ t, U ps h = h :: t := by
  obtain ⟨o, e, oo⟩ := up_get pr hh
  cases o with
  | none => exact ⟨[], U_nil pr e⟩
  | some p => exact ⟨_, U_cons pr hh e⟩
theorem U_lt : ∀ h, h < ps.length → ∀ x ∈ U ps h, x < ps.length := U_ind pr _ (fun h hh e x hx => by
  rw [U_nil pr e, List.mem_singleton] at hx; omega) fun h p hh hp e ih x hx => by
  rw [U_cons pr hh e, List.mem_cons] at hx
  rcases hx with rfl | hx
  · exact hh
  · exact ih x hx
/-- what stands behind a house on the way up is its own way up -/
theorem U_tail : ∀ h, h < ps.length → ∀ A x B, U ps h = A ++ x :: B → x :: B = U ps x := U_ind pr _ (fun h hh e A x B q => by
  rw [U_nil pr e] at q
  cases A with
  | nil =>
    injection q with q1 q2
    subst q1 q2
    exact (U_nil pr e).symm
  | cons a A =>
    injection q with q1 q2
    have := congrArg List.length q2
    simp at this) fun h p hh hp e ih A x B q => by
  rw [U_cons pr hh e] at q
  cases A with
  | nil =>
    injection q with q1 q2
    subst q1 q2
    exact (U_cons pr hh e).symm
  | cons a A =>
    injection q with q1 q2
    exact ih A x B q2
theorem U_anti {x y : Nat} (hx : x < ps.length) (hy : y < ps.length) (a : x ∈ U ps y) (b : y ∈ U ps x) : x = y := by
  obtain ⟨A, B, e⟩ := List.append_of_mem a
  obtain ⟨C, D', f⟩ := List.append_of_mem b
  have e2 := U_tail pr y hy A x B e
  have f2 := U_tail pr x hx C y D' f
  rw [e2] at e
  rw [f2] at f
  have l1 := congrArg List.length e
  have l2 := congrArg List.length f
  rw [List.length_append] at l1 l2
  have : A = [] := List.eq_nil_of_length_eq_zero (by omega)
  subst this
  obtain ⟨t, h1⟩ := U_head pr hx
  obtain ⟨t2, h2⟩ := U_head pr hy
  rw [List.nil_append, h1, h2] at e
  injection e with e _
  exact e.symm
/-- the first common house, from either side -/
theorem first_common {a b : Nat} (ha : a < ps.length) (hb : b < ps.length) : (U ps b).find? (fun y => decide (y ∈ U ps a)) = (U ps a).find? (fun y => decide (y ∈ U ps b)) := by
  have one : ∀ {a b x : Nat}, a < ps.length → b < ps.length → (U ps a).find? (fun y => decide (y ∈ U ps b)) = some x → x ∈ U ps a ∧ x ∈ U ps b ∧ ∀ y, y ∈ U ps a → y ∈ U ps b → y ∈ U ps x := fun {a b x} ha hb e => by
    obtain ⟨hx, A, B, q, no⟩ := List.find?_eq_some_iff_append.mp e
    refine ⟨by rw [q]; simp, of_decide_eq_true hx, fun y y1 y2 => ?_⟩
    rw [← U_tail pr a ha A x B q]
    rw [q, List.mem_append] at y1
    rcases y1 with y1 | y1
    · have := no y y1
      simp at this
      exact absurd y2 this
    · exact y1
  cases e1 : (U ps b).find? (fun y => decide (y ∈ U ps a)) with
  | none =>
    cases e2 : (U ps a).find? (fun y => decide (y ∈ U ps b)) with
    | none => rfl
    | some x =>
      obtain ⟨h1, h2, _⟩ := one ha hb e2
      have := List.find?_eq_none.mp e1 x h2
      simp at this
      exact absurd h1 this
  | some y =>
    obtain ⟨y1, y2, y3⟩ := one hb ha e1
    cases e2 : (U ps a).find? (fun y => decide (y ∈ U ps b)) with
    | none =>
      have := List.find?_eq_none.mp e2 y y2
      simp at this
      exact absurd y1 this
    | some x =>
      obtain ⟨x1, x2, x3⟩ := one ha hb e2
      congr 1
      exact U_anti pr (U_lt pr b hb y y1) (U_lt pr a ha x x1) (x3 y y2 y1) (y3 x x2 x1)
end
theorem inD_nat (x : Nat) (l : List Nat) : inD (.int x) (l.map fun (j : Nat) => D.int j) = decide (x ∈ l) := by
  unfold inD
  rw [Bool.eq_iff_iff]
  simp only [List.any_eq_true, decide_eq_true_eq]
  constructor
  · rintro ⟨y, hy, e⟩
    obtain ⟨j, hj, rfl⟩ := List.mem_map.mp hy
    have : j = x := by simp [eqD] at e; omega
    subst this; exact hj
  · exact fun h => ⟨_, List.mem_map_of_mem h, by simp [eqD]⟩
theorem flat_nat (l : List Nat) : (l.map fun (j : Nat) => D.int j).all flD = true := List.all_eq_true.mpr fun y hy => by
  obtain ⟨j, _, rfl⟩ := List.mem_map.mp hy; rfl

theorem at_last {ps : List (Option Nat)} {h : Nat} : atI ((U ps h).map fun (j : Nat) => D.int j) (-1) = some (.int (topP ps ps.length h : Nat)) := by
  have ne := upP_ne ps ps.length h
  have top := upP_top ps ps.length h
  unfold U
  generalize upP ps ps.length h = l at ne top
  rw [List.getLast?_eq_getElem?] at top
  have hl0 : 0 < l.length := by cases l with
    | nil => exact absurd rfl ne
    | cons a b => simp
  unfold atI
  have e : ixN (l.map fun (j : Nat) => D.int j).length (-1) = some (l.length - 1) := by
    unfold ixN
    rw [if_neg (by decide), if_pos (by rw [List.length_map]; omega)]
    congr 1
    rw [List.length_map]; omega
  rw [e]
  simp [top]
def belowL (ps : List (Option Nat)) (h : Nat) : List Nat := (List.range ps.length).filter fun i => decide (h ∈ U ps i)
theorem fm_range (p : Nat → Bool) (f : D → Option D) (hf : ∀ i : Nat, f (.int i) = if p i then some (.int i) else none) : ∀ l : List Nat, (l.map fun (i : Nat) => D.int i).filterMap f = (l.filter p).map fun (i : Nat) => D.int i
  | [] => rfl
  | i :: l => by
    rw [List.map_cons, List.filterMap_cons, hf, List.filter_cons]
    cases p i with
    | true => simp [fm_range p f hf l]
    | false => simp [fm_range p f hf l]
theorem U_len (ps : List (Option Nat)) (h : Nat) : (U ps h).length ≤ ps.length + 1 := upP_len ps ps.length h

theorem any_put (kvs : List (Key × D)) (k k2 : Key) (v : D) : anyD (putA kvs k v) k2 = (anyD kvs k2 || decide (k = k2)) := by
  unfold anyD putA
  split
  · rename_i h
    have e : (kvs.map fun kv => if kv.1 = k then (kv.1, v) else kv).any (fun kv => decide (kv.1 = k2)) = kvs.any fun kv => decide (kv.1 = k2) := by
      rw [List.any_map]
      congr 1
      funext kv
      show decide ((if kv.1 = k then (kv.1, v) else kv).1 = k2) = _
      split <;> rfl
    rw [e]
    by_cases q : k = k2
    · subst q
      rw [h]; rfl
    · simp [q]
  · rw [List.any_append]
    simp
theorem any_fold (k2 : Key) : ∀ (l acc : List (Key × D)), anyD (l.foldl (fun acc kv => putA acc kv.1 kv.2) acc) k2 = (anyD acc k2 || anyD l k2)
  | [], acc => by simp [anyD]
  | kv :: l, acc => by
    rw [List.foldl_cons, any_fold k2 l, any_put, Bool.or_assoc]
    rfl
theorem any_nat (l : List Nat) (x : Nat) : anyD (mergeD (l.map fun (j : Nat) => ((.inl j : Key), D.bl true))) (.inl x) = decide (x ∈ l) := by
  unfold mergeD
  rw [any_fold]
  induction l with
  | nil => rfl
  | cons a l ih =>
    have ih : anyD (l.map fun (j : Nat) => ((.inl j : Key), D.bl true)) (.inl x) = decide (x ∈ l) := ih
    show (decide ((.inl a : Key) = .inl x) || anyD (l.map fun (j : Nat) => ((.inl j : Key), D.bl true)) (.inl x)) = _
    rw [ih]
    by_cases e : x = a
    · subst e; simp
    · have : ¬ ((Sum.inl (a : Int) : Key) = Sum.inl (x : Int)) := fun h => e (by injection h with h; omega)
      simp [e, this]

def wayL (ps : List (Option Nat)) (a b t : Nat) : List Nat := (U ps a).take ((U ps a).idxOf t + 1) ++ ((U ps b).take ((U ps b).idxOf t)).reverse
def wayD (mk : List D → D) (ps : List (Option Nat)) (a b : Nat) : D := match (U ps a).find? (fun y => decide (y ∈ U ps b)) with
  | some t => mk ((wayL ps a b t).map fun (j : Nat) => D.int j)
  | none => .non
theorem idx_lt {t : Nat} : ∀ {l : List Nat} {m : Nat}, m < l.idxOf t → ∀ (h : m < l.length), l[m] ≠ t
  | [], m, _, h => by cases h
  | a :: l, m, hm, h => by
    rw [List.idxOf_cons] at hm
    by_cases e : a = t
    · subst e; simp at hm
    · have e2 : (a == t) = false := by simp [e]
      rw [e2] at hm
      cases m with
      | zero => exact e
      | succ m =>
        have hm : m + 1 < l.idxOf t + 1 := hm
        exact idx_lt (l := l) (m := m) (by omega) (by simpa using h)
theorem idx_ok {l : List Nat} {t : Nat} (h : t ∈ l) {G : Gp} {Q : QK} (hq : Q (.int (l.idxOf t : Nat)) G) : mIndex (.fl (l.map fun (j : Nat) => D.int j)) [.int t] G Q := by
  have hl := List.idxOf_lt_length_iff.mpr h
  refine ⟨_, l.idxOf t, .int t, rfl, rfl, flat_nat l, ?_, ?_, fun m z hm ez => ?_, hq⟩
  · rw [List.getElem?_map, List.getElem?_eq_getElem hl, List.getElem_idxOf hl]; rfl
  · show decide ((t : Int) = t) = true
    simp
  · rw [List.getElem?_map] at ez
    have hm' : m < l.length := by omega
    rw [List.getElem?_eq_getElem hm'] at ez
    cases ez
    show decide ((l[m] : Int) = t) = false
    have := idx_lt hm hm'
    simp only [decide_eq_false_iff_not]
    omega
theorem cut_take (l : List Nat) (k : Nat) : L3.cutD (l.map fun (j : Nat) => D.int j) none (some (k : Int)) = (l.take k).map fun (j : Nat) => D.int j := by
  unfold L3.cutD
  rw [HT.sIx_none, HT.sIx_nat, List.drop_zero, Nat.sub_zero, List.map_take, List.length_map]
  exact List.take_eq_take_iff.mpr (by rw [List.length_map]; omega)

def fR (l : List Nat) : D → Option D := fun y => match y with | .int i => some (.int (l.getD (l.length - 1 - i.toNat) 0 : Nat)) | _ => none
theorem cut_take1 (l : List Nat) (k : Nat) : L3.cutD (l.map fun (j : Nat) => D.int j) none (some ((k : Int) + 1)) = (l.take (k + 1)).map fun (j : Nat) => D.int j := cut_take l (k + 1)
theorem rev_comp (l : List Nat) : ((List.range l.length).map fun (i : Nat) => D.int i).filterMap (fR l) = l.reverse.map fun (j : Nat) => D.int j := by
  rw [List.filterMap_map]
  have e : (fR l ∘ fun (i : Nat) => D.int i) = fun i : Nat => some (D.int (l.getD (l.length - 1 - i) 0 : Nat)) := by
    funext i
    show some (D.int (l.getD (l.length - 1 - (i : Int).toNat) 0 : Nat)) = _
    rw [Int.toNat_natCast]
  rw [e, ← List.filterMap_eq_map'] 
  apply List.ext_getElem?
  intro i
  by_cases h : i < l.length
  · have h2 : l.length - 1 - i < l.length := by omega
    simp [h, h2]
  · simp [h]

theorem pln_nats (n : Nat) (l : List Nat) : pln (n + 2) (.tup (l.map fun (j : Nat) => D.int j)) = true := List.all_eq_true.mpr fun y hy => by
  obtain ⟨o, _, rfl⟩ := List.mem_map.mp hy
  rfl
theorem pln_way (ps : List (Option Nat)) (a b : Nat) : pln 4 (wayD .tup ps a b) = true := by
  unfold wayD
  split
  · exact pln_nats 2 _
  · rfl
theorem pln_pl (o : Option Nat) : pln 4 (pl o) = true := by cases o <;> rfl
theorem top_in (ps : List (Option Nat)) (h : Nat) : topP ps ps.length h ∈ U ps h := List.mem_of_getLast? (upP_top ps ps.length h)
theorem below_in {ps : List (Option Nat)} {h j : Nat} : j ∈ belowL ps h ↔ j < ps.length ∧ h ∈ U ps j := by
  unfold belowL
  simp
def cm (ps : List (Option Nat)) (a b : Nat) : Option Nat := (U ps a).find? fun y => decide (y ∈ U ps b)
/-! ### lists asked by sq -/
theorem bLen_sq {L : D} {xs : List D} {G : Gp} {R : QK} (h : sq G L = some xs) (z : R (.int xs.length) G) : bLen [L] G R := by
  unfold bLen
  split
  · rename_i e; injection e with e1 e2; subst e1; cases h
  · rename_i e; injection e with e1 e2; subst e1; exact ⟨xs, h, z⟩
  · rename_i n1 n2; exact absurd rfl (n2 L)
theorem ix3_sq {L : D} {xs : List D} {G : Gp} {R : QK} {i : Int} {d : D} (h : sq G L = some xs) (e : atI xs i = some d) (z : R d G) : ix3 L (.int i) G R := by
  unfold ix3
  split
  · cases h
  · rename_i e1 e2; cases e2; exact ⟨xs, d, h, e, z⟩
  · rename_i n1 n2; first | exact absurd rfl (n1 _) | exact absurd rfl (n2 _)
theorem sq_up {L : D} {xs : List D} {G : Gp} {p : Addr} {o : GO} (n : G p = none) (h : sq G L = some xs) : sq (up G p o) L = some xs := by
  cases L with
  | ref q =>
    have ne : q ≠ p := fun z => by
      rw [z] at h
      unfold sq at h
      simp only at h
      rw [n] at h; cases h
    unfold sq at h ⊢
    simp only at h ⊢
    rw [up_ne ne]; exact h
  | _ => exact h
/-! ### right forests by ranks -/
theorem par_rank {ps : List (Option Nat)} (n1 : 1 ≤ ps.length) (n64 : ps.length ≤ 64) (ok : ∀ o ∈ ps, okp ps.length o) (r : Nat → Nat) (hr : ∀ h p, ps[h]? = some (some p) → r p < r h) : ParR ps := by
  refine ⟨n1, n64, ok, fun h hl => ?_⟩
  cases g : goP ps ps.length h with
  | true => rfl
  | false =>
    obtain ⟨h1, h2, h3⟩ := goP_it ok ps.length h hl g
    obtain ⟨i, j, hij, hj, ef⟩ := pigeon ps.length (itP ps h) h3
    have dec : ∀ d, i + d ≤ ps.length → 1 ≤ d → r (itP ps h (i + d)) < r (itP ps h i) := by
      intro d
      induction d with
      | zero => intro _ z; omega
      | succ d ih =>
        intro hd _
        have s := h1 (i + d) (by omega)
        have e : stepP ps (itP ps h (i + d)) = some (itP ps h (i + d + 1)) := by
          show _ = some ((stepP ps (itP ps h (i + d))).getD 0)
          cases z : stepP ps (itP ps h (i + d)) with
          | none => rw [z] at s; cases s
          | some p => rfl
        have e2 : ps[itP ps h (i + d)]? = some (some (itP ps h (i + d + 1))) := by
          unfold stepP at e
          cases z : ps[itP ps h (i + d)]? with
          | none => rw [z] at e; cases e
          | some o => rw [z] at e; simp only at e; rw [e]
        have lt := hr _ _ e2
        by_cases z : d = 0
        · subst z; exact lt
        · have := ih (by omega) (by omega)
          show r (itP ps h (i + d + 1)) < _
          omega
    have := dec (j - i) (by omega) (by omega)
    rw [show i + (j - i) = j by omega, ← ef] at this
    omega
theorem step_get {ps : List (Option Nat)} {h : Nat} (hh : h < ps.length) : ps[h]? = some (stepP ps h) := by
  unfold stepP
  have e : ps[h]? = some ps[h] := by simp [hh]
  rw [e]
section
variable {ps : List (Option Nat)} (pr : ParR ps)
include pr
theorem get_lt {h p : Nat} (e : ps[h]? = some (some p)) : h < ps.length ∧ p < ps.length := ⟨(List.getElem?_eq_some_iff.mp e).1, pr.ok _ (List.mem_of_getElem? e) p rfl⟩
theorem U_edge {h p : Nat} (e : ps[h]? = some (some p)) : U ps h = h :: U ps p := U_cons pr (get_lt pr e).1 e
theorem U_len_in {h x : Nat} (hh : h < ps.length) (m : x ∈ U ps h) : (U ps x).length ≤ (U ps h).length := by
  obtain ⟨A, B, e⟩ := List.append_of_mem m
  rw [← U_tail pr h hh A x B e, e, List.length_append]
  omega
theorem U_notin {h p : Nat} (e : ps[h]? = some (some p)) : h ∉ U ps p := fun m => by
  have := U_len_in pr (get_lt pr e).2 m
  rw [U_edge pr e, List.length_cons] at this
  omega
theorem U_nodup : ∀ h, h < ps.length → (U ps h).Nodup := U_ind pr _ (fun h hh e => by rw [U_nil pr e]; simp) fun h p hh hp e ih => by
  rw [U_cons pr hh e, List.nodup_cons]
  exact ⟨U_notin pr e, ih⟩
theorem top_eq {h x : Nat} (hh : h < ps.length) (m : x ∈ U ps h) : topP ps ps.length h = topP ps ps.length x := by
  obtain ⟨A, B, e⟩ := List.append_of_mem m
  have e2 := U_tail pr h hh A x B e
  have t1 := upP_top ps ps.length h
  have t2 := upP_top ps ps.length x
  have t1 : (U ps h).getLast? = some (topP ps ps.length h) := t1
  have t2 : (U ps x).getLast? = some (topP ps ps.length x) := t2
  rw [e, e2] at t1
  have ne : U ps x ≠ [] := upP_ne ps _ x
  rw [List.getLast?_append, t2] at t1
  simpa using t1.symm
theorem top_root {h : Nat} (hh : h < ps.length) : stepP ps (topP ps ps.length h) = none := (root_iff pr.ok hh).mpr (pr.go h hh)
theorem top_of_root {a : Nat} (e : ps[a]? = some none) : topP ps ps.length a = a := by
  have t := upP_top ps ps.length a
  have t : (U ps a).getLast? = some (topP ps ps.length a) := t
  rw [U_nil pr e] at t
  simpa using t.symm
theorem same_root {a b : Nat} (ha : a < ps.length) (hb : b < ps.length) : (!isN (pl (cm ps a b))) = decide (((topP ps ps.length a : Nat) : Int) = ((topP ps ps.length b : Nat) : Int)) := by
  cases e : cm ps a b with
  | none =>
    have e : (U ps a).find? (fun y => decide (y ∈ U ps b)) = none := e
    rw [List.find?_eq_none] at e
    have := e _ (top_in ps a)
    rw [eq_comm]
    show decide _ = false
    rw [decide_eq_false_iff_not]
    intro z
    have z : topP ps ps.length a = topP ps ps.length b := by omega
    apply this
    rw [z]
    simpa using top_in ps b
  | some t =>
    have e : (U ps a).find? (fun y => decide (y ∈ U ps b)) = some t := e
    have m1 := List.mem_of_find?_eq_some e
    have m2 : t ∈ U ps b := by have := List.find?_some e; simpa using this
    have q1 := top_eq pr ha m1
    have q2 := top_eq pr hb m2
    rw [q1, q2]
    simp [pl, isN]
end
/-! ### deeds -/
theorem set_ok {ps : List (Option Nat)} {a : Nat} {o : Option Nat} (ok : ∀ o ∈ ps, okp ps.length o) (h : okp ps.length o) : ∀ q ∈ ps.set a o, okp (ps.set a o).length q := fun q hq => by
  rw [List.length_set]
  rcases List.mem_or_eq_of_mem_set hq with m | rfl
  · exact ok q m
  · exact h
theorem set_edge {ps : List (Option Nat)} {a h p : Nat} {o : Option Nat} (e : (ps.set a o)[h]? = some (some p)) : (h = a ∧ o = some p) ∨ (h ≠ a ∧ ps[h]? = some (some p)) := by
  by_cases z : a = h
  · subst z
    left
    rw [List.getElem?_set_self'] at e
    refine ⟨rfl, ?_⟩
    cases q : ps[a]? with
    | none => rw [q] at e; cases e
    | some u => rw [q] at e; simpa using e
  · right
    rw [List.getElem?_set_ne z] at e
    exact ⟨fun y => z y.symm, e⟩
theorem par_cut {ps : List (Option Nat)} (pr : ParR ps) (a : Nat) : ParR (ps.set a none) := by
  refine par_rank (by rw [List.length_set]; exact pr.n1) (by rw [List.length_set]; exact pr.n64) (set_ok pr.ok (fun i e => by cases e)) (fun h => (U ps h).length) fun h p e => ?_
  rcases set_edge e with ⟨_, z⟩ | ⟨_, e⟩
  · cases z
  · rw [U_edge pr e]; simp
theorem par_link {ps : List (Option Nat)} (pr : ParR ps) {a b : Nat} (ha : ps[a]? = some none) (hb : b < ps.length) (ht : topP ps ps.length b ≠ a) : ParR (ps.set a (some b)) := by
  have al : a < ps.length := (List.getElem?_eq_some_iff.mp ha).1
  have nb : a ∉ U ps b := fun m => ht (by rw [top_eq pr hb m, top_of_root pr ha])
  refine par_rank (by rw [List.length_set]; exact pr.n1) (by rw [List.length_set]; exact pr.n64) (set_ok pr.ok (fun i e => by cases e; exact hb)) (fun h => (U ps h).length + if a ∈ U ps h then (U ps b).length + 1 else 0) fun h p e => ?_
  rcases set_edge e with ⟨rfl, z⟩ | ⟨ne, e⟩
  · cases z
    show (U ps b).length + (if h ∈ U ps b then (U ps b).length + 1 else 0) < (U ps h).length + (if h ∈ U ps h then (U ps b).length + 1 else 0)
    rw [if_neg nb, if_pos (by rw [U_nil pr ha]; simp)]
    omega
  · show (U ps p).length + (if a ∈ U ps p then (U ps b).length + 1 else 0) < (U ps h).length + (if a ∈ U ps h then (U ps b).length + 1 else 0)
    rw [U_edge pr e, List.length_cons]
    by_cases z : a ∈ U ps p
    · rw [if_pos z, if_pos (List.mem_cons_of_mem _ z)]; omega
    · rw [if_neg z, if_neg (by rw [List.mem_cons]; rintro (rfl | y); exact ne rfl; exact z y)]; omega
/-- turning: the parents along a way, one behind the other -/
def trn (L : List (Nat × Nat)) (ps : List (Option Nat)) : List (Option Nat) := L.foldl (fun s q => s.set q.2 (some q.1)) ps
theorem trn_len : ∀ (L : List (Nat × Nat)) (ps : List (Option Nat)), (trn L ps).length = ps.length
  | [], _ => rfl
  | q :: L, ps => by
    show (trn L (ps.set q.2 (some q.1))).length = _
    rw [trn_len L, List.length_set]
theorem trn_edge : ∀ (L : List (Nat × Nat)) (ps : List (Option Nat)) {h p : Nat}, (trn L ps)[h]? = some (some p) → (ps[h]? = some (some p) ∧ ∀ q ∈ L, q.2 ≠ h) ∨ (p, h) ∈ L
  | [], _, _, _, e => .inl ⟨e, by simp⟩
  | q :: L, ps, h, p, e => by
    rcases trn_edge L (ps.set q.2 (some q.1)) e with ⟨e, no⟩ | m
    · rcases set_edge e with ⟨z1, z2⟩ | ⟨z1, z2⟩
      · right
        cases z2
        rw [z1]
        exact List.mem_cons_self ..
      · left
        refine ⟨z2, fun x hx => ?_⟩
        rcases List.mem_cons.mp hx with rfl | hx
        · exact fun y => z1 y.symm
        · exact no x hx
    · exact .inr (List.mem_cons_of_mem _ m)
theorem trn_none : ∀ (L : List (Nat × Nat)) (ps : List (Option Nat)) (h : Nat), (∀ q ∈ L, q.2 ≠ h) → trn L (ps.set h none) = (trn L ps).set h none
  | [], _, _, _ => rfl
  | q :: L, ps, h, no => by
    show trn L ((ps.set h none).set q.2 (some q.1)) = (trn L (ps.set q.2 (some q.1))).set h none
    rw [List.set_comm _ _ (fun z => no q (by simp) z.symm)]
    exact trn_none L _ h fun x hx => no x (List.mem_cons_of_mem _ hx)
theorem zip_adj : ∀ {l : List Nat} {p z : Nat}, (p, z) ∈ l.zip l.tail → ∃ A B, l = A ++ p :: z :: B
  | [], _, _, m => by cases m
  | [x], _, _, m => by cases m
  | x :: y :: r, p, z, m => by
    have m : (p, z) ∈ (x, y) :: (y :: r).zip r := m
    rcases List.mem_cons.mp m with e | m
    · cases e; exact ⟨[], r, rfl⟩
    · obtain ⟨A, B, e⟩ := zip_adj (l := y :: r) m
      exact ⟨x :: A, B, by rw [e]; rfl⟩
theorem zip_snd {l : List Nat} {q : Nat × Nat} (m : q ∈ l.zip l.tail) : q.2 ∈ l.tail := (List.of_mem_zip (a := q.1) (b := q.2) m).2
def turnP (ps : List (Option Nat)) (h : Nat) : List (Option Nat) := (trn ((U ps h).zip (U ps h).tail) ps).set h none
section
variable {ps : List (Option Nat)} (pr : ParR ps)
include pr
theorem tail_not {h : Nat} (hh : h < ps.length) : ∀ q ∈ (U ps h).zip (U ps h).tail, q.2 ≠ h := fun q m z => by
  have n := U_nodup pr h hh
  obtain ⟨t, e⟩ := U_head pr hh
  have m := zip_snd m
  rw [e] at n m
  rw [z] at m
  exact (List.nodup_cons.mp n).1 m
theorem par_turn {h : Nat} (hh : h < ps.length) : ParR (turnP ps h) := by
  have lt := U_lt pr h hh
  have adj : ∀ {p z}, (p, z) ∈ (U ps h).zip (U ps h).tail → p ∈ U ps h ∧ z ∈ U ps h ∧ U ps p = p :: U ps z := fun {p z} m => by
    obtain ⟨A, B, e⟩ := zip_adj m
    have e1 := U_tail pr h hh A p (z :: B) e
    have e2 := U_tail pr h hh (A ++ [p]) z B (by rw [e]; simp)
    refine ⟨by rw [e]; simp, by rw [e]; simp, ?_⟩
    rw [← e1, e2]
  have ml : ∀ {z}, z ∈ U ps h → z ≠ h → z ∈ (U ps h).tail := fun {z} m ne => by
    obtain ⟨t, e⟩ := U_head pr hh
    rw [e] at m ⊢
    rcases List.mem_cons.mp m with rfl | m
    · exact absurd rfl ne
    · exact m
  have sn : ∀ {l : List Nat} {z}, z ∈ l.tail → ∃ q ∈ l.zip l.tail, q.2 = z := fun {l z} m => by
    obtain ⟨i, hi, e⟩ := List.getElem_of_mem m
    have hi2 : i < l.length := by rw [List.length_tail] at hi; omega
    refine ⟨(l[i], l.tail[i]), ?_, e⟩
    rw [List.mem_iff_getElem]
    exact ⟨i, by rw [List.length_zip, List.length_tail] at *; omega, by simp⟩
  have len : (turnP ps h).length = ps.length := by unfold turnP; rw [List.length_set, trn_len]
  have edge : ∀ {x p}, (turnP ps h)[x]? = some (some p) → (x ∉ U ps h ∧ ps[x]? = some (some p)) ∨ ((p, x) ∈ (U ps h).zip (U ps h).tail) := fun {x p} e => by
    rcases set_edge e with ⟨_, z⟩ | ⟨ne, e⟩
    · cases z
    · rcases trn_edge _ _ e with ⟨e, no⟩ | m
      · refine .inl ⟨fun m => ?_, e⟩
        obtain ⟨q, m1, m2⟩ := sn (ml m ne)
        exact no q m1 m2
      · exact .inr m
  refine par_rank (by rw [len]; exact pr.n1) (by rw [len]; exact pr.n64) (fun o ho i ei => ?_) (fun x => if x ∈ U ps h then (U ps h).length - (U ps x).length else 100 + (U ps x).length) fun x p e => ?_
  · subst ei
    rw [len]
    obtain ⟨x, hx⟩ := List.getElem?_of_mem ho
    rcases edge hx with ⟨_, e⟩ | m
    · exact (get_lt pr e).2
    · exact lt _ (adj m).1
  · show (if p ∈ U ps h then (U ps h).length - (U ps p).length else 100 + (U ps p).length) < (if x ∈ U ps h then (U ps h).length - (U ps x).length else 100 + (U ps x).length)
    rcases edge e with ⟨nx, e⟩ | m
    · rw [if_neg nx, U_edge pr e, List.length_cons]
      have := U_len ps h
      have := pr.n64
      split <;> omega
    · obtain ⟨m1, m2, e3⟩ := adj m
      rw [if_pos m1, if_pos m2, e3, List.length_cons]
      have := U_len_in pr hh m1
      rw [e3, List.length_cons] at this
      omega
theorem way_nodup {a b t : Nat} (ha : a < ps.length) (hb : b < ps.length) (e : cm ps a b = some t) : (wayL ps a b t).Nodup := by
  have e2 : (U ps b).find? (fun y => decide (y ∈ U ps a)) = some t := (first_common pr ha hb).trans e
  obtain ⟨_, A, B, q, no⟩ := List.find?_eq_some_iff_append.mp e2
  have nb := U_nodup pr b hb
  have na := U_nodup pr a ha
  have nt : t ∉ A := fun m => by
    rw [q] at nb
    exact (List.nodup_append.mp nb).2.2 t m t (by simp) rfl
  have ti : (U ps b).take ((U ps b).idxOf t) = A := by
    rw [q, List.idxOf_append, if_neg nt]
    simp
  unfold wayL
  rw [ti, List.nodup_append]
  refine ⟨List.Sublist.nodup (List.take_sublist _ _) na, ?_, fun x mx y my z => ?_⟩
  · refine (List.reverse_perm A).nodup_iff.mpr ?_
    rw [q] at nb
    exact (List.nodup_append.mp nb).1
  · subst z
    have := no x (List.mem_reverse.mp my)
    simp at this
    exact this (List.mem_of_mem_take mx)
end

theorem noT {b : Bool} {P : Prop} (z : b = true) (h : b = false) : P := by rw [h] at z; cases z
theorem noF {b : Bool} {P : Prop} (z : b = false) (h : b = true) : P := by rw [h] at z; cases z

/-! ### shapes told -/
theorem go_up (rs : List Row) : ∀ k h, goP (rs.map Row.u) k h = go rs k h
  | 0, _ => rfl
  | k + 1, h => by
    unfold goP go
    rw [List.getElem?_map]
    cases rs[h]? with
    | none => rfl
    | some r =>
      show (match some r.u with | some (some p) => goP (rs.map Row.u) k p | some none => true | none => false) = (match r.u with | none => true | some p => go rs k p)
      cases r.u with
      | none => rfl
      | some p => exact go_up rs k p
def uL (rs : List Row) : List (Option Nat) := rs.map Row.u
theorem uL_len (rs : List Row) : (uL rs).length = rs.length := List.length_map _
theorem uL_get {rs : List Row} {h : Nat} {r : Row} (e : rs[h]? = some r) : (uL rs)[h]? = some r.u := by
  unfold uL; rw [List.getElem?_map, e]; rfl
theorem uL_par {rs : List Row} (S : ShpR rs) : ParR (uL rs) := by
  refine ⟨by rw [uL_len]; exact S.n1, by rw [uL_len]; exact S.n64, fun o ho => ?_, fun h hh => ?_⟩
  · obtain ⟨r, hr, rfl⟩ := List.mem_map.mp ho
    rw [uL_len]
    exact (S.ok r hr).u
  · rw [uL_len] at hh ⊢
    rw [show uL rs = rs.map Row.u from rfl, go_up]
    exact S.go h hh
def isSon (rs : List Row) (h : Nat) : Bool := match rs[h]? with
  | some r => (match r.u with
    | some p => (match rs[p]? with
      | some q => decide (q.l = some h) || decide (q.r = some h)
      | none => false)
    | none => false)
  | none => false
/-- the parents within the trees of rows -/
def sL (rs : List Row) : List (Option Nat) := (List.range rs.length).map fun h => if isSon rs h = true then stepP (uL rs) h else none
theorem sL_len (rs : List Row) : (sL rs).length = rs.length := by unfold sL; rw [List.length_map, List.length_range]
theorem sL_get {rs : List Row} {h : Nat} (hh : h < rs.length) : (sL rs)[h]? = some (if isSon rs h = true then stepP (uL rs) h else none) := by
  unfold sL
  rw [List.getElem?_map, List.getElem?_range hh]; rfl
theorem sL_lt {rs : List Row} {h : Nat} {o : Option Nat} (e : (sL rs)[h]? = some o) : h < rs.length := by
  have := (List.getElem?_eq_some_iff.mp e).1
  rw [sL_len] at this; exact this
theorem sL_edge {rs : List Row} {h p : Nat} (e : (sL rs)[h]? = some (some p)) : isSon rs h = true ∧ (uL rs)[h]? = some (some p) := by
  have hh := sL_lt e
  rw [sL_get hh] at e
  cases z : isSon rs h with
  | false => rw [z] at e; cases e
  | true =>
    rw [z, if_pos rfl] at e
    have e := Option.some.inj e
    have g := step_get (ps := uL rs) (h := h) (by rw [uL_len]; exact hh)
    rw [e] at g
    exact ⟨rfl, g⟩
section
variable {rs : List Row} (S : ShpR rs)
include S
theorem sL_par : ParR (sL rs) := by
  have P := uL_par S
  refine par_rank (by rw [sL_len]; exact S.n1) (by rw [sL_len]; exact S.n64) (fun o ho i ei => ?_) (fun h => (U (uL rs) h).length) fun h p e => ?_
  · subst ei
    obtain ⟨h, e⟩ := List.getElem?_of_mem ho
    have := (get_lt P (sL_edge e).2).2
    rw [uL_len] at this
    rw [sL_len]; exact this
  · rw [U_edge P (sL_edge e).2, List.length_cons]; omega
theorem row_lt {h : Nat} {r : Row} (e : rs[h]? = some r) : h < rs.length := (List.getElem?_eq_some_iff.mp e).1
theorem son_row {z c : Nat} {r : Row} (e : rs[z]? = some r) (h : r.l = some c ∨ r.r = some c) : ∃ q, rs[c]? = some q ∧ q.u = some z := by
  obtain ⟨h1, h2⟩ := S.sons z r e
  rcases h with h | h
  · exact h1 c h
  · exact h2 c h
theorem son_edge {z c : Nat} {r : Row} (e : rs[z]? = some r) (h : r.l = some c ∨ r.r = some c) : (sL rs)[c]? = some (some z) := by
  obtain ⟨q, e1, e2⟩ := son_row S e h
  have hc : c < rs.length := (List.getElem?_eq_some_iff.mp e1).1
  have i : isSon rs c = true := by
    unfold isSon
    rw [e1]
    simp only
    rw [e2]
    simp only
    rw [e]
    simp only
    rcases h with h | h <;> simp [h]
  rw [sL_get hc, if_pos i]
  have g := step_get (ps := uL rs) (h := c) (by rw [uL_len]; exact hc)
  rw [uL_get e1, e2] at g
  rw [← g]
theorem edge_son {z c : Nat} (e : (sL rs)[c]? = some (some z)) : ∃ r, rs[z]? = some r ∧ (r.l = some c ∨ r.r = some c) := by
  obtain ⟨i, g⟩ := sL_edge e
  unfold isSon at i
  cases e1 : rs[c]? with
  | none => rw [e1] at i; cases i
  | some q =>
    rw [e1] at i
    simp only at i
    rw [uL_get e1] at g
    have g := Option.some.inj g
    rw [g] at i
    simp only at i
    cases e2 : rs[z]? with
    | none => rw [e2] at i; cases i
    | some r =>
      rw [e2] at i
      simp only [Bool.or_eq_true, decide_eq_true_eq] at i
      exact ⟨r, rfl, i⟩
theorem root_iff_son {h : Nat} (hh : h < rs.length) : (sL rs)[h]? = some none ↔ isSon rs h = false := by
  rw [sL_get hh]
  cases z : isSon rs h with
  | false => simp
  | true =>
    rw [if_pos rfl]
    constructor
    · intro e
      have e := Option.some.inj e
      unfold isSon at z
      cases e1 : rs[h]? with
      | none => rw [e1] at z; cases z
      | some r =>
        rw [e1] at z
        simp only at z
        have g := step_get (ps := uL rs) (h := h) (by rw [uL_len]; exact hh)
        rw [uL_get e1, e] at g
        rw [Option.some.inj g] at z
        cases z
    · intro e; cases e
theorem U_le (h : Nat) (hh : h < rs.length) : 1 ≤ (U (sL rs) h).length ∧ (U (sL rs) h).length ≤ 65 := by
  have P := sL_par S
  obtain ⟨t, e⟩ := U_head P (h := h) (by rw [sL_len]; exact hh)
  have l := U_len (sL rs) h
  rw [sL_len] at l
  have := S.n64
  rw [e] at l ⊢
  rw [List.length_cons] at l ⊢
  omega
end
/-- the row of a tree, in order; b: told back -/
def ordO (rs : List Row) : Nat → Option Nat → Bool → List Nat
  | 0, _, _ => []
  | _ + 1, none, _ => []
  | f + 1, some h, b => match rs[h]? with
    | some r => ordO rs f (if (b != r.t) = true then r.r else r.l) (b != r.t) ++ [h] ++ ordO rs f (if (b != r.t) = true then r.l else r.r) (b != r.t)
    | none => []
theorem ordO_none (rs : List Row) (b : Bool) : ∀ f, ordO rs f none b = []
  | 0 => rfl
  | _ + 1 => rfl
theorem ordO_some {rs : List Row} {h : Nat} {r : Row} (e : rs[h]? = some r) (f : Nat) (b : Bool) : ordO rs (f + 1) (some h) b = ordO rs f (if (b != r.t) = true then r.r else r.l) (b != r.t) ++ [h] ++ ordO rs f (if (b != r.t) = true then r.l else r.r) (b != r.t) := by
  conv => lhs; unfold ordO
  rw [e]
theorem pick_son {r : Row} {w : Bool} {c : Nat} (h : (if w = true then r.r else r.l) = some c ∨ (if w = true then r.l else r.r) = some c) : r.l = some c ∨ r.r = some c := by
  cases w <;> simp at h <;> rcases h with h | h <;> simp [h]
section
variable {rs : List Row} (S : ShpR rs)
include S
theorem child_len {z c : Nat} {r : Row} (e : rs[z]? = some r) (h : r.l = some c ∨ r.r = some c) : c < rs.length ∧ (U (sL rs) c).length = (U (sL rs) z).length + 1 := by
  have g := son_edge S e h
  exact ⟨sL_lt g, by rw [U_edge (sL_par S) g]; rfl⟩
theorem ordO_fuel : ∀ f g z b, z < rs.length → 67 ≤ (U (sL rs) z).length + f → 67 ≤ (U (sL rs) z).length + g → ordO rs f (some z) b = ordO rs g (some z) b := by
  intro f
  induction f with
  | zero => intro g z b hz h _; have := (U_le S z hz).2; omega
  | succ f ih =>
    intro g z b hz hf hg
    cases g with
    | zero => have := (U_le S z hz).2; omega
    | succ g =>
      obtain ⟨r, e⟩ : ∃ r, rs[z]? = some r := ⟨rs[z], by simp [hz]⟩
      rw [ordO_some e, ordO_some e]
      have key : ∀ o w, (∀ c, o = some c → r.l = some c ∨ r.r = some c) → ordO rs f o w = ordO rs g o w := fun o w ho => by
        cases o with
        | none => rw [ordO_none, ordO_none]
        | some c =>
          obtain ⟨hc, hl⟩ := child_len S e (ho c rfl)
          exact ih g c w hc (by omega) (by omega)
      rw [key _ _ (fun c h => pick_son (.inl h)), key _ _ (fun c h => pick_son (.inr h))]
def ordT (rs : List Row) (z : Nat) (b : Bool) : List Nat := ordO rs 66 (some z) b
def oT (rs : List Row) (o : Option Nat) (b : Bool) : List Nat := ordO rs 66 o b
theorem ordT_eq {z : Nat} {r : Row} (e : rs[z]? = some r) (b : Bool) : ordT rs z b = oT rs (if (b != r.t) = true then r.r else r.l) (b != r.t) ++ [z] ++ oT rs (if (b != r.t) = true then r.l else r.r) (b != r.t) := by
  have hz : z < rs.length := (List.getElem?_eq_some_iff.mp e).1
  have := (U_le S z hz).1
  unfold ordT
  rw [ordO_fuel S 66 67 z b hz (by omega) (by omega), ordO_some e]
  rfl
/-- from the sons up -/
theorem dn_ind (P : Nat → Prop) (step : ∀ z r, rs[z]? = some r → (∀ c, r.l = some c ∨ r.r = some c → P c) → P z) : ∀ z, z < rs.length → P z := by
  have key : ∀ k z, z < rs.length → 66 ≤ (U (sL rs) z).length + k → P z := by
    intro k
    induction k with
    | zero => intro z hz h; have := (U_le S z hz).2; omega
    | succ k ih =>
      intro z hz h
      obtain ⟨r, e⟩ : ∃ r, rs[z]? = some r := ⟨rs[z], by simp [hz]⟩
      refine step z r e fun c hc => ?_
      obtain ⟨h1, h2⟩ := child_len S e hc
      exact ih c h1 (by omega)
  exact fun z hz => key 66 z hz (by omega)
theorem U_in_self {h : Nat} : h ∈ U (sL rs) h := upP_in _ _ _
/-- who is below z comes by z or by a son of it -/
theorem below_son {x z : Nat} (hx : x < rs.length) (m : z ∈ U (sL rs) x) (ne : x ≠ z) : ∃ c, (sL rs)[c]? = some (some z) ∧ c ∈ U (sL rs) x := by
  have P := sL_par S
  obtain ⟨A, B, e⟩ := List.append_of_mem m
  cases hA : A.getLast? with
  | none =>
    rw [List.getLast?_eq_none_iff] at hA
    subst hA
    obtain ⟨t, h⟩ := U_head P (h := x) (by rw [sL_len]; exact hx)
    rw [h] at e
    injection e with e _
    exact absurd e ne
  | some c =>
    obtain ⟨A', rfl⟩ : ∃ A', A = A' ++ [c] := by
      obtain ⟨h, e⟩ := List.getLast?_eq_some_iff.mp hA
      exact ⟨h, e⟩
    rw [List.append_assoc] at e
    have hx' : x < (sL rs).length := by rw [sL_len]; exact hx
    have t := U_tail P x hx' A' c (z :: B) e
    have mc : c ∈ U (sL rs) x := by rw [e]; simp
    have hc := U_lt P x hx' c mc
    refine ⟨c, ?_, mc⟩
    have g := step_get hc
    cases q : stepP (sL rs) c with
    | none =>
      rw [q] at g
      rw [U_nil P g] at t
      cases t
    | some p =>
      rw [q] at g
      rw [U_edge P g] at t
      injection t with _ t
      obtain ⟨t2, h2⟩ := U_head P (h := p) (get_lt P g).2
      rw [h2] at t
      injection t with t _
      rw [t]; exact g
theorem ord_mem : ∀ z, z < rs.length → ∀ b x, x ∈ ordT rs z b ↔ x < rs.length ∧ z ∈ U (sL rs) x := by
  refine dn_ind S _ fun z r e ih b x => ?_
  have P := sL_par S
  have hz : z < rs.length := (List.getElem?_eq_some_iff.mp e).1
  have side : ∀ o w, (∀ c, o = some c → r.l = some c ∨ r.r = some c) → (x ∈ oT rs o w ↔ ∃ c, o = some c ∧ x < rs.length ∧ c ∈ U (sL rs) x) := fun o w ho => by
    cases o with
    | none => unfold oT; rw [ordO_none]; simp
    | some c =>
      show x ∈ ordT rs c w ↔ _
      rw [ih c (ho c rfl) w x]
      simp
  rw [ordT_eq S e, List.mem_append, List.mem_append, side _ _ (fun c h => pick_son (.inl h)), side _ _ (fun c h => pick_son (.inr h)), List.mem_singleton]
  constructor
  · rintro ((⟨c, ec, hx, m⟩ | rfl) | ⟨c, ec, hx, m⟩)
    · have g := son_edge S e (pick_son (.inl ec))
      refine ⟨hx, ?_⟩
      obtain ⟨A, B, q⟩ := List.append_of_mem m
      have t := U_tail P x (by rw [sL_len]; exact hx) A c B q
      rw [q, t, U_edge P g]
      exact List.mem_append_right _ (List.mem_cons_of_mem _ (U_in_self S))
    · exact ⟨hz, U_in_self S⟩
    · have g := son_edge S e (pick_son (.inr ec))
      refine ⟨hx, ?_⟩
      obtain ⟨A, B, q⟩ := List.append_of_mem m
      have t := U_tail P x (by rw [sL_len]; exact hx) A c B q
      rw [q, t, U_edge P g]
      exact List.mem_append_right _ (List.mem_cons_of_mem _ (U_in_self S))
  · rintro ⟨hx, m⟩
    by_cases ne : x = z
    · exact .inl (.inr ne)
    · obtain ⟨c, g, mc⟩ := below_son S hx m ne
      obtain ⟨r', e', hc⟩ := edge_son S g
      rw [e] at e'
      cases e'
      cases w : (b != r.t) with
      | true =>
        rcases hc with h | h
        · exact .inr ⟨c, by simpa using h, hx, mc⟩
        · exact .inl (.inl ⟨c, by simpa using h, hx, mc⟩)
      | false =>
        rcases hc with h | h
        · exact .inl (.inl ⟨c, by simpa using h, hx, mc⟩)
        · exact .inr ⟨c, by simpa using h, hx, mc⟩
theorem U_same {x c d : Nat} (hx : x < rs.length) (mc : c ∈ U (sL rs) x) (md : d ∈ U (sL rs) x) (l : (U (sL rs) c).length = (U (sL rs) d).length) : c = d := by
  have P := sL_par S
  have hx' : x < (sL rs).length := by rw [sL_len]; exact hx
  obtain ⟨A, B, e⟩ := List.append_of_mem mc
  obtain ⟨A', B', e'⟩ := List.append_of_mem md
  have t := U_tail P x hx' A c B e
  have t' := U_tail P x hx' A' d B' e'
  rw [t] at e
  rw [t'] at e'
  have l2 : A.length = A'.length := by
    have a := congrArg List.length e
    have b := congrArg List.length e'
    rw [List.length_append] at a b
    omega
  have q : A ++ U (sL rs) c = A' ++ U (sL rs) d := e.symm.trans e'
  have := (List.append_inj q l2).2
  rw [← t, ← t'] at this
  injection this
theorem ord_nodup : ∀ z, z < rs.length → ∀ b, (ordT rs z b).Nodup := by
  refine dn_ind S _ fun z r e ih b => ?_
  have P := sL_par S
  have hz : z < rs.length := (List.getElem?_eq_some_iff.mp e).1
  have nd : ∀ o w, (∀ c, o = some c → r.l = some c ∨ r.r = some c) → (oT rs o w).Nodup := fun o w ho => by
    cases o with
    | none => unfold oT; rw [ordO_none]; simp
    | some c => exact ih c (ho c rfl) w
  have mem : ∀ o w x, (∀ c, o = some c → r.l = some c ∨ r.r = some c) → x ∈ oT rs o w → ∃ c, o = some c ∧ x < rs.length ∧ c ∈ U (sL rs) x := fun o w x ho m => by
    cases o with
    | none => unfold oT at m; rw [ordO_none] at m; cases m
    | some c =>
      obtain ⟨h1, h2⟩ := (ord_mem S c (child_len S e (ho c rfl)).1 w x).mp m
      exact ⟨c, rfl, h1, h2⟩
  have nz : ∀ c, (r.l = some c ∨ r.r = some c) → c ∉ U (sL rs) z := fun c hc m => by
    have := U_len_in P (by rw [sL_len]; exact hz) m
    rw [(child_len S e hc).2] at this
    omega
  rw [ordT_eq S e]
  generalize (b != r.t) = w
  have s1 : ∀ c, (if w = true then r.r else r.l) = some c → r.l = some c ∨ r.r = some c := fun c h => pick_son (.inl h)
  have s2 : ∀ c, (if w = true then r.l else r.r) = some c → r.l = some c ∨ r.r = some c := fun c h => pick_son (.inr h)
  rw [List.nodup_append, List.nodup_append]
  refine ⟨⟨nd _ _ s1, by simp, fun x mx y my q => ?_⟩, nd _ _ s2, fun x mx y my q => ?_⟩
  · rw [List.mem_singleton] at my
    subst my q
    obtain ⟨c, ec, _, mc⟩ := mem _ _ _ s1 mx
    exact nz c (s1 c ec) mc
  · subst q
    obtain ⟨d, ed, hx, md⟩ := mem _ _ _ s2 my
    rcases List.mem_append.mp mx with mx | mx
    · obtain ⟨c, ec, _, mc⟩ := mem _ _ _ s1 mx
      have := U_same S hx mc md (by rw [(child_len S e (s1 c ec)).2, (child_len S e (s2 d ed)).2])
      subst this
      have two := S.two r (List.mem_of_getElem? e)
      rcases two with h | h
      · cases w <;> simp at ec ed <;> simp [h] at ec ed
      · cases w
        · simp at ec ed; exact h (ec.trans ed.symm)
        · simp at ec ed; exact h (ed.trans ec.symm)
    · rw [List.mem_singleton] at mx
      subst mx
      exact nz d (s2 d ed) md
end

/-! ### rows told as parents -/
theorem nodup_len {l : List Nat} {n : Nat} (nd : l.Nodup) (h : ∀ x ∈ l, x < n) : l.length ≤ n := by
  by_cases c : l.length ≤ n
  · exact c
  · have c : n < l.length := by omega
    obtain ⟨i, j, hij, hj, e⟩ := pigeon n (fun i => l.getD i 0) fun i hi => by
      have hi : i < l.length := by omega
      have : l.getD i 0 = l[i] := by simp [hi]
      show l.getD i 0 < n
      rw [this]
      exact h _ (by simp)
    have hi' : i < l.length := by omega
    have hj' : j < l.length := by omega
    have e : l.getD i 0 = l.getD j 0 := e
    have e1 : l.getD i 0 = l[i] := by simp [hi']
    have e2 : l.getD j 0 = l[j] := by simp [hj']
    rw [e1, e2] at e
    exact absurd e (List.pairwise_iff_getElem.mp nd i j hi' hj' hij)
def asg : Option Nat → List Nat → List (Option Nat) → List (Option Nat)
  | _, [], ps => ps
  | a, h :: r, ps => asg (some h) r (ps.set h a)
def predIn : Option Nat → List Nat → Nat → Option Nat
  | _, [], _ => none
  | a, h :: r, z => if h = z then a else predIn (some h) r z
theorem asg_len : ∀ (row : List Nat) (a : Option Nat) (ps : List (Option Nat)), (asg a row ps).length = ps.length
  | [], _, _ => rfl
  | h :: r, a, ps => by
    show (asg (some h) r (ps.set h a)).length = _
    rw [asg_len r, List.length_set]
theorem asg_get : ∀ (row : List Nat) (a : Option Nat) (ps : List (Option Nat)) (z : Nat), row.Nodup → z < ps.length → (asg a row ps)[z]? = if z ∈ row then some (predIn a row z) else ps[z]?
  | [], _, _, _, _, _ => by simp [asg]
  | h :: r, a, ps, z, nd, hz => by
    obtain ⟨n1, n2⟩ := List.nodup_cons.mp nd
    show (asg (some h) r (ps.set h a))[z]? = if z ∈ h :: r then some (if h = z then a else predIn (some h) r z) else ps[z]?
    rw [asg_get r (some h) _ z n2 (by rw [List.length_set]; exact hz)]
    by_cases e : h = z
    · subst e
      rw [if_neg n1, if_pos (by simp), if_pos rfl]
      simp [hz]
    · rw [if_neg e, List.getElem?_set_ne e]
      by_cases m : z ∈ r
      · rw [if_pos m, if_pos (List.mem_cons_of_mem _ m)]
      · rw [if_neg m, if_neg (by rw [List.mem_cons]; rintro (k | k); exact e k.symm; exact m k)]
theorem trn_set : ∀ (L : List (Nat × Nat)) (ps : List (Option Nat)) (h : Nat) (o : Option Nat), (∀ q ∈ L, q.2 ≠ h) → trn L (ps.set h o) = (trn L ps).set h o
  | [], _, _, _, _ => rfl
  | q :: L, ps, h, o, no => by
    show trn L ((ps.set h o).set q.2 (some q.1)) = (trn L (ps.set q.2 (some q.1))).set h o
    rw [List.set_comm _ _ (fun z => no q (by simp) z.symm)]
    exact trn_set L _ h o fun x hx => no x (List.mem_cons_of_mem _ hx)
theorem asg_trn : ∀ (t : List Nat) (a : Nat) (ps : List (Option Nat)), asg (some a) t ps = trn ((a :: t).zip t) ps
  | [], _, _ => rfl
  | b :: t, a, ps => by
    show asg (some b) t (ps.set b (some a)) = trn ((b :: t).zip t) (ps.set b (some a))
    exact asg_trn t b _
/-- the program's way: first the others, then the first -/
theorem asg_row {h : Nat} {t : List Nat} (nd : (h :: t).Nodup) (a : Option Nat) (ps : List (Option Nat)) : (trn ((h :: t).zip t) ps).set h a = asg a (h :: t) ps := by
  show _ = asg (some h) t (ps.set h a)
  rw [asg_trn, trn_set]
  intro q hq z
  have m := (List.of_mem_zip (a := q.1) (b := q.2) hq).2
  rw [z] at m
  exact (List.nodup_cons.mp nd).1 m
def tp (rs : List Row) (z : Nat) : Nat := topP (sL rs) (sL rs).length z
def topsL (rs : List Row) : List Nat := (List.range rs.length).filter fun h => !isSon rs h
def rowU (rs : List Row) (h : Nat) : Option Nat := stepP (uL rs) h
def tldP (rs : List Row) : List (Option Nat) := (List.range rs.length).map fun z => predIn (rowU rs (tp rs z)) (ordT rs (tp rs z) false) z
def asgs (rs : List Row) (ts : List Nat) (ps : List (Option Nat)) : List (Option Nat) := ts.foldl (fun ps t => asg (rowU rs t) (ordT rs t false) ps) ps
theorem asgs_len (rs : List Row) : ∀ (ts : List Nat) (ps : List (Option Nat)), (asgs rs ts ps).length = ps.length
  | [], _ => rfl
  | t :: ts, ps => by
    show (asgs rs ts (asg _ _ ps)).length = _
    rw [asgs_len rs ts, asg_len]
theorem tops_in {rs : List Row} {t : Nat} : t ∈ topsL rs ↔ t < rs.length ∧ isSon rs t = false := by
  unfold topsL
  rw [List.mem_filter, List.mem_range]
  simp
section
variable {rs : List Row} (S : ShpR rs)
include S
theorem tp_top {z : Nat} (hz : z < rs.length) : tp rs z ∈ topsL rs ∧ tp rs z ∈ U (sL rs) z := by
  have P := sL_par S
  have hz' : z < (sL rs).length := by rw [sL_len]; exact hz
  have m : tp rs z ∈ U (sL rs) z := top_in (sL rs) z
  have lt := U_lt P z hz' _ m
  rw [sL_len] at lt
  have r := top_root P hz'
  have g := step_get (ps := sL rs) (h := tp rs z) (by rw [sL_len]; exact lt)
  rw [show stepP (sL rs) (tp rs z) = none from r] at g
  exact ⟨tops_in.mpr ⟨lt, (root_iff_son S lt).mp g⟩, m⟩
theorem tp_of {t z : Nat} (ht : t ∈ topsL rs) (hz : z < rs.length) (m : t ∈ U (sL rs) z) : tp rs z = t := by
  have P := sL_par S
  obtain ⟨h1, h2⟩ := tops_in.mp ht
  have e := top_eq P (h := z) (by rw [sL_len]; exact hz) m
  have g := top_of_root P ((root_iff_son S h1).mpr h2)
  exact e.trans g
theorem tp_mem {t z : Nat} (ht : t ∈ topsL rs) (hz : z < rs.length) : z ∈ ordT rs t false ↔ tp rs z = t := by
  rw [ord_mem S t (tops_in.mp ht).1 false z]
  constructor
  · exact fun h => tp_of S ht hz h.2
  · rintro rfl; exact ⟨hz, (tp_top S hz).2⟩
theorem asgs_get : ∀ (ts : List Nat) (ps : List (Option Nat)) (z : Nat), (∀ t ∈ ts, t ∈ topsL rs) → ts.Nodup → ps.length = rs.length → z < rs.length → (asgs rs ts ps)[z]? = if tp rs z ∈ ts then some (predIn (rowU rs (tp rs z)) (ordT rs (tp rs z) false) z) else ps[z]?
  | [], _, _, _, _, _, _ => by simp [asgs]
  | t :: ts, ps, z, hts, nd, hl, hz => by
    obtain ⟨n1, n2⟩ := List.nodup_cons.mp nd
    have ht := hts t (by simp)
    show (asgs rs ts (asg (rowU rs t) (ordT rs t false) ps))[z]? = _
    rw [asgs_get ts _ z (fun u hu => hts u (List.mem_cons_of_mem _ hu)) n2 (by rw [asg_len]; exact hl) hz]
    rw [asg_get _ _ _ z (ord_nodup S t (tops_in.mp ht).1 false) (by rw [hl]; exact hz)]
    by_cases e : tp rs z = t
    · rw [if_neg (by rw [e]; exact n1), if_pos ((tp_mem S ht hz).mpr e), if_pos (by rw [e]; simp), e]
    · rw [if_neg (fun m => e ((tp_mem S ht hz).mp m))]
      by_cases m : tp rs z ∈ ts
      · rw [if_pos m, if_pos (List.mem_cons_of_mem _ m)]
      · rw [if_neg m, if_neg (by rw [List.mem_cons]; rintro (k | k); exact e k; exact m k)]
theorem asgs_tld : asgs rs (topsL rs) (List.replicate rs.length none) = tldP rs := by
  apply List.ext_getElem?
  intro z
  by_cases hz : z < rs.length
  · rw [asgs_get S _ _ z (fun t h => h) (List.Sublist.nodup List.filter_sublist List.nodup_range) (List.length_replicate) hz, if_pos (tp_top S hz).1]
    unfold tldP
    rw [List.getElem?_map, List.getElem?_range hz]; rfl
  · rw [List.getElem?_eq_none (by rw [asgs_len]; simp; omega), List.getElem?_eq_none (by unfold tldP; rw [List.length_map, List.length_range]; omega)]
theorem pred_cases : ∀ {row : List Nat} {a : Option Nat} {z p : Nat}, z ∈ row → predIn a row z = some p → (a = some p ∧ row.head? = some z) ∨ ∃ A B, row = A ++ p :: z :: B
  | [], _, _, _, m, _ => by cases m
  | h :: r, a, z, p, m, e => by
    have e0 : (if h = z then a else predIn (some h) r z) = some p := e
    clear e
    by_cases q : h = z
    · rw [if_pos q] at e0
      subst q
      exact .inl ⟨e0, rfl⟩
    · rw [if_neg q] at e0
      have e := e0
      have m : z ∈ r := by
        rcases List.mem_cons.mp m with k | k
        · exact absurd k.symm q
        · exact k
      rcases pred_cases m e with ⟨e1, e2⟩ | ⟨A, B, e1⟩
      · cases e1
        cases r with
        | nil => cases m
        | cons y r =>
          have : y = z := by simpa using e2
          subst this
          exact .inr ⟨[], r, rfl⟩
      · exact .inr ⟨h :: A, B, by rw [e1]; rfl⟩
theorem row_len {t : Nat} (ht : t < rs.length) : (ordT rs t false).length ≤ 64 := by
  have nd := ord_nodup S t ht false
  have sub : ∀ x ∈ ordT rs t false, x ∈ List.range rs.length := fun x hx => List.mem_range.mpr ((ord_mem S t ht false x).mp hx).1
  have := nodup_len nd (n := rs.length) (fun x hx => List.mem_range.mp (sub x hx))
  have := S.n64
  omega
theorem sU_sub {x t : Nat} (hx : x < rs.length) (m : t ∈ U (sL rs) x) : (U (uL rs) t).length ≤ (U (uL rs) x).length := by
  have P := sL_par S
  have key : ∀ x, x < (sL rs).length → ∀ t, t ∈ U (sL rs) x → (U (uL rs) t).length ≤ (U (uL rs) x).length := U_ind P _ (fun h hh e t m => by
    rw [U_nil P e, List.mem_singleton] at m
    rw [m]; exact Nat.le_refl _) (fun h p hh hp e ih t m => by
    rw [U_cons P hh e, List.mem_cons] at m
    rcases m with rfl | m
    · exact Nat.le_refl _
    · have := ih t m
      rw [U_edge (uL_par S) (sL_edge e).2, List.length_cons]
      omega)
  exact key x (by rw [sL_len]; exact hx) t m
theorem tld_par : ParR (tldP rs) ∧ (tldP rs).length = rs.length := by
  have len : (tldP rs).length = rs.length := by unfold tldP; rw [List.length_map, List.length_range]
  have get : ∀ {z o}, (tldP rs)[z]? = some o → z < rs.length ∧ o = predIn (rowU rs (tp rs z)) (ordT rs (tp rs z) false) z := fun {z o} e => by
    have hz : z < rs.length := by rw [← len]; exact (List.getElem?_eq_some_iff.mp e).1
    unfold tldP at e
    rw [List.getElem?_map, List.getElem?_range hz] at e
    exact ⟨hz, (Option.some.inj e).symm⟩
  have up : ∀ {t p}, t < rs.length → rowU rs t = some p → p < rs.length ∧ (U (uL rs) p).length < (U (uL rs) t).length := fun {t p} ht e => by
    have g := step_get (ps := uL rs) (h := t) (by rw [uL_len]; exact ht)
    rw [show stepP (uL rs) t = some p from e] at g
    have := (get_lt (uL_par S) g).2
    rw [uL_len] at this
    exact ⟨this, by rw [U_edge (uL_par S) g, List.length_cons]; omega⟩
  have edge : ∀ {z p}, (tldP rs)[z]? = some (some p) → z < rs.length ∧ p < rs.length ∧ ((tp rs p = tp rs z ∧ ∃ A B, ordT rs (tp rs z) false = A ++ p :: z :: B) ∨ (U (uL rs) (tp rs p)).length < (U (uL rs) (tp rs z)).length) := fun {z p} e => by
    obtain ⟨hz, e⟩ := get e
    obtain ⟨h1, h2⟩ := tp_top S hz
    have ht := (tops_in.mp h1).1
    have mz := (tp_mem S h1 hz).mpr rfl
    rcases pred_cases S mz e.symm with ⟨e1, _⟩ | ⟨A, B, q⟩
    · obtain ⟨hp, lp⟩ := up ht e1
      have := sU_sub S hp (tp_top S hp).2
      exact ⟨hz, hp, .inr (by omega)⟩
    · have mp : p ∈ ordT rs (tp rs z) false := by rw [q]; simp
      have hp := ((ord_mem S _ ht false p).mp mp).1
      exact ⟨hz, hp, .inl ⟨(tp_mem S h1 hp).mp mp, A, B, q⟩⟩
  refine ⟨?_, len⟩
  refine par_rank (by rw [len]; exact S.n1) (by rw [len]; exact S.n64) (fun o ho i ei => ?_) (fun x => 100 * (U (uL rs) (tp rs x)).length + (ordT rs (tp rs x) false).idxOf x) fun z p e => ?_
  · subst ei
    obtain ⟨z, hz⟩ := List.getElem?_of_mem ho
    rw [len]
    exact (edge hz).2.1
  · obtain ⟨hz, hp, h⟩ := edge e
    have ht := (tops_in.mp (tp_top S hp).1).1
    have il : (ordT rs (tp rs p) false).idxOf p < 64 + 1 := by
      have := row_len S ht
      have := List.idxOf_lt_length_iff.mpr ((tp_mem S (tp_top S hp).1 hp).mpr rfl)
      omega
    show 100 * (U (uL rs) (tp rs p)).length + (ordT rs (tp rs p) false).idxOf p < 100 * (U (uL rs) (tp rs z)).length + (ordT rs (tp rs z) false).idxOf z
    rcases h with ⟨h1, A, B, q⟩ | h
    · have nd := ord_nodup S _ (tops_in.mp (tp_top S hz).1).1 false
      rw [h1]
      rw [q] at nd ⊢
      obtain ⟨_, n2, n3⟩ := List.nodup_append.mp nd
      have np : p ∉ A := fun m => n3 p m p (by simp) rfl
      have nz : z ∉ A := fun m => n3 z m z (by simp) rfl
      have npz : p ≠ z := fun k => by
        rw [k] at n2
        exact (List.nodup_cons.mp n2).1 (by simp)
      have e1 : (A ++ p :: z :: B).idxOf p = A.length := by
        rw [List.idxOf_append, if_neg np, List.idxOf_cons]
        simp
      have e2 : (A ++ p :: z :: B).idxOf z = A.length + 1 := by
        rw [List.idxOf_append, if_neg nz, List.idxOf_cons, List.idxOf_cons]
        have : (p == z) = false := by simp [npz]
        rw [this]
        simp
        omega
      rw [e1, e2]
      omega
    · omega
end
/-- what waits above a house within its tree, and its own -/
def rowA (rs : List Row) (h : Nat) : Int := match rs[h]? with
  | some r => r.a
  | none => 0
def rowV (rs : List Row) (h : Nat) : Int := match rs[h]? with
  | some r => r.v
  | none => 0
def wr (rs : List Row) (z : Nat) : Int := rowV rs z + ((U (sL rs) z).tail.map (rowA rs)).sum
def tldW (rs : List Row) : List Int := (List.range rs.length).map (wr rs)

theorem eq_pl (o : Option Nat) (h : Nat) : eqD (pl o) (.int h) = decide (o = some h) := by
  cases o with
  | none => rfl
  | some i =>
    show decide ((i : Int) = (h : Int)) = _
    rw [Bool.eq_iff_iff]; simp; omega
theorem fl_pl (o : Option Nat) : flD (pl o) = true := by cases o <;> rfl
theorem isSon_eq {rs : List Row} {h p : Nat} {r q : Row} (e : rs[h]? = some r) (eu : r.u = some p) (ep : rs[p]? = some q) : isSon rs h = (decide (q.l = some h) || decide (q.r = some h)) := by
  unfold isSon
  rw [e]; simp only
  rw [eu]; simp only
  rw [ep]
theorem isSon_none {rs : List Row} {h : Nat} {r : Row} (e : rs[h]? = some r) (eu : r.u = none) : isSon rs h = false := by
  unfold isSon
  rw [e]; simp only
  rw [eu]
theorem row_get {rs : List Row} {h : Nat} (hh : h < rs.length) : ∃ r, rs[h]? = some r := ⟨rs[h], by simp [hh]⟩
theorem ordO_len {rs : List Row} (S : ShpR rs) {f z : Nat} {b : Bool} (hz : z < rs.length) (hf : 67 ≤ (U (sL rs) z).length + f) : (ordO rs f (some z) b).length ≤ 64 := by
  have := (U_le S z hz).1
  rw [ordO_fuel S f 66 z b hz hf (by omega)]
  have nd := ord_nodup S z hz b
  have l := nodup_len nd (n := rs.length) (fun x hx => ((ord_mem S z hz b x).mp hx).1)
  have := S.n64
  exact Nat.le_trans l this
theorem ordO_back (rs : List Row) : ∀ (f : Nat) (o : Option Nat), ordO rs f o true = (ordO rs f o false).reverse
  | 0, _ => rfl
  | _ + 1, none => rfl
  | f + 1, some h => by
    cases e : rs[h]? with
    | none => unfold ordO; rw [e]; rfl
    | some r =>
      rw [ordO_some e, ordO_some e]
      cases r.t <;> simp [ordO_back rs f]
theorem fm_some {f : D → Option D} {g : Nat → D} (hf : ∀ j : Nat, f (.int j) = some (g j)) : ∀ l : List Nat, (l.map fun (j : Nat) => D.int j).filterMap f = l.map g
  | [] => rfl
  | j :: l => by rw [List.map_cons, List.filterMap_cons, hf, List.map_cons, fm_some hf l]
theorem wsh (rs : List Row) : wks (.tup (rs.map Row.d)) = true := List.all_eq_true.mpr fun y hy => by
  obtain ⟨r, _, rfl⟩ := List.mem_map.mp hy
  show (r.items.all (kn OC)) = true
  unfold Row.items
  simp [kn, pl]
  refine ⟨?_, ?_, ?_⟩
  · cases r.u <;> rfl
  · cases r.l <;> rfl
  · cases r.r <;> rfl
theorem rowA_get {rs : List Row} {h : Nat} {r : Row} (e : rs[h]? = some r) : rowA rs h = r.a := by unfold rowA; rw [e]
theorem rowV_get {rs : List Row} {h : Nat} {r : Row} (e : rs[h]? = some r) : rowV rs h = r.v := by unfold rowV; rw [e]
theorem rowU_get {rs : List Row} {h : Nat} {r : Row} (e : rs[h]? = some r) : rowU rs h = r.u := by
  unfold rowU stepP
  rw [uL_get e]
theorem rep_non2 : ∀ m : Nat, (List.replicate m [D.non]).flatten = List.replicate m D.non
  | 0 => rfl
  | n + 1 => by rw [List.replicate_succ, List.flatten_cons, rep_non2 n, List.replicate_succ]; rfl
theorem rep_pl (n : Nat) : (List.replicate ((n : Int)).toNat [D.non]).flatten = (List.replicate n (none : Option Nat)).map pl := by
  rw [Int.toNat_natCast, rep_non2, List.map_replicate]; rfl
theorem asg_snoc : ∀ (row : List Nat) (a : Option Nat) (x : Nat) (ps : List (Option Nat)), asg a (row ++ [x]) ps = (asg a row ps).set x (if row.isEmpty then a else row.getLast?)
  | [], _, _, _ => rfl
  | h :: r, a, x, ps => by
    show asg (some h) (r ++ [x]) (ps.set h a) = _
    rw [asg_snoc r]
    show (asg (some h) r (ps.set h a)).set x _ = (asg (some h) r (ps.set h a)).set x _
    congr 1
    cases r with
    | nil => rfl
    | cons y r => simp [List.getLast?_cons]
theorem asgs_snoc (rs : List Row) (ts : List Nat) (t : Nat) (ps : List (Option Nat)) : asgs rs (ts ++ [t]) ps = asg (rowU rs t) (ordT rs t false) (asgs rs ts ps) := by
  unfold asgs
  rw [List.foldl_append]; rfl
theorem tldW_len (rs : List Row) : (tldW rs).length = rs.length := by unfold tldW; rw [List.length_map, List.length_range]

/-! ### handing on -/
def Sn (rs : List Row) (z c : Nat) : Prop := ∃ r, rs[z]? = some r ∧ (r.l = some c ∨ r.r = some c)
theorem sn_edge {rs : List Row} (S : ShpR rs) {z c : Nat} : Sn rs z c ↔ (sL rs)[c]? = some (some z) :=
  ⟨fun ⟨_, e, h⟩ => son_edge S e h, fun e => edge_son S e⟩
theorem sL_ext {rs qs : List Row} (S : ShpR rs) (T : ShpR qs) (l : qs.length = rs.length) (h : ∀ z c, Sn qs z c ↔ Sn rs z c) : sL qs = sL rs := by
  apply List.ext_getElem?
  intro c
  by_cases hc : c < rs.length
  · have a := sL_get (rs := rs) hc
    have b := sL_get (rs := qs) (h := c) (by omega)
    generalize (if isSon rs c = true then stepP (uL rs) c else none) = x at a
    generalize (if isSon qs c = true then stepP (uL qs) c else none) = y at b
    rw [a, b]
    cases x with
    | some z =>
      have := (sn_edge T).mp ((h z c).mpr ((sn_edge S).mpr a))
      rw [b] at this; exact this
    | none =>
      cases y with
      | none => rfl
      | some z =>
        have := (sn_edge S).mp ((h z c).mp ((sn_edge T).mpr b))
        rw [a] at this; cases this
  · rw [List.getElem?_eq_none (by rw [sL_len]; omega), List.getElem?_eq_none (by rw [sL_len]; omega)]
theorem isSon_sL {rs qs : List Row} (S : ShpR rs) (T : ShpR qs) (l : qs.length = rs.length) (e : sL qs = sL rs) (h : Nat) (hh : h < rs.length) : isSon qs h = isSon rs h := by
  have a := root_iff_son S hh
  have b := root_iff_son T (h := h) (by omega)
  rw [e] at b
  cases x : isSon rs h <;> cases y : isSon qs h
  · rfl
  · rw [x] at a; rw [y] at b; exact absurd (b.mp (a.mpr rfl)) (by decide)
  · rw [x] at a; rw [y] at b; exact absurd (a.mp (b.mpr rfl)) (by decide)
  · rfl
theorem shp_of {rs : List Row} (ok : ∀ r ∈ rs, r.ok rs.length) (two : ∀ r ∈ rs, r.two) (sons : ∀ h r, rs[h]? = some r → sonIs rs h r.l ∧ sonIs rs h r.r) (P : ParR (uL rs)) : ShpR rs := by
  have n1 := P.n1
  have n64 := P.n64
  rw [uL_len] at n1 n64
  refine ⟨n1, n64, ok, two, sons, fun h hh => ?_⟩
  have := P.go h (by rw [uL_len]; exact hh)
  rw [uL_len, show uL rs = rs.map Row.u from rfl, go_up] at this
  exact this
def sg (r : Row) (z : Nat) : Bool := decide (r.l = some z) || decide (r.r = some z)
theorem sg_iff {r : Row} {z : Nat} : sg r z = true ↔ (r.l = some z ∨ r.r = some z) := by unfold sg; simp
def hOn (r : Row) (h j : Nat) (q : Row) : Row :=
  if j = h then ⟨r.u, if r.t = true then r.r else r.l, if r.t = true then r.l else r.r, false, 0, r.v⟩
  else if sg r j = true then ⟨q.u, q.l, q.r, q.t != r.t, q.a + r.a, q.v + r.a⟩ else q
theorem hOn_ne {r q : Row} {h j : Nat} (n : j ≠ h) (ns : sg r j = false) : hOn r h j q = q := by
  unfold hOn
  rw [if_neg n, ns, if_neg (by decide)]
def handR (rs : List Row) (h : Nat) : List Row := match rs[h]? with
  | some r => rs.mapIdx fun j q => hOn r h j q
  | none => rs
section
variable {rs : List Row} (S : ShpR rs) {h : Nat} {r : Row} (e : rs[h]? = some r)
include e
theorem hand_eq : handR rs h = rs.mapIdx fun j q => hOn r h j q := by unfold handR; rw [e]
theorem hand_len : (handR rs h).length = rs.length := by rw [hand_eq e, List.length_mapIdx]
theorem hand_get (j : Nat) : (handR rs h)[j]? = (rs[j]?).map (hOn r h j) := by rw [hand_eq e, List.getElem?_mapIdx]
theorem hand_some {j : Nat} {q : Row} (g : rs[j]? = some q) : (handR rs h)[j]? = some (hOn r h j q) := by rw [hand_get e, g]; rfl
theorem hand_inv {j : Nat} {q' : Row} (g : (handR rs h)[j]? = some q') : ∃ q, rs[j]? = some q ∧ q' = hOn r h j q := by
  rw [hand_get e] at g
  cases z : rs[j]? with
  | none => rw [z] at g; cases g
  | some q => rw [z] at g; exact ⟨q, rfl, (Option.some.inj g).symm⟩
theorem hOn_u {j : Nat} {q : Row} (g : rs[j]? = some q) : (hOn r h j q).u = q.u := by
  unfold hOn
  by_cases z : j = h
  · subst z; rw [e] at g; cases g; rw [if_pos rfl]
  · rw [if_neg z]; split <;> rfl
theorem hOn_sn {j c : Nat} {q : Row} (g : rs[j]? = some q) : ((hOn r h j q).l = some c ∨ (hOn r h j q).r = some c) ↔ (q.l = some c ∨ q.r = some c) := by
  unfold hOn
  by_cases z : j = h
  · subst z; rw [e] at g; cases g; rw [if_pos rfl]
    cases r.t <;> simp [or_comm]
  · rw [if_neg z]; split <;> rfl
theorem hOn_two {j : Nat} {q : Row} (g : rs[j]? = some q) (t : q.two) : (hOn r h j q).two := by
  unfold hOn
  by_cases z : j = h
  · subst z; rw [e] at g; cases g; rw [if_pos rfl]
    unfold Row.two at t ⊢
    cases r.t
    · exact t
    · show r.r = none ∨ r.r ≠ r.l
      rcases t with t | t
      · cases x : r.r with
        | none => exact .inl rfl
        | some y => rw [t]; simp
      · exact .inr fun z => t z.symm
  · rw [if_neg z]; split <;> exact t
theorem hand_uL : uL (handR rs h) = uL rs := by
  apply List.ext_getElem?
  intro j
  unfold uL
  rw [List.getElem?_map, List.getElem?_map, hand_get e]
  cases z : rs[j]? with
  | none => rfl
  | some q => exact congrArg some (hOn_u e z)
theorem hand_Sn (z c : Nat) : Sn (handR rs h) z c ↔ Sn rs z c := by
  constructor
  · rintro ⟨q', g, k⟩
    obtain ⟨q, g2, rfl⟩ := hand_inv e g
    exact ⟨q, g2, (hOn_sn e g2).mp k⟩
  · rintro ⟨q, g, k⟩
    exact ⟨_, hand_some e g, (hOn_sn e g).mpr k⟩
include S
theorem hand_shp : ShpR (handR rs h) := by
  refine shp_of ?_ ?_ ?_ (by rw [hand_uL e]; exact uL_par S)
  · intro q' m
    rw [hand_len e]
    obtain ⟨j, hj⟩ := List.getElem?_of_mem m
    obtain ⟨q, g, rfl⟩ := hand_inv e hj
    have k := S.ok q (List.mem_of_getElem? g)
    refine ⟨by rw [hOn_u e g]; exact k.u, fun i hi => ?_, fun i hi => ?_⟩
    · rcases (hOn_sn e g).mp (.inl hi) with x | x
      · exact k.l i x
      · exact k.r i x
    · rcases (hOn_sn e g).mp (.inr hi) with x | x
      · exact k.l i x
      · exact k.r i x
  · intro q' m
    obtain ⟨j, hj⟩ := List.getElem?_of_mem m
    obtain ⟨q, g, rfl⟩ := hand_inv e hj
    exact hOn_two e g (S.two q (List.mem_of_getElem? g))
  · intro j q' hj
    obtain ⟨q, g, rfl⟩ := hand_inv e hj
    have key : ∀ s, ((hOn r h j q).l = some s ∨ (hOn r h j q).r = some s) → ∃ q, (handR rs h)[s]? = some q ∧ q.u = some j := fun s hs => by
      obtain ⟨w, g2, u⟩ := son_row S g ((hOn_sn e g).mp hs)
      exact ⟨_, hand_some e g2, by rw [hOn_u e g2]; exact u⟩
    exact ⟨fun s hs => key s (.inl hs), fun s hs => key s (.inr hs)⟩
theorem hand_sL : sL (handR rs h) = sL rs := sL_ext S (hand_shp S e) (hand_len e) (hand_Sn e)
theorem not_own {c : Nat} (k : sg r c = true) : c ≠ h := fun z => by
  subst z
  have := (child_len S e (sg_iff.mp k)).2
  omega
theorem son_other {z c : Nat} {q : Row} (g : rs[z]? = some q) (k : q.l = some c ∨ q.r = some c) (ne : z ≠ h) : sg r c = false := by
  cases w : sg r c with
  | false => rfl
  | true =>
    have a := son_edge S e (sg_iff.mp w)
    have b := son_edge S g k
    rw [a] at b
    exact absurd (Option.some.inj (Option.some.inj b)).symm ne
theorem hand_ord : ∀ z, z < rs.length → ∀ b, ordT (handR rs h) z b = ordT rs z (b != (sg r z && r.t)) := by
  have T := hand_shp S e
  refine dn_ind S _ fun z q g ih b => ?_
  have g' := hand_some e g
  have sub : ∀ o w, (∀ c, o = some c → q.l = some c ∨ q.r = some c) → ∀ x, (∀ c, o = some c → sg r c = x) → oT (handR rs h) o w = oT rs o (w != (x && r.t)) := fun o w ho x hx => by
    cases o with
    | none => unfold oT; rw [ordO_none, ordO_none]
    | some c =>
      have := ih c (ho c rfl) w
      rw [hx c rfl] at this
      exact this
  by_cases z0 : z = h
  · subst z0
    rw [e] at g; cases g
    have own : sg r z = false := by
      cases w : sg r z with
      | false => rfl
      | true => exact absurd rfl (not_own S e w)
    have all : ∀ c, r.l = some c ∨ r.r = some c → sg r c = true := fun c k => sg_iff.mpr k
    rw [ordT_eq T g', ordT_eq S e, own]
    unfold hOn
    rw [if_pos rfl]
    have s1 : ∀ w : Bool, ∀ c, (if w = true then r.r else r.l) = some c → r.l = some c ∨ r.r = some c := fun w c k => by cases w <;> simp at k <;> simp [k]
    have k1 := fun w x => sub (if w = true then r.r else r.l) x (s1 w) true (fun c k => all c (s1 w c k))
    cases b <;> cases ht : r.t
    · have a1 := k1 false false
      have a2 := k1 true false
      simp [ht] at a1 a2
      simp [a1, a2]
    · have a1 := k1 false false
      have a2 := k1 true false
      simp [ht] at a1 a2
      simp [a1, a2]
    · have a1 := k1 false true
      have a2 := k1 true true
      simp [ht] at a1 a2
      simp [a1, a2]
    · have a1 := k1 false true
      have a2 := k1 true true
      simp [ht] at a1 a2
      simp [a1, a2]
  · have s1 : ∀ w : Bool, ∀ c, (if w = true then q.r else q.l) = some c → q.l = some c ∨ q.r = some c := fun w c k => by cases w <;> simp at k <;> simp [k]
    have k1 := fun w x => sub (if w = true then q.r else q.l) x (s1 w) false (fun c k => son_other S e g (s1 w c k) z0)
    simp only [Bool.false_and, Bool.bne_false] at k1
    rw [ordT_eq T g', ordT_eq S g]
    unfold hOn
    rw [if_neg z0]
    cases w : sg r z with
    | false =>
      simp only [Bool.false_and, Bool.bne_false, if_neg (show ¬ (false = true) by decide)]
      have a1 := k1 (b != q.t) (b != q.t)
      have a2 := k1 (!(b != q.t)) (b != q.t)
      cases hb : (b != q.t) <;> rw [hb] at a1 a2 <;> simp at a1 a2 <;> simp [a1, a2]
    | true =>
      simp only [Bool.true_and, if_pos]
      have hx : (b != (q.t != r.t)) = ((b != r.t) != q.t) := by cases b <;> cases q.t <;> cases r.t <;> rfl
      rw [hx]
      have a1 := k1 ((b != r.t) != q.t) ((b != r.t) != q.t)
      have a2 := k1 (!((b != r.t) != q.t)) ((b != r.t) != q.t)
      cases hb : ((b != r.t) != q.t) <;> rw [hb] at a1 a2 <;> simp at a1 a2 <;> simp [a1, a2]
theorem hand_tldP : tldP (handR rs h) = tldP rs := by
  have T := hand_shp S e
  unfold tldP
  rw [hand_len e]
  refine List.map_congr_left fun z mz => ?_
  have hz := List.mem_range.mp mz
  have et : tp (handR rs h) z = tp rs z := by unfold tp; rw [hand_sL S e]
  have eu : rowU (handR rs h) (tp rs z) = rowU rs (tp rs z) := by unfold rowU; rw [hand_uL e]
  obtain ⟨h1, _⟩ := tp_top S hz
  obtain ⟨h2, h3⟩ := tops_in.mp h1
  have ns : sg r (tp rs z) = false := by
    cases w : sg r (tp rs z) with
    | false => rfl
    | true =>
      have a := son_edge S e (sg_iff.mp w)
      rw [(root_iff_son S h2).mpr h3] at a
      cases a
  rw [et, eu, hand_ord S e _ h2, ns]
  rfl
end
def aw (rs : List Row) (z : Nat) : Int := ((U (sL rs) z).tail.map (rowA rs)).sum
theorem wr_aw (rs : List Row) (z : Nat) : wr rs z = rowV rs z + aw rs z := rfl
section
variable {rs : List Row} (S : ShpR rs)
include S
theorem aw_root {z : Nat} (g : (sL rs)[z]? = some none) : aw rs z = 0 := by
  unfold aw; rw [U_nil (sL_par S) g]; rfl
theorem aw_edge {z p : Nat} (g : (sL rs)[z]? = some (some p)) : aw rs z = rowA rs p + aw rs p := by
  unfold aw
  obtain ⟨t, ht⟩ := U_head (sL_par S) (h := p) (get_lt (sL_par S) g).2
  rw [U_edge (sL_par S) g, ht]
  simp
end
section
variable {rs : List Row} (S : ShpR rs) {h : Nat} {r : Row} (e : rs[h]? = some r)
include S e
theorem hand_A {z : Nat} (hz : z < rs.length) : rowA (handR rs h) z = if z = h then 0 else if sg r z = true then rowA rs z + r.a else rowA rs z := by
  obtain ⟨q, g⟩ : ∃ q, rs[z]? = some q := ⟨rs[z], by simp [hz]⟩
  unfold rowA
  rw [hand_some e g, g]
  unfold hOn
  by_cases z0 : z = h
  · simp [z0]
  · rw [if_neg z0, if_neg z0]
    cases sg r z <;> rfl
theorem hand_V {z : Nat} (hz : z < rs.length) : rowV (handR rs h) z = if sg r z = true then rowV rs z + r.a else rowV rs z := by
  obtain ⟨q, g⟩ : ∃ q, rs[z]? = some q := ⟨rs[z], by simp [hz]⟩
  unfold rowV
  rw [hand_some e g, g]
  unfold hOn
  by_cases z0 : z = h
  · subst z0
    rw [e] at g; cases g
    have own : sg r z = false := by
      cases w : sg r z with
      | false => rfl
      | true => exact absurd rfl (not_own S e w)
    simp [own]
  · rw [if_neg z0]
    cases sg r z <;> rfl
theorem hand_aw : ∀ z, z < (sL rs).length → aw (handR rs h) z + (if sg r z = true then r.a else 0) = aw rs z := by
  have T := hand_shp S e
  have hh : h < rs.length := (List.getElem?_eq_some_iff.mp e).1
  have ow : sg r h = false := by
    cases w : sg r h with
    | false => rfl
    | true => exact absurd rfl (not_own S e w)
  refine U_ind (sL_par S) _ (fun z hz g => ?_) fun z p hz hp g ih => ?_
  · have g2 : (sL (handR rs h))[z]? = some none := by rw [hand_sL S e]; exact g
    rw [aw_root S g, aw_root T g2]
    cases w : sg r z with
    | false => rfl
    | true =>
      have a := son_edge S e (sg_iff.mp w)
      rw [g] at a; cases a
  · have g2 : (sL (handR rs h))[z]? = some (some p) := by rw [hand_sL S e]; exact g
    rw [sL_len] at hp
    rw [aw_edge S g, aw_edge T g2, hand_A S e hp]
    obtain ⟨q, gq, k⟩ := edge_son S g
    by_cases z0 : p = h
    · subst z0
      rw [e] at gq; cases gq
      rw [ow] at ih
      rw [if_pos rfl, sg_iff.mpr k, if_pos rfl]
      have : rowA rs p = r.a := by unfold rowA; rw [e]
      rw [this]
      simp at ih
      omega
    · rw [if_neg z0, son_other S e gq k z0]
      cases w : sg r p with
      | false => rw [w] at ih; simp at ih ⊢; omega
      | true => rw [w] at ih; simp at ih ⊢; omega
theorem hand_tldW : tldW (handR rs h) = tldW rs := by
  unfold tldW
  rw [hand_len e]
  refine List.map_congr_left fun z mz => ?_
  have hz := List.mem_range.mp mz
  have k := hand_aw S e z (by rw [sL_len]; exact hz)
  rw [wr_aw, wr_aw, hand_V S e hz, ← k]
  cases sg r z <;> simp <;> omega
end

/-! ### turning up -/
def tB (h : Nat) (x y : Row) : Option Nat := if y.l = some h then x.r else x.l
def rp (p h : Nat) (o : Option Nat) : Option Nat := if o = some p then some h else o
def tOn (h p : Nat) (x y : Row) (j : Nat) (q : Row) : Row :=
  if j = h then (if y.l = some h then ⟨y.u, x.l, some p, x.t, x.a, x.v⟩ else ⟨y.u, some p, x.r, x.t, x.a, x.v⟩)
  else if j = p then (if y.l = some h then ⟨some h, x.r, y.r, y.t, y.a, y.v⟩ else ⟨some h, y.l, x.l, y.t, y.a, y.v⟩)
  else if tB h x y = some j then ⟨some p, q.l, q.r, q.t, q.a, q.v⟩
  else if y.u = some j then ⟨q.u, rp p h q.l, rp p h q.r, q.t, q.a, q.v⟩
  else q
def rotR (rs : List Row) (h p : Nat) (x y : Row) : List Row := rs.mapIdx fun j q => tOn h p x y j q
structure TnR (rs : List Row) (h p : Nat) (x y : Row) : Prop where
  S : ShpR rs
  ex : rs[h]? = some x
  ey : rs[p]? = some y
  eu : x.u = some p
  son : y.l = some h ∨ y.r = some h
  xt : x.t = false
  yt : y.t = false
  xa : x.a = 0
  ya : y.a = 0
def dp (rs : List Row) (j : Nat) : Nat := (U (uL rs) j).length
section
variable {rs : List Row} {h p : Nat} {x y : Row} (T : TnR rs h p x y)
theorem rot_len : (rotR rs h p x y).length = rs.length := List.length_mapIdx
theorem rot_get (j : Nat) : (rotR rs h p x y)[j]? = (rs[j]?).map (tOn h p x y j) := List.getElem?_mapIdx
theorem rot_some {j : Nat} {q : Row} (g : rs[j]? = some q) : (rotR rs h p x y)[j]? = some (tOn h p x y j q) := by rw [rot_get, g]; rfl
theorem rot_inv {j : Nat} {q' : Row} (g : (rotR rs h p x y)[j]? = some q') : ∃ q, rs[j]? = some q ∧ q' = tOn h p x y j q := by
  rw [rot_get] at g
  cases z : rs[j]? with
  | none => rw [z] at g; cases g
  | some q => rw [z] at g; exact ⟨q, rfl, (Option.some.inj g).symm⟩
include T
theorem dp_up {j i : Nat} {q : Row} (g : rs[j]? = some q) (u : q.u = some i) : dp rs j = dp rs i + 1 := by
  have k := uL_get g
  rw [u] at k
  unfold dp
  rw [U_edge (uL_par T.S) k, List.length_cons]
theorem dp_son {j i : Nat} {q : Row} (g : rs[j]? = some q) (k : q.l = some i ∨ q.r = some i) : dp rs i = dp rs j + 1 := by
  obtain ⟨w, g2, u⟩ := son_row T.S g k
  exact dp_up T g2 u
theorem t_hp : h ≠ p := fun z => by
  have := dp_up T T.ex T.eu
  rw [z] at this; omega
theorem tb_son {b : Nat} (e : tB h x y = some b) : x.l = some b ∨ x.r = some b := by
  unfold tB at e
  split at e
  · exact .inr e
  · exact .inl e
theorem tb_dp {b : Nat} (e : tB h x y = some b) : dp rs b = dp rs p + 2 := by
  have := dp_son T T.ex (tb_son T e)
  have := dp_up T T.ex T.eu
  omega
theorem tb_h {b : Nat} (e : tB h x y = some b) : b ≠ h := fun z => by
  have := tb_dp T e; have := dp_up T T.ex T.eu; rw [z] at *; omega
theorem tb_p {b : Nat} (e : tB h x y = some b) : b ≠ p := fun z => by
  have := tb_dp T e; rw [z] at *; omega
theorem tu_dp {g : Nat} (e : y.u = some g) : dp rs p = dp rs g + 1 := dp_up T T.ey e
theorem tu_h {g : Nat} (e : y.u = some g) : g ≠ h := fun z => by
  have := tu_dp T e; have := dp_up T T.ex T.eu; rw [z] at *; omega
theorem tu_p {g : Nat} (e : y.u = some g) : g ≠ p := fun z => by
  have := tu_dp T e; rw [z] at *; omega
theorem tu_b {g : Nat} (e : y.u = some g) : tB h x y ≠ some g := fun z => by
  have := tu_dp T e; have := tb_dp T z; omega
/-- one has one up -/
theorem one_up {i j c : Nat} {q w : Row} (g : rs[i]? = some q) (k : q.l = some c ∨ q.r = some c) (g2 : rs[j]? = some w) (k2 : w.l = some c ∨ w.r = some c) : i = j := by
  have a := son_edge T.S g k
  have b := son_edge T.S g2 k2
  rw [a] at b
  exact Option.some.inj (Option.some.inj b)
theorem t_h : tOn h p x y h x = (if y.l = some h then ⟨y.u, x.l, some p, x.t, x.a, x.v⟩ else ⟨y.u, some p, x.r, x.t, x.a, x.v⟩) := by unfold tOn; rw [if_pos rfl]
theorem t_p : tOn h p x y p y = (if y.l = some h then ⟨some h, x.r, y.r, y.t, y.a, y.v⟩ else ⟨some h, y.l, x.l, y.t, y.a, y.v⟩) := by unfold tOn; rw [if_neg (t_hp T).symm, if_pos rfl]
/-- the up of each behind it -/
def tU (h p : Nat) (x y : Row) (j : Nat) (u : Option Nat) : Option Nat := if j = h then y.u else if j = p then some h else if tB h x y = some j then some p else u
omit T in
theorem t_u (j : Nat) (q : Row) : (tOn h p x y j q).u = tU h p x y j q.u := by
  unfold tOn tU
  by_cases a : j = h
  · rw [if_pos a, if_pos a]; split <;> rfl
  · rw [if_neg a, if_neg a]
    by_cases b : j = p
    · rw [if_pos b, if_pos b]; split <;> rfl
    · rw [if_neg b, if_neg b]
      by_cases c : tB h x y = some j
      · rw [if_pos c, if_pos c]
      · rw [if_neg c, if_neg c]; split <;> rfl
/-- sons behind it -/
theorem t_sn {j c : Nat} {q : Row} (g : rs[j]? = some q) (k : (tOn h p x y j q).l = some c ∨ (tOn h p x y j q).r = some c) : (j = h ∧ c = p) ∨ (j = h ∧ (x.l = some c ∨ x.r = some c) ∧ tB h x y ≠ some c) ∨ (j = p ∧ tB h x y = some c) ∨ (j = p ∧ c ≠ h ∧ (y.l = some c ∨ y.r = some c)) ∨ (y.u = some j ∧ c = h ∧ (q.l = some p ∨ q.r = some p)) ∨ (j ≠ h ∧ j ≠ p ∧ c ≠ p ∧ c ≠ h ∧ (q.l = some c ∨ q.r = some c)) := by
  by_cases a : j = h
  · subst a
    rw [T.ex] at g; cases g
    rw [t_h T] at k
    have two := T.S.two x (List.mem_of_getElem? T.ex)
    unfold tB
    by_cases s : y.l = some j
    · simp only [if_pos s] at k ⊢
      rcases k with k | k
      · refine .inr (.inl ⟨trivial, .inl k, fun z => ?_⟩)
        rcases two with w | w
        · rw [w] at k; cases k
        · exact w (k.trans z.symm)
      · injection k with k; exact .inl ⟨trivial, k.symm⟩
    · simp only [if_neg s] at k ⊢
      rcases k with k | k
      · injection k with k; exact .inl ⟨trivial, k.symm⟩
      · refine .inr (.inl ⟨trivial, .inr k, fun z => ?_⟩)
        rcases two with w | w
        · rw [w] at z; cases z
        · exact w (z.trans k.symm)
  · by_cases b : j = p
    · subst b
      rw [T.ey] at g; cases g
      rw [t_p T] at k
      have two := T.S.two y (List.mem_of_getElem? T.ey)
      by_cases s : y.l = some h
      · have eb : tB h x y = x.r := by unfold tB; rw [if_pos s]
        rw [if_pos s] at k
        rcases k with k | k
        · exact .inr (.inr (.inl ⟨rfl, eb.trans k⟩))
        · refine .inr (.inr (.inr (.inl ⟨rfl, fun z => ?_, .inr k⟩)))
          subst z
          rcases two with w | w
          · rw [w] at s; cases s
          · exact w (s.trans k.symm)
      · have eb : tB h x y = x.l := by unfold tB; rw [if_neg s]
        rw [if_neg s] at k
        rcases k with k | k
        · refine .inr (.inr (.inr (.inl ⟨rfl, fun z => ?_, .inl k⟩)))
          subst z
          exact s k
        · exact .inr (.inr (.inl ⟨rfl, eb.trans k⟩))
    · unfold tOn at k
      rw [if_neg a, if_neg b] at k
      have no : ∀ {w : Nat}, (q.l = some w ∨ q.r = some w) → w ≠ h := fun {w} m z => by
        subst z
        exact b (one_up T g m T.ey T.son)
      by_cases c0 : tB h x y = some j
      · rw [if_pos c0] at k
        have k : q.l = some c ∨ q.r = some c := k
        refine .inr (.inr (.inr (.inr (.inr ⟨a, b, fun z => ?_, no k, k⟩))))
        subst z
        have := dp_son T g k
        have := tb_dp T c0
        omega
      · rw [if_neg c0] at k
        by_cases d : y.u = some j
        · rw [if_pos d] at k
          have k : rp p h q.l = some c ∨ rp p h q.r = some c := k
          have one : ∀ o, rp p h o = some c → (o = some p ∧ c = h) ∨ (o ≠ some p ∧ o = some c) := fun o m => by
            unfold rp at m
            by_cases w : o = some p
            · rw [if_pos w] at m; injection m with m; exact .inl ⟨w, m.symm⟩
            · rw [if_neg w] at m; exact .inr ⟨w, m⟩
          have fin : ∀ o, (∀ v, o = some v → q.l = some v ∨ q.r = some v) → rp p h o = some c → (c = h ∧ (q.l = some p ∨ q.r = some p)) ∨ (c ≠ p ∧ c ≠ h ∧ (q.l = some c ∨ q.r = some c)) := fun o ho m => by
            rcases one o m with ⟨m1, m2⟩ | ⟨m1, m2⟩
            · exact .inl ⟨m2, ho _ m1⟩
            · exact .inr ⟨fun z => m1 (z ▸ m2), no (ho _ m2), ho _ m2⟩
          have k : (c = h ∧ (q.l = some p ∨ q.r = some p)) ∨ (c ≠ p ∧ c ≠ h ∧ (q.l = some c ∨ q.r = some c)) := by
            rcases k with k | k
            · exact fin _ (fun v m => .inl m) k
            · exact fin _ (fun v m => .inr m) k
          rcases k with ⟨m2, m1⟩ | ⟨m1, m2, m3⟩
          · exact .inr (.inr (.inr (.inr (.inl ⟨d, m2, m1⟩))))
          · exact .inr (.inr (.inr (.inr (.inr ⟨a, b, m1, m2, m3⟩))))
        · rw [if_neg d] at k
          refine .inr (.inr (.inr (.inr (.inr ⟨a, b, fun z => ?_, no k, k⟩))))
          subst z
          obtain ⟨w, g2, u⟩ := son_row T.S g k
          rw [T.ey] at g2
          cases g2
          exact d u
theorem rot_uL {j : Nat} : (uL (rotR rs h p x y))[j]? = (rs[j]?).map fun q => tU h p x y j q.u := by
  unfold uL
  rw [List.getElem?_map, rot_get]
  cases rs[j]? with
  | none => rfl
  | some q => exact congrArg some (t_u j q)
theorem rot_par : ParR (uL (rotR rs h p x y)) := by
  have S := T.S
  have hx := dp_up T T.ex T.eu
  have lh : h < rs.length := row_lt S T.ex
  have lp : p < rs.length := row_lt S T.ey
  have up : ∀ {j i : Nat}, (uL (rotR rs h p x y))[j]? = some (some i) → ∃ q, rs[j]? = some q ∧ tU h p x y j q.u = some i := fun {j i} g => by
    rw [rot_uL T] at g
    cases z : rs[j]? with
    | none => rw [z] at g; cases g
    | some q => rw [z] at g; exact ⟨q, rfl, Option.some.inj g⟩
  refine par_rank (by rw [uL_len, rot_len]; exact S.n1) (by rw [uL_len, rot_len]; exact S.n64) (fun o ho i ei => ?_) (fun j => if j = h then 4 * dp rs p else if j = p then 4 * dp rs p + 1 else 4 * dp rs j) fun j i g => ?_
  · subst ei
    obtain ⟨j, hj⟩ := List.getElem?_of_mem ho
    obtain ⟨q, g, u⟩ := up hj
    rw [uL_len, rot_len]
    unfold tU at u
    split at u
    · exact (S.ok y (List.mem_of_getElem? T.ey)).u i u
    · split at u
      · injection u with u; omega
      · split at u
        · injection u with u; omega
        · exact (S.ok q (List.mem_of_getElem? g)).u i u
  · obtain ⟨q, gq, u⟩ := up g
    unfold tU at u
    by_cases a : j = h
    · rw [if_pos a] at u ⊢
      have := tu_dp T u
      rw [if_neg (tu_h T u), if_neg (tu_p T u)]
      omega
    · rw [if_neg a] at u ⊢
      by_cases b : j = p
      · rw [if_pos b] at u ⊢
        injection u with u
        rw [if_pos u.symm]
        omega
      · rw [if_neg b] at u ⊢
        by_cases c : tB h x y = some j
        · rw [if_pos c] at u
          injection u with u
          have := tb_dp T c
          rw [if_neg (fun z => t_hp T (z.symm.trans u.symm)), if_pos u.symm]
          omega
        · rw [if_neg c] at u
          have := dp_up T gq u
          by_cases d : i = h
          · rw [if_pos d]; subst d; omega
          · rw [if_neg d]
            by_cases f : i = p
            · rw [if_pos f]; subst f; omega
            · rw [if_neg f]; omega
theorem rot_shp : ShpR (rotR rs h p x y) := by
  have S := T.S
  have lh : h < rs.length := row_lt S T.ex
  have lp : p < rs.length := row_lt S T.ey
  have sons : ∀ {j : Nat} {q : Row}, rs[j]? = some q → ∀ c, ((tOn h p x y j q).l = some c ∨ (tOn h p x y j q).r = some c) → ∃ w, rs[c]? = some w ∧ tU h p x y c w.u = some j := fun {j q} g c k => by
    rcases t_sn T g k with ⟨a, b⟩ | ⟨a, b, c'⟩ | ⟨a, b⟩ | ⟨a, b, c'⟩ | ⟨a, b, c'⟩ | ⟨a, b, c1, c2, c'⟩
    · subst a b
      exact ⟨y, T.ey, by unfold tU; rw [if_neg (t_hp T).symm, if_pos rfl]⟩
    · subst a
      obtain ⟨w, g2, u⟩ := son_row S T.ex b
      have n1 : c ≠ j := fun z => by have := dp_son T T.ex b; rw [z] at this; omega
      have n2 : c ≠ p := fun z => by have := dp_son T T.ex b; have := dp_up T T.ex T.eu; rw [z] at *; omega
      exact ⟨w, g2, by unfold tU; rw [if_neg n1, if_neg n2, if_neg c']; exact u⟩
    · subst a
      obtain ⟨w, g2, u⟩ := son_row S T.ex (tb_son T b)
      exact ⟨w, g2, by unfold tU; rw [if_neg (tb_h T b), if_neg (tb_p T b), if_pos b]⟩
    · subst a
      obtain ⟨w, g2, u⟩ := son_row S T.ey c'
      have n2 : c ≠ j := fun z => by have := dp_son T T.ey c'; rw [z] at this; omega
      have n3 : tB h x y ≠ some c := fun z => by have := dp_son T T.ey c'; have := tb_dp T z; omega
      exact ⟨w, g2, by unfold tU; rw [if_neg b, if_neg n2, if_neg n3]; exact u⟩
    · subst b
      exact ⟨x, T.ex, by unfold tU; rw [if_pos rfl]; exact a⟩
    · obtain ⟨w, g2, u⟩ := son_row S g c'
      have n3 : tB h x y ≠ some c := fun z => a (one_up T g c' T.ex (tb_son T z))
      exact ⟨w, g2, by unfold tU; rw [if_neg c2, if_neg c1, if_neg n3]; exact u⟩
  refine shp_of ?_ ?_ ?_ (rot_par T)
  · intro q' m
    rw [rot_len]
    obtain ⟨j, hj⟩ := List.getElem?_of_mem m
    obtain ⟨q, g, rfl⟩ := rot_inv hj
    refine ⟨fun i hi => ?_, fun i hi => ?_, fun i hi => ?_⟩
    · have P := rot_par T
      have k := uL_get hj
      rw [hi] at k
      have := (get_lt P k).2
      rw [uL_len, rot_len] at this
      exact this
    · obtain ⟨w, g2, _⟩ := sons g i (.inl hi)
      exact row_lt S g2
    · obtain ⟨w, g2, _⟩ := sons g i (.inr hi)
      exact row_lt S g2
  · intro q' m
    obtain ⟨j, hj⟩ := List.getElem?_of_mem m
    obtain ⟨q, g, rfl⟩ := rot_inv hj
    have two := S.two q (List.mem_of_getElem? g)
    have twx := S.two x (List.mem_of_getElem? T.ex)
    have twy := S.two y (List.mem_of_getElem? T.ey)
    have dh := dp_up T T.ex T.eu
    unfold Row.two at *
    unfold tOn
    split
    · split
      · right
        intro z
        have := dp_son T T.ex (.inl z)
        omega
      · right
        intro z
        have z : some p = x.r := z
        have := dp_son T T.ex (.inr z.symm)
        omega
    · split
      · split
        · show x.r = none ∨ x.r ≠ y.r
          cases z : x.r with
          | none => exact .inl rfl
          | some i =>
            right
            intro z2
            have := dp_son T T.ex (.inr z)
            have := dp_son T T.ey (.inr z2.symm)
            omega
        · show y.l = none ∨ y.l ≠ x.l
          cases z : y.l with
          | none => exact .inl rfl
          | some i =>
            right
            intro z2
            have := dp_son T T.ey (.inl z)
            have := dp_son T T.ex (.inl z2.symm)
            omega
      · split
        · exact two
        · split
          · rename_i a b c d
            show rp p h q.l = none ∨ rp p h q.l ≠ rp p h q.r
            have nl : q.l ≠ some h := fun z => b (one_up T g (.inl z) T.ey T.son)
            have nr : q.r ≠ some h := fun z => b (one_up T g (.inr z) T.ey T.son)
            rcases two with w | w
            · left; rw [w]; rfl
            · right
              unfold rp
              intro z
              split at z
              · rename_i z1
                split at z
                · rename_i z2; exact w (z1.trans z2.symm)
                · exact nr z.symm
              · split at z
                · exact nl z
                · exact w z
          · exact two
  · intro j q' hj
    obtain ⟨q, g, rfl⟩ := rot_inv hj
    have key : ∀ c, ((tOn h p x y j q).l = some c ∨ (tOn h p x y j q).r = some c) → ∃ w, (rotR rs h p x y)[c]? = some w ∧ w.u = some j := fun c k => by
      obtain ⟨w, g2, u⟩ := sons g c k
      exact ⟨_, rot_some g2, by rw [t_u]; exact u⟩
    exact ⟨fun c k => key c (.inl k), fun c k => key c (.inr k)⟩
end

section
variable {rs : List Row} {h p : Nat} {x y : Row} (T : TnR rs h p x y)
include T
/-- a row that is none of the two -/
theorem t_other {j : Nat} {q : Row} (g : rs[j]? = some q) (a : j ≠ h) (b : j ≠ p) : tOn h p x y j q = ⟨tU h p x y j q.u, rp p h q.l, rp p h q.r, q.t, q.a, q.v⟩ := by
  have no : y.u ≠ some j → ∀ o, (∀ v, o = some v → q.l = some v ∨ q.r = some v) → rp p h o = o := fun d o ho => by
    unfold rp
    by_cases w : o = some p
    · obtain ⟨v, g2, u⟩ := son_row T.S g (ho p w)
      rw [T.ey] at g2
      cases g2
      exact absurd u d
    · rw [if_neg w]
  have l0 := fun d => no d q.l (fun v m => .inl m)
  have r0 := fun d => no d q.r (fun v m => .inr m)
  unfold tOn tU
  rw [if_neg a, if_neg b, if_neg a, if_neg b]
  by_cases c : tB h x y = some j
  · rw [if_pos c, if_pos c, l0 (fun d => tu_b T d c), r0 (fun d => tu_b T d c)]
  · rw [if_neg c, if_neg c]
    by_cases d : y.u = some j
    · rw [if_pos d]
    · rw [if_neg d, l0 d, r0 d]
theorem t_av (j : Nat) {q : Row} (g : rs[j]? = some q) : (tOn h p x y j q).a = q.a ∧ (tOn h p x y j q).v = q.v := by
  by_cases a : j = h
  · subst a; rw [T.ex] at g; cases g; rw [t_h T]; split <;> exact ⟨rfl, rfl⟩
  · by_cases b : j = p
    · subst b; rw [T.ey] at g; cases g; rw [t_p T]; split <;> exact ⟨rfl, rfl⟩
    · rw [t_other T g a b]; exact ⟨rfl, rfl⟩
theorem rot_A (j : Nat) : rowA (rotR rs h p x y) j = rowA rs j := by
  unfold rowA
  rw [rot_get]
  cases g : rs[j]? with
  | none => rfl
  | some q => exact (t_av T j g).1
theorem rot_V (j : Nat) : rowV (rotR rs h p x y) j = rowV rs j := by
  unfold rowV
  rw [rot_get]
  cases g : rs[j]? with
  | none => rfl
  | some q => exact (t_av T j g).2
theorem keep_p : Sn (rotR rs h p x y) h p := by
  refine ⟨_, rot_some T.ex, ?_⟩
  rw [t_h T]
  split
  · exact .inr rfl
  · exact .inl rfl
theorem keep_h {g : Nat} (k : Sn rs g p) : Sn (rotR rs h p x y) g h := by
  obtain ⟨q, gq, k⟩ := k
  have dg := dp_son T gq k
  have dh := dp_up T T.ex T.eu
  refine ⟨_, rot_some gq, ?_⟩
  rw [t_other T gq (fun z => by rw [z] at dg; omega) (fun z => by rw [z] at dg; omega)]
  unfold rp
  rcases k with k | k
  · left; show (if q.l = some p then some h else q.l) = some h; rw [if_pos k]
  · right; show (if q.r = some p then some h else q.r) = some h; rw [if_pos k]
theorem keep_o {z c : Nat} (k : Sn rs z c) (n1 : c ≠ h) (n2 : c ≠ p) : ∃ z', Sn (rotR rs h p x y) z' c := by
  obtain ⟨q, g, k⟩ := k
  by_cases a : z = h
  · subst a
    rw [T.ex] at g; cases g
    by_cases s : y.l = some z
    · rcases k with k | k
      · exact ⟨z, _, rot_some T.ex, by rw [t_h T, if_pos s]; exact .inl k⟩
      · exact ⟨p, _, rot_some T.ey, by rw [t_p T, if_pos s]; exact .inl k⟩
    · rcases k with k | k
      · exact ⟨p, _, rot_some T.ey, by rw [t_p T, if_neg s]; exact .inr k⟩
      · exact ⟨z, _, rot_some T.ex, by rw [t_h T, if_neg s]; exact .inr k⟩
  · by_cases b : z = p
    · subst b
      rw [T.ey] at g; cases g
      refine ⟨z, _, rot_some T.ey, ?_⟩
      rw [t_p T]
      by_cases s : y.l = some h
      · rw [if_pos s]
        rcases k with k | k
        · rw [s] at k; injection k with k; exact absurd k.symm n1
        · exact .inr k
      · rw [if_neg s]
        rcases k with k | k
        · exact .inl k
        · rcases T.son with w | w
          · exact absurd w s
          · rw [w] at k; injection k with k; exact absurd k.symm n1
    · refine ⟨z, _, rot_some g, ?_⟩
      rw [t_other T g a b]
      unfold rp
      rcases k with k | k
      · left; show (if q.l = some p then some h else q.l) = some c; rw [if_neg (fun w => n2 (Option.some.inj (k.symm.trans w)))]; exact k
      · right; show (if q.r = some p then some h else q.r) = some c; rw [if_neg (fun w => n2 (Option.some.inj (k.symm.trans w)))]; exact k
theorem rot_ord : ∀ z, z < rs.length → (z ≠ h → z ≠ p → ∀ b, ordT (rotR rs h p x y) z b = ordT rs z b) ∧ (z = h → ∀ c, (x.l = some c ∨ x.r = some c) → ∀ b, ordT (rotR rs h p x y) c b = ordT rs c b) ∧ (z = p → ∀ b, ordT (rotR rs h p x y) h b = ordT rs p b) := by
  have S := T.S
  have S' := rot_shp T
  refine dn_ind S _ fun z q g ih => ⟨fun a b w => ?_, fun a c k w => ?_, fun a w => ?_⟩
  · have sub : ∀ o w, (∀ c, o = some c → q.l = some c ∨ q.r = some c) → oT (rotR rs h p x y) (rp p h o) w = oT rs o w := fun o w ho => by
      unfold rp
      cases o with
      | none => rw [if_neg (by simp)]; unfold oT; rw [ordO_none, ordO_none]
      | some c =>
        by_cases d : c = p
        · rw [d, if_pos rfl]; exact (ih p (ho p (by rw [d]))).2.2 rfl w
        · rw [if_neg (fun m => d (Option.some.inj m))]
          have nh : c ≠ h := fun m => b (one_up T g (ho c rfl) T.ey (m ▸ T.son))
          exact (ih c (ho c rfl)).1 nh d w
    have g' := rot_some (h := h) (p := p) (x := x) (y := y) g
    rw [t_other T g a b] at g'
    rw [ordT_eq S' g', ordT_eq S g]
    have s1 := sub q.l (w != q.t) (fun v m => .inl m)
    have s2 := sub q.r (w != q.t) (fun v m => .inr m)
    show oT _ (if (w != q.t) = true then rp p h q.r else rp p h q.l) (w != q.t) ++ [z] ++ oT _ (if (w != q.t) = true then rp p h q.l else rp p h q.r) (w != q.t) = _
    cases m : (w != q.t) <;> rw [m] at s1 s2 <;> simp [s1, s2]
  · subst a
    rw [T.ex] at g; cases g
    have d1 := dp_son T T.ex k
    have d2 := dp_up T T.ex T.eu
    exact (ih c k).1 (fun m => by rw [m] at d1; omega) (fun m => by rw [m] at d1; omega) w
  · subst a
    rw [T.ey] at g; cases g
    have two := S.two y (List.mem_of_getElem? T.ey)
    have xs : ∀ o b, (∀ c, o = some c → x.l = some c ∨ x.r = some c) → oT (rotR rs h z x y) o b = oT rs o b := fun o b ho => by
      cases o with
      | none => unfold oT; rw [ordO_none, ordO_none]
      | some c => exact (ih h T.son).2.1 rfl c (ho c rfl) b
    have ys : ∀ o b, (∀ c, o = some c → (y.l = some c ∨ y.r = some c) ∧ c ≠ h) → oT (rotR rs h z x y) o b = oT rs o b := fun o b ho => by
      cases o with
      | none => unfold oT; rw [ordO_none, ordO_none]
      | some c =>
        have d1 := dp_son T T.ey (ho c rfl).1
        exact (ih c (ho c rfl).1).1 (ho c rfl).2 (fun m => by rw [m] at d1; omega) b
    have gx := rot_some (h := h) (p := z) (x := x) (y := y) T.ex
    have gy := rot_some (h := h) (p := z) (x := x) (y := y) T.ey
    rw [t_h T] at gx
    rw [t_p T] at gy
    have x1 := xs x.l w (fun c m => .inl m)
    have x2 := xs x.r w (fun c m => .inr m)
    have ex := ordT_eq S T.ex w
    have ey := ordT_eq S T.ey w
    rw [T.xt] at ex
    rw [T.yt] at ey
    by_cases s : y.l = some h
    · rw [if_pos s] at gx gy
      have y2 := ys y.r w (fun c m => ⟨.inr m, fun v => by
        rcases two with u | u
        · rw [u] at s; cases s
        · rw [v] at m; exact u (s.trans m.symm)⟩)
      have ex' := ordT_eq S' gx w
      have ey' := ordT_eq S' gy w
      simp only [T.xt, T.yt, Bool.bne_false] at ex' ey' ex ey
      rw [ex', ey]
      rw [s]
      have op : oT (rotR rs h z x y) (some z) w = ordT (rotR rs h z x y) z w := rfl
      have oh : oT rs (some h) w = ordT rs h w := rfl
      cases w <;> simp only [if_true, Bool.false_eq_true, if_false] at * <;> rw [op, oh, ey', ex, x1, x2, y2] <;> simp
    · have s2 : y.r = some h := by
        rcases T.son with u | u
        · exact absurd u s
        · exact u
      rw [if_neg s] at gx gy
      have y2 := ys y.l w (fun c m => ⟨.inl m, fun v => by rw [v] at m; exact s m⟩)
      have ex' := ordT_eq S' gx w
      have ey' := ordT_eq S' gy w
      simp only [T.xt, T.yt, Bool.bne_false] at ex' ey' ex ey
      rw [ex', ey]
      rw [s2]
      have op : oT (rotR rs h z x y) (some z) w = ordT (rotR rs h z x y) z w := rfl
      have oh : oT rs (some h) w = ordT rs h w := rfl
      cases w <;> simp only [if_true, Bool.false_eq_true, if_false] at * <;> rw [op, oh, ey', ex, x1, x2, y2] <;> simp
theorem not_son {rs : List Row} (S : ShpR rs) {c : Nat} (hc : c < rs.length) (k : ∀ z, ¬ Sn rs z c) : isSon rs c = false := by
  cases w : isSon rs c with
  | false => rfl
  | true =>
    have a := sL_get hc
    rw [w, if_pos rfl] at a
    cases m : stepP (uL rs) c with
    | some z => rw [m] at a; exact absurd ((sn_edge S).mpr a) (k z)
    | none =>
      rw [m] at a
      rw [(root_iff_son S hc).mp a] at w; cases w
theorem son_not {rs : List Row} (S : ShpR rs) {c : Nat} (hc : c < rs.length) (k : isSon rs c = false) (z : Nat) : ¬ Sn rs z c := fun m => by
  have a := (sn_edge S).mp m
  rw [(root_iff_son S hc).mpr k] at a; cases a
theorem rot_tldP : tldP (rotR rs h p x y) = tldP rs := by
  have S := T.S
  have S' := rot_shp T
  unfold tldP
  rw [rot_len]
  refine List.map_congr_left fun z mz => ?_
  have hz := List.mem_range.mp mz
  have hz' : z < (rotR rs h p x y).length := by rw [rot_len]; exact hz
  obtain ⟨h1, h2⟩ := tp_top S' hz'
  have mo := (tp_mem S' h1 hz').mpr rfl
  generalize tp (rotR rs h p x y) z = t at h1 h2 mo ⊢
  obtain ⟨lt, ns⟩ := tops_in.mp h1
  have no := son_not T S' lt ns
  rw [rot_len] at lt
  have lp : p < rs.length := row_lt S T.ey
  have fin : ∀ t0, t0 < rs.length → isSon rs t0 = false → ordT (rotR rs h p x y) t false = ordT rs t0 false → rowU (rotR rs h p x y) t = rowU rs t0 → predIn (rowU (rotR rs h p x y) t) (ordT (rotR rs h p x y) t false) z = predIn (rowU rs (tp rs z)) (ordT rs (tp rs z) false) z := fun t0 l0 n0 e1 e2 => by
    rw [e1] at mo
    have ht := tops_in.mpr ⟨l0, n0⟩
    rw [(tp_mem S ht hz).mp mo, e1, e2]
  have ru : ∀ (qs : List Row) j q, qs[j]? = some q → rowU qs j = q.u := fun qs j q e => by
    unfold rowU stepP
    rw [uL_get e]
  by_cases a : t = h
  · subst a
    refine fin p lp (not_son T S lp fun g k => no g (keep_h T k)) ((rot_ord T p lp).2.2 rfl false) ?_
    rw [ru _ _ _ (rot_some T.ex), ru _ _ _ T.ey, t_u]
    unfold tU; rw [if_pos rfl]
  · by_cases b : t = p
    · subst b; exact absurd (keep_p T) (no h)
    · have n0 : ∀ g, ¬ Sn rs g t := fun g k => by
        obtain ⟨z', k'⟩ := keep_o T k a b
        exact no z' k'
      obtain ⟨q, g⟩ : ∃ q, rs[t]? = some q := ⟨rs[t], by simp [lt]⟩
      refine fin t lt (not_son T S lt n0) ((rot_ord T t lt).1 a b false) ?_
      rw [ru _ _ _ (rot_some g), ru _ _ _ g, t_u]
      unfold tU
      rw [if_neg a, if_neg b, if_neg (fun m => n0 h ⟨x, T.ex, tb_son T m⟩)]
theorem rot_aw : ∀ z, z < (sL (rotR rs h p x y)).length → aw (rotR rs h p x y) z = aw rs z := by
  have S := T.S
  have S' := rot_shp T
  have Ah : rowA rs h = 0 := by unfold rowA; rw [T.ex]; exact T.xa
  have Ap : rowA rs p = 0 := by unfold rowA; rw [T.ey]; exact T.ya
  have hp := aw_edge S (son_edge S T.ey T.son)
  rw [Ap] at hp
  refine U_ind (sL_par S') _ (fun c hc g => ?_) fun c z hc hz g ih => ?_
  · rw [sL_len] at hc
    have no := son_not T S' hc ((root_iff_son S' hc).mp g)
    rw [rot_len] at hc
    rw [aw_root S' g]
    have rt : ∀ c, c < rs.length → (∀ z, ¬ Sn rs z c) → aw rs c = 0 := fun c hc k => aw_root S ((root_iff_son S hc).mpr (not_son T S hc k))
    by_cases a : c = h
    · subst a
      have := rt p (row_lt S T.ey) fun g k => no g (keep_h T k)
      omega
    · by_cases b : c = p
      · subst b; exact absurd (keep_p T) (no h)
      · exact (rt c hc fun g k => by
          obtain ⟨z', k'⟩ := keep_o T k a b
          exact no z' k').symm
  · rw [aw_edge S' g, rot_A T, ih]
    obtain ⟨q', gq, k⟩ := edge_son S' g
    obtain ⟨q, gz, rfl⟩ := rot_inv gq
    rcases t_sn T gz k with ⟨a, b⟩ | ⟨a, b, c'⟩ | ⟨a, b⟩ | ⟨a, b, c'⟩ | ⟨a, b, c'⟩ | ⟨a, b, c1, c2, c'⟩
    · subst a b; omega
    · subst a; exact (aw_edge S (son_edge S T.ex b)).symm
    · subst a
      have := aw_edge S (son_edge S T.ex (tb_son T b))
      omega
    · subst a; exact (aw_edge S (son_edge S T.ey c')).symm
    · subst b
      have := aw_edge S (son_edge S gz c')
      omega
    · exact (aw_edge S (son_edge S gz c')).symm
theorem rot_tldW : tldW (rotR rs h p x y) = tldW rs := by
  unfold tldW
  rw [rot_len]
  refine List.map_congr_left fun z mz => ?_
  have hz := List.mem_range.mp mz
  rw [wr_aw, wr_aw, rot_V T, rot_aw T z (by rw [sL_len, rot_len]; exact hz)]
end
/-- how many come to a house by going up -/
def wt (rs : List Row) (z : Nat) : Nat := ((List.range rs.length).filter fun j => decide (z ∈ U (uL rs) j)).length
section
variable {rs : List Row} {h p : Nat} {x y : Row} (T : TnR rs h p x y)
include T
theorem rot_in : ∀ j, j < (uL (rotR rs h p x y)).length → (∀ z, z ≠ h → z ≠ p → (z ∈ U (uL (rotR rs h p x y)) j ↔ z ∈ U (uL rs) j)) ∧ (h ∈ U (uL (rotR rs h p x y)) j ↔ p ∈ U (uL rs) j) := by
  have S := T.S
  have P := uL_par S
  have P' := rot_par T
  have ux := uL_get T.ex
  have uy := uL_get T.ey
  rw [T.eu] at ux
  have eh := U_edge P ux
  have pp : p ∈ U (uL rs) p := upP_in _ _ _
  have get : ∀ {j o}, (uL (rotR rs h p x y))[j]? = some o → ∃ q, rs[j]? = some q ∧ tU h p x y j q.u = o := fun {j o} g => by
    rw [rot_uL T] at g
    cases z : rs[j]? with
    | none => rw [z] at g; cases g
    | some q => rw [z] at g; exact ⟨q, rfl, Option.some.inj g⟩
  refine U_ind P' _ (fun j hj g => ?_) fun j i hj hi g ih => ?_
  · obtain ⟨q, gq, u⟩ := get g
    rw [U_nil P' g]
    unfold tU at u
    split at u
    · rename_i a
      subst a
      rw [u] at uy
      rw [eh, U_nil P uy]
      refine ⟨fun z a b => ?_, by simp⟩
      simp [a, b]
    · split at u
      · cases u
      · split at u
        · cases u
        · rename_i a b c
          have k := uL_get gq
          rw [u] at k
          rw [U_nil P k]
          refine ⟨fun z _ _ => Iff.rfl, ?_⟩
          simp [Ne.symm a, Ne.symm b]
  · obtain ⟨q, gq, u⟩ := get g
    rw [U_edge P' g]
    unfold tU at u
    split at u
    · rename_i a
      subst a
      rw [u] at uy
      rw [eh, U_edge P uy]
      refine ⟨fun z a b => ?_, by simp⟩
      simp [a, b, ih.1 z a b]
    · split at u
      · rename_i a b
        subst b
        injection u with u
        subst u
        refine ⟨fun z a b => ?_, ?_⟩
        · have k := ih.1 z a b
          rw [eh] at k
          simp only [List.mem_cons, a, b, false_or] at k ⊢
          exact k
        · have k := ih.2
          rw [eh] at k
          simp only [List.mem_cons, pp, or_true, iff_true] at k ⊢
          exact .inr k
      · split at u
        · rename_i a b c
          injection u with u
          subst u
          have uj := uL_get T.ex
          have k1 : (uL rs)[j]? = some (some h) := by
            obtain ⟨w, g2, v⟩ := son_row S T.ex (tb_son T c)
            rw [uL_get g2, v]
          rw [U_edge P k1, eh]
          refine ⟨fun z a b => ?_, ?_⟩
          · have k := ih.1 z a b
            simp only [List.mem_cons, a, false_or] at k ⊢
            rw [k]
          · have k := ih.2
            simp only [List.mem_cons, pp, or_true, iff_true] at k ⊢
            exact .inr k
        · rename_i a b c
          have k1 := uL_get gq
          rw [u] at k1
          rw [U_edge P k1]
          refine ⟨fun z a b => ?_, ?_⟩
          · have k := ih.1 z a b
            simp only [List.mem_cons] at k ⊢
            rw [k]
          · have k := ih.2
            simp only [List.mem_cons, Ne.symm a, Ne.symm b, false_or] at k ⊢
            exact k
theorem rot_wt : (∀ z, z ≠ h → z ≠ p → wt (rotR rs h p x y) z = wt rs z) ∧ wt (rotR rs h p x y) h = wt rs p := by
  have key : ∀ a b, (∀ j, j < rs.length → (a ∈ U (uL (rotR rs h p x y)) j ↔ b ∈ U (uL rs) j)) → wt (rotR rs h p x y) a = wt rs b := fun a b k => by
    unfold wt
    rw [rot_len]
    congr 1
    refine List.filter_congr fun j hj => ?_
    have := k j (List.mem_range.mp hj)
    simp [this]
  have R := fun j hj => rot_in T j (by rw [uL_len, rot_len]; exact hj)
  exact ⟨fun z a b => key z z fun j hj => (R j hj).1 z a b, key h p fun j hj => (R j hj).2⟩
end
theorem hand_wt {rs : List Row} {h : Nat} {r : Row} (e : rs[h]? = some r) (z : Nat) : wt (handR rs h) z = wt rs z := by
  unfold wt
  rw [hand_len e, hand_uL e]
/-- what a turn makes -/
def turnR (rs : List Row) (h : Nat) : List Row := match rowU rs h with
  | some p => (match (handR (handR rs p) h)[h]?, (handR (handR rs p) h)[p]? with
    | some x, some y => rotR (handR (handR rs p) h) h p x y
    | _, _ => rs)
  | none => rs
theorem turn_get {rs : List Row} (S : ShpR rs) {h : Nat} (hh : h < rs.length) (z : isSon rs h = true) : ∃ p x y, rowU rs h = some p ∧ p < rs.length ∧ TnR (handR (handR rs p) h) h p x y ∧ turnR rs h = rotR (handR (handR rs p) h) h p x y := by
  obtain ⟨p, g⟩ : ∃ p, (sL rs)[h]? = some (some p) := by
    have g := sL_get hh
    cases q : (sL rs)[h]? with
    | none => rw [g] at q; cases q
    | some o =>
      cases o with
      | none => rw [(root_iff_son S hh).mp q] at z; cases z
      | some p => exact ⟨p, rfl⟩
  obtain ⟨y0, e0, k0⟩ := edge_son S g
  have hp : p < rs.length := row_lt S e0
  have S1 := hand_shp S e0
  have e1 : (handR rs p)[p]? = some (hOn y0 p p y0) := hand_some e0 e0
  obtain ⟨x0, f0⟩ : ∃ x0, rs[h]? = some x0 := ⟨rs[h], by simp [hh]⟩
  have hnp : h ≠ p := not_own S e0 (sg_iff.mpr k0)
  have f1 : (handR rs p)[h]? = some (hOn y0 p h x0) := hand_some e0 f0
  have S2 := hand_shp S1 f1
  have f2 : (handR (handR rs p) h)[h]? = some (hOn (hOn y0 p h x0) h h (hOn y0 p h x0)) := hand_some f1 f1
  have e2 : (handR (handR rs p) h)[p]? = some (hOn (hOn y0 p h x0) h p (hOn y0 p p y0)) := hand_some f1 e1
  have ux : x0.u = some p := by
    obtain ⟨w, g2, u⟩ := son_row S e0 k0
    rw [f0] at g2; cases g2; exact u
  have k1 := (hOn_sn e0 e0).mpr k0
  have ns : sg (hOn y0 p h x0) p = false := by
    cases w : sg (hOn y0 p h x0) p with
    | false => rfl
    | true =>
      have a := (child_len S1 f1 (sg_iff.mp w)).2
      have b := (child_len S1 e1 k1).2
      omega
  have eq : hOn (hOn y0 p h x0) h p (hOn y0 p p y0) = hOn y0 p p y0 := by
    exact hOn_ne hnp.symm ns
  rw [eq] at e2
  refine ⟨p, _, _, by rw [rowU_get f0]; exact ux, hp, ⟨S2, f2, e2, ?_, k1, ?_, ?_, ?_, ?_⟩, ?_⟩
  · rw [hOn_u f1 f1, hOn_u e0 f0]; exact ux
  · unfold hOn; rw [if_pos rfl]
  · unfold hOn; rw [if_pos rfl]
  · unfold hOn; rw [if_pos rfl]
  · unfold hOn; rw [if_pos rfl]
  · unfold turnR
    rw [rowU_get f0, ux]
    dsimp only
    rw [f2, e2]
theorem turn_facts {rs : List Row} (S : ShpR rs) {h p : Nat} (hh : h < rs.length) (z : isSon rs h = true) (u : rowU rs h = some p) : ShpR (turnR rs h) ∧ (turnR rs h).length = rs.length ∧ tldP (turnR rs h) = tldP rs ∧ tldW (turnR rs h) = tldW rs ∧ (∀ j, j ≠ h → j ≠ p → wt (turnR rs h) j = wt rs j) ∧ wt (turnR rs h) h = wt rs p := by
  obtain ⟨p', x, y, u', hp, T, e⟩ := turn_get S hh z
  rw [u] at u'; cases u'
  obtain ⟨y0, e0⟩ : ∃ y0, rs[p]? = some y0 := ⟨rs[p], by simp [hp]⟩
  have S1 := hand_shp S e0
  obtain ⟨x1, f1⟩ : ∃ x1, (handR rs p)[h]? = some x1 := ⟨(handR rs p)[h]'(by rw [hand_len e0]; exact hh), by simp [hand_len e0, hh]⟩
  obtain ⟨w1, w2⟩ := rot_wt T
  rw [e]
  exact ⟨rot_shp T, by rw [rot_len, hand_len f1, hand_len e0], by rw [rot_tldP T, hand_tldP S1 f1, hand_tldP S e0], by rw [rot_tldW T, hand_tldW S1 f1, hand_tldW S e0], fun j a b => by rw [w1 j a b, hand_wt f1, hand_wt e0], by rw [w2, hand_wt f1, hand_wt e0]⟩

/-! ### counting who comes by -/
def sm : Nat → (Nat → Nat) → Nat
  | 0, _ => 0
  | n + 1, f => sm n f + f n
theorem sm_congr {f g : Nat → Nat} : ∀ n, (∀ c, c < n → f c = g c) → sm n f = sm n g
  | 0, _ => rfl
  | n + 1, h => by unfold sm; rw [sm_congr n fun c hc => h c (by omega), h n (by omega)]
theorem sm_add (f g : Nat → Nat) : ∀ n, sm n (fun c => f c + g c) = sm n f + sm n g
  | 0 => rfl
  | n + 1 => by
    show sm n (fun c => f c + g c) + (f n + g n) = (sm n f + f n) + (sm n g + g n)
    rw [sm_add f g n]; omega
theorem sm_zero : ∀ n, sm n (fun _ => 0) = 0
  | 0 => rfl
  | n + 1 => by
    show sm n (fun _ => 0) + 0 = 0
    rw [sm_zero n]
theorem sm_swap (f : Nat → Nat → Nat) (m : Nat) : ∀ n, sm n (fun a => sm m (fun b => f a b)) = sm m (fun b => sm n (fun a => f a b))
  | 0 => (sm_zero m).symm
  | n + 1 => by
    show sm n (fun a => sm m fun b => f a b) + sm m (fun b => f n b) = sm m (fun b => sm n (fun a => f a b) + f n b)
    rw [sm_swap f m n, ← sm_add]
theorem sm_one (k : Nat → Nat) (j : Nat) : ∀ n, sm n (fun c => if c = j then k c else 0) = if j < n then k j else 0
  | 0 => by simp [sm]
  | n + 1 => by
    show sm n (fun c => if c = j then k c else 0) + (if n = j then k n else 0) = _
    rw [sm_one k j n]
    by_cases h : n = j
    · subst h; simp
    · rw [if_neg h]
      by_cases h2 : j < n
      · rw [if_pos h2, if_pos (by omega)]; omega
      · rw [if_neg h2, if_neg (by omega)]
theorem sm_nil {f : Nat → Nat} : ∀ {n}, sm n f = 0 → ∀ c, c < n → f c = 0
  | 0, _, c, h => by omega
  | n + 1, e, c, h => by
    unfold sm at e
    by_cases z : c = n
    · subst z; omega
    · exact sm_nil (n := n) (by omega) c (by omega)
theorem sm_some {f : Nat → Nat} : ∀ {n}, sm n f ≠ 0 → ∃ c, c < n ∧ f c ≠ 0
  | 0, e => absurd rfl e
  | n + 1, e => by
    unfold sm at e
    by_cases z : f n = 0
    · obtain ⟨c, h1, h2⟩ := sm_some (n := n) (f := f) (by omega)
      exact ⟨c, by omega, h2⟩
    · exact ⟨n, by omega, z⟩
theorem sm_upd {f g : Nat → Nat} {x : Nat} : ∀ {n}, x < n → (∀ c, c ≠ x → g c = f c) → sm n g + f x = sm n f + g x
  | 0, h, _ => by omega
  | n + 1, h, e => by
    unfold sm
    by_cases z : x = n
    · subst z
      rw [sm_congr (f := g) (g := f) x fun c hc => e c (by omega)]
      omega
    · have := sm_upd (n := n) (f := f) (g := g) (x := x) (by omega) e
      rw [e n (Ne.symm z)]
      omega
theorem sm_filter (p : Nat → Bool) : ∀ n, ((List.range n).filter p).length = sm n fun j => if p j = true then 1 else 0
  | 0 => rfl
  | n + 1 => by
    rw [List.range_succ, List.filter_append, List.length_append, sm_filter p n]
    show _ = sm n _ + (if p n = true then 1 else 0)
    cases h : p n <;> simp [h]
def ch (ps : List (Option Nat)) (z c : Nat) : Bool := decide (ps[c]? = some (some z))
theorem ch_iff {ps : List (Option Nat)} {z c : Nat} : ch ps z c = true ↔ ps[c]? = some (some z) := by unfold ch; simp
section
variable {ps : List (Option Nat)} (P : ParR ps)
include P
theorem in_rec (z : Nat) : ∀ j, j < ps.length → (if z ∈ U ps j then 1 else 0) = (if j = z then 1 else 0) + sm ps.length (fun c => if ch ps z c = true then (if c ∈ U ps j then 1 else 0) else 0) := by
  refine U_ind P _ (fun j hj e => ?_) fun j p hj hp e ih => ?_
  · rw [U_nil P e, sm_congr (g := fun _ => 0) _ (fun c hc => ?_), sm_zero]
    · by_cases h : j = z
      · subst h; simp
      · rw [if_neg h, if_neg (by simpa using Ne.symm h)]
    · by_cases h : ch ps z c = true
      · rw [if_pos h]
        have h := ch_iff.mp h
        rw [if_neg]
        intro m
        rw [List.mem_singleton] at m
        subst m
        rw [e] at h; cases h
      · rw [if_neg h]
  · have nj := U_notin P e
    have sp : ∀ c, (if ch ps z c = true then (if c ∈ U ps j then 1 else 0) else 0) = (if c = j then (if p = z then 1 else 0) else 0) + (if ch ps z c = true then (if c ∈ U ps p then 1 else 0) else 0) := fun c => by
      rw [U_edge P e]
      by_cases h : c = j
      · subst h
        by_cases g : p = z
        · subst g
          have y : ch ps p c = true := ch_iff.mpr e
          simp [y, nj]
        · have y : ch ps z c = false := by
            cases w : ch ps z c with
            | false => rfl
            | true =>
              have k := ch_iff.mp w
              rw [e] at k
              exact absurd (Option.some.inj (Option.some.inj k)) g
          simp [y, g]
      · simp [h]
    rw [sm_congr (g := _) _ (fun c _ => sp c), sm_add, sm_one (fun _ => if p = z then 1 else 0), if_pos hj]
    rw [U_edge P e]
    by_cases h : j = z
    · subst h
      have k1 := ih
      rw [if_neg nj] at k1
      rw [if_pos rfl, if_pos (by simp)]
      omega
    · have : (if z ∈ j :: U ps p then 1 else 0) = (if z ∈ U ps p then 1 else 0) := by simp [Ne.symm h]
      rw [this, ih, if_neg h]
      omega
end
section
variable {rs : List Row} (S : ShpR rs)
theorem wt_sm (rs : List Row) (z : Nat) : wt rs z = sm rs.length fun j => if z ∈ U (uL rs) j then 1 else 0 := by
  unfold wt
  rw [sm_filter]
  exact sm_congr _ fun c _ => by simp
include S
theorem wt_rec {z : Nat} (hz : z < rs.length) : wt rs z = 1 + sm rs.length fun c => if ch (uL rs) z c = true then wt rs c else 0 := by
  have P := uL_par S
  have k : ∀ j, j < rs.length → (if z ∈ U (uL rs) j then 1 else 0) = (if j = z then 1 else 0) + sm rs.length (fun c => if ch (uL rs) z c = true then (if c ∈ U (uL rs) j then 1 else 0) else 0) := fun j hj => by
    have := in_rec P z j (by rw [uL_len]; exact hj)
    rw [uL_len] at this
    exact this
  rw [wt_sm, sm_congr _ k, sm_add, sm_one (fun _ => 1), if_pos hz, sm_swap]
  congr 1
  refine sm_congr _ fun c hc => ?_
  by_cases h : ch (uL rs) z c = true
  · simp only [if_pos h]; exact (wt_sm rs c).symm
  · simp only [if_neg h]; exact sm_zero _
end
/-- what is found, and what is left, when these are done -/
def fnd (rs : List Row) (dn : Nat → Bool) (z : Nat) : Nat := 1 + sm rs.length fun c => if ch (uL rs) z c = true then (if dn c = true then wt rs c else 0) else 0
def lft (rs : List Row) (dn : Nat → Bool) (z : Nat) : Nat := sm rs.length fun c => if ch (uL rs) z c = true then (if dn c = true then 0 else 1) else 0
def udn (rs : List Row) (dn : Nat → Bool) : Nat := sm rs.length fun c => if dn c = true then 0 else 1
def dset (dn : Nat → Bool) (x : Nat) : Nat → Bool := fun c => if c = x then true else dn c
structure Kn (rs : List Row) (dn : Nat → Bool) (rd : List Nat) : Prop where
  nd : rd.Nodup
  inn : ∀ x, x ∈ rd ↔ x < rs.length ∧ dn x = false ∧ lft rs dn x = 0
  dz : ∀ x, x < rs.length → dn x = true → lft rs dn x = 0
section
variable {rs : List Row} (S : ShpR rs) {dn : Nat → Bool}
include S
theorem fnd_all {z : Nat} (hz : z < rs.length) (h : lft rs dn z = 0) : fnd rs dn z = wt rs z := by
  rw [wt_rec S hz]
  unfold fnd
  congr 1
  refine sm_congr _ fun c hc => ?_
  have := sm_nil h c hc
  by_cases k : ch (uL rs) z c = true
  · simp only [if_pos k] at this ⊢
    by_cases d : dn c = true
    · rw [if_pos d]
    · rw [if_neg d] at this; cases this
  · simp only [if_neg k]
theorem kn_end (K : Kn rs dn []) : ∀ z, z < rs.length → dn z = true := by
  have P := uL_par S
  have key : ∀ k z, z < rs.length → 67 ≤ dp rs z + k → dn z = true := by
    intro k
    induction k with
    | zero =>
      intro z hz h
      have := U_len (uL rs) z
      rw [uL_len] at this
      have := S.n64
      unfold dp at h
      omega
    | succ k ih =>
      intro z hz h
      cases d : dn z with
      | true => rfl
      | false =>
        have l0 : lft rs dn z ≠ 0 := fun l => by
          have := (K.inn z).mpr ⟨hz, d, l⟩
          cases this
        obtain ⟨c, hc, k2⟩ := sm_some l0
        by_cases g : ch (uL rs) z c = true
        · simp only [if_pos g] at k2
          have e := U_edge P (ch_iff.mp g)
          have : dn c = true := ih c hc (by
            unfold dp at h ⊢
            rw [e, List.length_cons]; omega)
          rw [if_pos this] at k2
          exact absurd rfl k2
        · simp only [if_neg g] at k2
          exact absurd rfl k2
  exact fun z hz => key 67 z hz (by omega)
omit S in
theorem fnd_set {x : Nat} (hx : x < rs.length) (d : dn x = false) (z : Nat) : fnd rs (dset dn x) z = fnd rs dn z + if ch (uL rs) z x = true then wt rs x else 0 := by
  have := sm_upd (n := rs.length) (x := x) (f := fun c => if ch (uL rs) z c = true then (if dn c = true then wt rs c else 0) else 0) (g := fun c => if ch (uL rs) z c = true then (if dset dn x c = true then wt rs c else 0) else 0) hx (fun c hc => by unfold dset; simp only [if_neg hc])
  unfold fnd
  have e1 : dset dn x x = true := by unfold dset; rw [if_pos rfl]
  simp only [d, e1, if_true, Bool.false_eq_true, if_false, ite_self] at this
  omega
omit S in
theorem lft_set {x : Nat} (hx : x < rs.length) (d : dn x = false) (z : Nat) : lft rs dn z = lft rs (dset dn x) z + if ch (uL rs) z x = true then 1 else 0 := by
  have := sm_upd (n := rs.length) (x := x) (f := fun c => if ch (uL rs) z c = true then (if dn c = true then 0 else 1) else 0) (g := fun c => if ch (uL rs) z c = true then (if dset dn x c = true then 0 else 1) else 0) hx (fun c hc => by unfold dset; simp only [if_neg hc])
  unfold lft
  have e1 : dset dn x x = true := by unfold dset; rw [if_pos rfl]
  simp only [d, e1, if_true, Bool.false_eq_true, if_false, ite_self] at this
  omega
omit S in
theorem udn_set {x : Nat} (hx : x < rs.length) (d : dn x = false) : udn rs dn = udn rs (dset dn x) + 1 := by
  have := sm_upd (n := rs.length) (x := x) (f := fun c => if dn c = true then 0 else 1) (g := fun c => if dset dn x c = true then 0 else 1) hx (fun c hc => by unfold dset; simp only [if_neg hc])
  unfold udn
  have e1 : dset dn x x = true := by unfold dset; rw [if_pos rfl]
  simp only [d, e1, if_true, Bool.false_eq_true, if_false] at this
  omega
/-- one more is done -/
theorem kn_pop {A : List Nat} {x : Nat} (K : Kn rs dn (A ++ [x])) : x < rs.length ∧ dn x = false ∧ lft rs dn x = 0 ∧ (rowU rs x = none → Kn rs (dset dn x) A ∧ (∀ z, fnd rs (dset dn x) z = fnd rs dn z) ∧ ∀ z, lft rs (dset dn x) z = lft rs dn z) ∧ ∀ p, rowU rs x = some p → p < rs.length ∧ p ≠ x ∧ fnd rs (dset dn x) p = fnd rs dn p + wt rs x ∧ lft rs dn p = lft rs (dset dn x) p + 1 ∧ (∀ z, z ≠ p → fnd rs (dset dn x) z = fnd rs dn z ∧ lft rs (dset dn x) z = lft rs dn z) ∧ (lft rs (dset dn x) p = 0 → Kn rs (dset dn x) (A ++ [p])) ∧ (lft rs (dset dn x) p ≠ 0 → Kn rs (dset dn x) A) := by
  have P := uL_par S
  obtain ⟨hx, d, l⟩ := (K.inn x).mp (by simp)
  obtain ⟨nA, _, nx⟩ := List.nodup_append.mp K.nd
  have nxA : x ∉ A := fun m => nx x m x (by simp) rfl
  have g := step_get (ps := uL rs) (h := x) (by rw [uL_len]; exact hx)
  have ds : ∀ c, c ≠ x → dset dn x c = dn c := fun c h => by unfold dset; rw [if_neg h]
  have dx : dset dn x x = true := by unfold dset; rw [if_pos rfl]
  refine ⟨hx, d, l, fun u => ?_, fun p u => ?_⟩
  · rw [show stepP (uL rs) x = none from u] at g
    have no : ∀ z, ¬ ch (uL rs) z x = true := fun z k => by rw [ch_iff.mp k] at g; cases g
    have ef : ∀ z, fnd rs (dset dn x) z = fnd rs dn z := fun z => by rw [fnd_set hx d, if_neg (no z)]; rfl
    have el : ∀ z, lft rs (dset dn x) z = lft rs dn z := fun z => by rw [lft_set hx d z, if_neg (no z)]; rfl
    refine ⟨⟨nA, fun y => ?_, fun y hy k => ?_⟩, ef, el⟩
    · rw [el]
      by_cases h : y = x
      · subst h
        rw [dx]
        simp [nxA]
      · rw [ds y h, ← K.inn y]
        simp [h]
    · rw [el]
      by_cases h : y = x
      · rw [h]; exact l
      · rw [ds y h] at k; exact K.dz y hy k
  · rw [show stepP (uL rs) x = some p from u] at g
    have hp := (get_lt P g).2
    rw [uL_len] at hp
    have px : p ≠ x := fun z => by
      have := U_edge P g
      rw [z] at this
      have := congrArg List.length this
      rw [List.length_cons] at this
      omega
    have yes : ch (uL rs) p x = true := ch_iff.mpr g
    have no : ∀ z, z ≠ p → ¬ ch (uL rs) z x = true := fun z h k => by
      have k := ch_iff.mp k
      rw [g] at k
      exact h (Option.some.inj (Option.some.inj k)).symm
    have lp := lft_set (dn := dn) hx d p
    rw [if_pos yes] at lp
    have fp := fnd_set (dn := dn) hx d p
    rw [if_pos yes] at fp
    have oth : ∀ z, z ≠ p → fnd rs (dset dn x) z = fnd rs dn z ∧ lft rs (dset dn x) z = lft rs dn z := fun z h => by
      have a := lft_set (dn := dn) hx d z
      have b := fnd_set (dn := dn) hx d z
      rw [if_neg (no z h)] at a b
      omega
    have dp0 : dn p = false := by
      cases k : dn p with
      | false => rfl
      | true => have := K.dz p hp k; omega
    have pA : p ∉ A := fun m => by
      have := ((K.inn p).mp (List.mem_append_left _ m)).2.2
      omega
    have dzz : ∀ y, y < rs.length → dset dn x y = true → lft rs (dset dn x) y = 0 := fun y hy k => by
      by_cases h : y = x
      · rw [h, (oth x px.symm).2]; exact l
      · rw [ds y h] at k
        have := K.dz y hy k
        have yp : y ≠ p := fun z => by rw [z, dp0] at k; cases k
        rw [(oth y yp).2]; exact this
    have mem : ∀ y, y ≠ p → (y ∈ A ↔ y < rs.length ∧ dset dn x y = false ∧ lft rs (dset dn x) y = 0) := fun y yp => by
      rw [(oth y yp).2]
      by_cases h : y = x
      · subst h
        rw [dx]
        simp [nxA]
      · rw [ds y h, ← K.inn y]
        simp [h]
    refine ⟨hp, px, fp, lp, oth, fun z0 => ⟨?_, fun y => ?_, dzz⟩, fun z0 => ⟨nA, fun y => ?_, dzz⟩⟩
    · rw [List.nodup_append]
      exact ⟨nA, by simp, fun a ma b mb e => by rw [List.mem_singleton] at mb; subst mb e; exact pA ma⟩
    · by_cases yp : y = p
      · subst yp
        rw [ds y px]
        simp [hp, dp0, z0]
      · rw [← mem y yp]
        simp [yp]
    · by_cases yp : y = p
      · subst yp
        simp [pA, z0]
      · exact mem y yp
end
theorem set_range {α : Type} {n p : Nat} {f g : Nat → α} (h : ∀ z, z < n → z ≠ p → g z = f z) : ((List.range n).map f).set p (g p) = (List.range n).map g := by
  apply List.ext_getElem?
  intro z
  by_cases hz : z < n
  · by_cases e : p = z
    · subst e; simp [hz]
    · rw [List.getElem?_set_ne e, List.getElem?_map, List.getElem?_map, List.getElem?_range hz]
      exact congrArg some (h z hz (Ne.symm e)).symm
  · rw [List.getElem?_eq_none (by simp; omega), List.getElem?_eq_none (by simp; omega)]
def wtL (rs : List Row) : List Int := (List.range rs.length).map fun z => (wt rs z : Int)

/-! ### for the steps -/
def plt : Nat → D → Bool
  | 0, _ => false
  | _ + 1, .non => true
  | _ + 1, .bl _ => true
  | _ + 1, .int _ => true
  | n + 1, .tup xs => decide (xs.length ≤ 64) && xs.all (plt n)
  | _ + 1, _ => false
theorem plt_row (r : Row) (n : Nat) : plt (n + 2) r.d = true := by
  show (decide (r.items.length ≤ 64) && r.items.all (plt (n + 1))) = true
  unfold Row.items
  have p : ∀ o, plt (n + 1) (pl o) = true := fun o => by cases o <;> rfl
  simp [p]
  exact ⟨rfl, rfl, rfl⟩
theorem plt_rows {rs : List Row} (l : rs.length ≤ 64) (n : Nat) : plt (n + 3) (.tup (rs.map Row.d)) = true := by
  show (decide ((rs.map Row.d).length ≤ 64) && (rs.map Row.d).all (plt (n + 2))) = true
  rw [List.length_map, decide_eq_true l, Bool.true_and, List.all_eq_true]
  intro y hy
  obtain ⟨r, _, rfl⟩ := List.mem_map.mp hy
  exact plt_row r n
theorem plt_told {ps : List (Option Nat)} {ws : List Int} (l : ps.length ≤ 64) (m : ws.length ≤ 64) (n : Nat) : plt (n + 3) (.tup [.tup (ps.map pl), .tup (ws.map D.int)]) = true := by
  show (decide (2 ≤ 64) && (plt (n + 2) (.tup (ps.map pl)) && (plt (n + 2) (.tup (ws.map D.int)) && true))) = true
  have a : plt (n + 2) (.tup (ps.map pl)) = true := by
    show (decide ((ps.map pl).length ≤ 64) && (ps.map pl).all (plt (n + 1))) = true
    rw [List.length_map, decide_eq_true l, Bool.true_and, List.all_eq_true]
    intro y hy
    obtain ⟨o, _, rfl⟩ := List.mem_map.mp hy
    cases o <;> rfl
  have b : plt (n + 2) (.tup (ws.map D.int)) = true := by
    show (decide ((ws.map D.int).length ≤ 64) && (ws.map D.int).all (plt (n + 1))) = true
    rw [List.length_map, decide_eq_true m, Bool.true_and, List.all_eq_true]
    intro y hy
    obtain ⟨o, _, rfl⟩ := List.mem_map.mp hy
    rfl
  rw [a, b]; rfl
theorem iteF' {c : Bool} {A B : Prop} (z : c = false) (h : B) : if c = true then A else B := by rw [z]; exact h
theorem iteT' {c : Bool} {A B : Prop} (z : c = true) (h : A) : if c = true then A else B := by rw [if_pos z]; exact h
theorem zw_self : ∀ {l : List D} {z : D}, z ∈ List.zipWith (fun a b => D.tup [a, b]) l l → ∃ x ∈ l, z = .tup [x, x]
  | [], _, m => by cases m
  | y :: l, z, m => by
    rw [List.zipWith_cons_cons, List.mem_cons] at m
    rcases m with rfl | m
    · exact ⟨y, by simp, rfl⟩
    · obtain ⟨x, h1, h2⟩ := zw_self m
      exact ⟨x, List.mem_cons_of_mem _ h1, h2⟩
theorem bls_tr : ∀ l : List D, blsD (l.filterMap fun _ => some (.bl true)) = some (l.map fun _ => true)
  | [] => rfl
  | y :: l => by
    rw [List.filterMap_cons]
    show (blsD (l.filterMap fun _ => some (.bl true))).map (true :: ·) = _
    rw [bls_tr l]; rfl
theorem sons_nat (r : Row) : sonsL r = ([r.l, r.r].filterMap id).map fun (j : Nat) => D.int j := by
  unfold sonsL
  cases r.l <;> cases r.r <;> rfl
theorem sonsN_mem {r : Row} {c : Nat} : c ∈ [r.l, r.r].filterMap id ↔ sg r c = true := by
  rw [sg_iff]
  cases r.l <;> cases r.r <;> simp <;> omega
theorem sonsN_nd {r : Row} (t : r.two) : ([r.l, r.r].filterMap id).Nodup := by
  unfold Row.two at t
  cases hl : r.l <;> cases hr : r.r <;> simp
  rw [hl, hr] at t
  rcases t with t | t
  · cases t
  · exact fun z => t (by rw [z])
theorem sonsN_len (r : Row) : ([r.l, r.r].filterMap id).length ≤ 2 := List.length_filterMap_le _ _
/-- a step at each of some rows -/
def apL (g : Row → Row) (L : List Nat) (rs : List Row) : List Row := L.foldl (fun rs c => rs.modify c g) rs
theorem apL_len (g : Row → Row) : ∀ (L : List Nat) (rs : List Row), (apL g L rs).length = rs.length
  | [], _ => rfl
  | c :: L, rs => by
    show (apL g L (rs.modify c g)).length = _
    rw [apL_len g L, List.length_modify]
theorem apL_get (g : Row → Row) : ∀ (L : List Nat) (rs : List Row) (j : Nat), L.Nodup → (apL g L rs)[j]? = (rs[j]?).map fun q => if j ∈ L then g q else q
  | [], rs, j, _ => by
    show rs[j]? = _
    cases rs[j]? <;> simp
  | c :: L, rs, j, nd => by
    obtain ⟨n1, n2⟩ := List.nodup_cons.mp nd
    show (apL g L (rs.modify c g))[j]? = _
    rw [apL_get g L _ j n2, List.getElem?_modify]
    by_cases e : c = j
    · subst e
      cases rs[c]? <;> simp [n1]
    · have : (j = c) = False := by simp [Ne.symm e]
      cases rs[j]? <;> simp [e, this]
theorem apL_snoc (g : Row → Row) (L : List Nat) (c : Nat) (rs : List Row) : apL g (L ++ [c]) rs = (apL g L rs).modify c g := by
  unfold apL; rw [List.foldl_append]; rfl
theorem mod_set {rs : List Row} {c : Nat} {q : Row} (e : rs[c]? = some q) (g : Row → Row) : (rs.map Row.d).set c (g q).d = (rs.modify c g).map Row.d := by
  apply List.ext_getElem?
  intro j
  rw [List.getElem?_map, List.getElem?_modify]
  have hc : c < rs.length := (List.getElem?_eq_some_iff.mp e).1
  by_cases h : c = j
  · subst h
    rw [e]
    simp [hc]
  · rw [List.getElem?_set_ne h, List.getElem?_map]
    simp [h]
def hg (r : Row) (q : Row) : Row := ⟨q.u, q.l, q.r, q.t != r.t, q.a + r.a, q.v + r.a⟩
def hs (r : Row) : Row := ⟨r.u, if r.t = true then r.r else r.l, if r.t = true then r.l else r.r, false, 0, r.v⟩
theorem hand_ap {rs : List Row} (S : ShpR rs) {h : Nat} {r : Row} (e : rs[h]? = some r) : handR rs h = (apL (hg r) ([r.l, r.r].filterMap id) rs).set h (hs r) := by
  have hh : h < rs.length := (List.getElem?_eq_some_iff.mp e).1
  have nd := sonsN_nd (S.two r (List.mem_of_getElem? e))
  apply List.ext_getElem?
  intro j
  rw [hand_get e]
  by_cases z : h = j
  · subst z
    rw [e, List.getElem?_set_self (by rw [apL_len]; exact hh)]
    unfold hOn hs
    simp
  · rw [List.getElem?_set_ne z, apL_get _ _ _ _ nd]
    cases rs[j]? with
    | none => rfl
    | some q =>
      simp only [Option.map_some]
      unfold hOn
      rw [if_neg (Ne.symm z)]
      by_cases w : sg r j = true
      · rw [if_pos w, if_pos (sonsN_mem.mpr w)]; rfl
      · rw [if_neg w, if_neg (fun m => w (sonsN_mem.mp m))]
theorem hand_same {rs : List Row} (S : ShpR rs) {h : Nat} {r : Row} (e : rs[h]? = some r) (a : r.a = 0) (t : r.t = false) : handR rs h = rs := by
  apply List.ext_getElem?
  intro j
  rw [hand_get e]
  cases z : rs[j]? with
  | none => rfl
  | some q =>
    simp only [Option.map_some]
    congr 1
    unfold hOn
    by_cases w : j = h
    · subst w
      rw [e] at z; cases z
      rw [if_pos rfl]
      cases r
      simp at a t
      subst a t
      rfl
    · rw [if_neg w]
      split
      · cases q
        simp [a, t]
      · rfl
/-- rows that are lists -/
structure RW (G0 : Gp) (m : Nat) (ad : Nat → Addr) (f : Nat → Row) (G : Gp) : Prop where
  rows : ∀ q, q < m → G (ad q) = some (.lst (f q).items)
  inj : ∀ q p, q < m → p < m → ad q = ad p → q = p
  keep : ∀ b, (∀ q, q < m → b ≠ ad q) → G b = G0 b
theorem RW.row {G0 G : Gp} {m : Nat} {ad : Nat → Addr} {f : Nat → Row} (R : RW G0 m ad f G) {w : Nat} (hw : w < m) (r : Row) : RW G0 m ad (upf f w r) (up G (ad w) (.lst r.items)) :=
  ⟨fun q hq => by
    by_cases e : q = w
    · subst e; rw [up_same, upf_same]
    · rw [up_ne (fun z => e (R.inj q w hq hw z)), upf_ne e]; exact R.rows q hq, R.inj, fun b hb => by rw [up_ne (hb w hw)]; exact R.keep b hb⟩
theorem RW.congr {G0 G : Gp} {m : Nat} {ad : Nat → Addr} {f g : Nat → Row} (R : RW G0 m ad f G) (h : ∀ q, q < m → f q = g q) : RW G0 m ad g G :=
  ⟨fun q hq => by rw [← h q hq]; exact R.rows q hq, R.inj, R.keep⟩
theorem RW.refl {G0 G : Gp} {m : Nat} {ad : Nat → Addr} {f : Nat → Row} (R : RW G0 m ad f G) : RW G m ad f G := ⟨R.rows, R.inj, fun _ _ => rfl⟩
theorem RW.trans {G0 G1 G : Gp} {m : Nat} {ad : Nat → Addr} {f g : Nat → Row} (R : RW G0 m ad f G1) (R2 : RW G1 m ad g G) : RW G0 m ad g G := ⟨R2.rows, R2.inj, fun b hb => by rw [R2.keep b hb, R.keep b hb]⟩
def apF (g : Row → Row) (L : List Nat) (f : Nat → Row) : Nat → Row := L.foldl (fun f c => upf f c (g (f c))) f
theorem apF_snoc (g : Row → Row) (L : List Nat) (c : Nat) (f : Nat → Row) : apF g (L ++ [c]) f = upf (apF g L f) c (g (apF g L f c)) := by
  unfold apF; rw [List.foldl_append]; rfl
theorem apF_get (g : Row → Row) : ∀ (L : List Nat) (f : Nat → Row) (j : Nat), L.Nodup → apF g L f j = if j ∈ L then g (f j) else f j
  | [], f, j, _ => by simp [apF]
  | c :: L, f, j, nd => by
    obtain ⟨n1, n2⟩ := List.nodup_cons.mp nd
    show apF g L (upf f c (g (f c))) j = _
    rw [apF_get g L _ j n2]
    unfold upf
    by_cases e : j = c
    · subst e; simp [n1]
    · simp [e]
theorem take_snoc {α : Type} {l : List α} {k : Nat} {x : α} (e : l[k]? = some x) : l.take (k + 1) = l.take k ++ [x] := by
  obtain ⟨h, e⟩ := List.getElem?_eq_some_iff.mp e
  rw [← e]; exact (List.take_append_getElem h).symm
theorem nat_get {l : List Nat} {k : Nat} {x : D} (e : (l.map fun (j : Nat) => D.int j)[k]? = some x) : ∃ c, l[k]? = some c ∧ x = .int (c : Nat) := by
  rw [List.getElem?_map] at e
  cases z : l[k]? with
  | none => rw [z] at e; cases e
  | some c => rw [z] at e; exact ⟨c, rfl, (Option.some.inj e).symm⟩
theorem hand_fun {m : Nat} {f : Nat → Row} {h : Nat} (hh : h < m) : handR ((List.range m).map f) h = (List.range m).map fun j => hOn (f h) h j (f j) := by
  have e : ((List.range m).map f)[h]? = some (f h) := by simp [hh]
  apply List.ext_getElem?
  intro j
  rw [hand_get e, List.getElem?_map, List.getElem?_map, Option.map_map]
  by_cases hj : j < m
  · rw [List.getElem?_range hj]; rfl
  · rw [List.getElem?_eq_none (by simp; omega)]; rfl
theorem rot_fun {m : Nat} {f : Nat → Row} {h p : Nat} {x y : Row} : rotR ((List.range m).map f) h p x y = (List.range m).map fun j => tOn h p x y j (f j) := by
  apply List.ext_getElem?
  intro j
  rw [rot_get, List.getElem?_map, List.getElem?_map, Option.map_map]
  by_cases hj : j < m
  · rw [List.getElem?_range hj]; rfl
  · rw [List.getElem?_eq_none (by simp; omega)]; rfl
theorem fun_rows {rs : List Row} : ∃ f : Nat → Row, rs = (List.range rs.length).map f := by
  refine ⟨fun j => rs.getD j ⟨none, none, none, false, 0, 0⟩, ?_⟩
  apply List.ext_getElem?
  intro j
  by_cases hj : j < rs.length
  · rw [List.getElem?_map, List.getElem?_range hj]
    simp [hj]
  · rw [List.getElem?_eq_none (by omega), List.getElem?_eq_none (by simp; omega)]
theorem cut_set (xs : List D) (j : Nat) (x : D) (h : j < xs.length) : L3.cutD xs none (some (j : Int)) ++ [x] ++ L3.cutD xs (some ((j : Int) + 1)) none = xs.set j x := by
  unfold L3.cutD
  rw [HT.sIx_none, HT.sIx_none, show (j : Int) + 1 = ((j + 1 : Nat) : Int) by omega, HT.sIx_nat, HT.sIx_nat, List.drop_zero, Nat.sub_zero, Nat.min_eq_left (by omega), Nat.min_eq_left (by omega)]
  rw [List.take_of_length_le (l := xs.drop (j + 1)) (by rw [List.length_drop]; omega), List.set_eq_take_append_cons_drop, if_pos h]
  simp
def fD (m : Nat) (f : Nat → Row) : List D := (List.range m).map fun j => (f j).d
theorem fD_len (m : Nat) (f : Nat → Row) : (fD m f).length = m := by unfold fD; rw [List.length_map, List.length_range]
theorem fD_get {m j : Nat} (f : Nat → Row) (h : j < m) : (fD m f)[j]? = some (f j).d := by unfold fD; rw [List.getElem?_map, List.getElem?_range h]; rfl
theorem fD_at {m j : Nat} (f : Nat → Row) (h : j < m) : atI (fD m f) (j : Int) = some (f j).d := at_get (by omega) (by rw [Int.toNat_natCast]; exact fD_get f h)
theorem fD_set {m c : Nat} (f : Nat → Row) (r : Row) (hc : c < m) : (fD m f).set c r.d = fD m (upf f c r) := by
  have := set_range (n := m) (p := c) (f := fun j => (f j).d) (g := fun j => (upf f c r j).d) fun z _ h => by rw [upf_ne h]
  rw [upf_same] at this
  exact this
theorem fD_congr {m : Nat} {f g : Nat → Row} (h : ∀ j, j < m → f j = g j) : fD m f = fD m g := List.map_congr_left fun j hj => by rw [h j (List.mem_range.mp hj)]
theorem fD_rows (m : Nat) (f : Nat → Row) : fD m f = ((List.range m).map f).map Row.d := by unfold fD; rw [List.map_map]; rfl
theorem fn_get {m j : Nat} {f : Nat → Row} (h : j < m) : ((List.range m).map f)[j]? = some (f j) := by rw [List.getElem?_map, List.getElem?_range h]; rfl
theorem fn_row {m j : Nat} {f : Nat → Row} {q : Row} (h : ((List.range m).map f)[j]? = some q) : j < m ∧ q = f j := by
  have hj : j < m := by
    have := (List.getElem?_eq_some_iff.mp h).1
    simpa using this
  rw [fn_get hj] at h
  exact ⟨hj, (Option.some.inj h).symm⟩
/-- the far row turned to the new son -/
def P1 (m : Nat) (f : Nat → Row) (h p : Nat) (f1 : Nat → Row) : Prop := f1 h = f h ∧ f1 p = f p ∧ ∀ j, j < m → j ≠ h → j ≠ p → f1 j = ⟨(f j).u, rp p h (f j).l, rp p h (f j).r, (f j).t, (f j).a, (f j).v⟩
theorem rp_no {p h : Nat} {o : Option Nat} (e : o ≠ some p) : rp p h o = o := if_neg e
theorem rp_yes {p h : Nat} {o : Option Nat} (e : o = some p) : rp p h o = some h := if_pos e
section
variable {m : Nat} {f : Nat → Row} {h p : Nat} (T : TnR ((List.range m).map f) h p (f h) (f p))
include T
theorem p1_none (no : ∀ j, j < m → (f j).l ≠ some p ∧ (f j).r ≠ some p) : P1 m f h p f := ⟨rfl, rfl, fun j hj _ _ => by
  rw [rp_no (no j hj).1, rp_no (no j hj).2]⟩
theorem p1_no (k : isSon ((List.range m).map f) p = false) : P1 m f h p f := by
  have hp := (fn_row T.ey).1
  have no := son_not T T.S (by simpa using hp) k
  exact p1_none T fun j hj => ⟨fun e => no j ⟨_, fn_get hj, .inl e⟩, fun e => no j ⟨_, fn_get hj, .inr e⟩⟩
theorem p1_set {g : Nat} (hg : g < m) (k : (f g).l = some p ∨ (f g).r = some p) : P1 m f h p (upf f g (if (f g).l = some p then ⟨(f g).u, some h, (f g).r, (f g).t, (f g).a, (f g).v⟩ else ⟨(f g).u, (f g).l, some h, (f g).t, (f g).a, (f g).v⟩)) := by
  have dg := dp_son T (fn_get hg) k
  have dh := dp_up T T.ex T.eu
  have two := T.S.two _ (List.mem_of_getElem? (fn_get hg))
  refine ⟨upf_ne (fun z => by rw [z] at dh; omega), upf_ne (fun z => by rw [← z] at dg; omega), fun j hj a b => ?_⟩
  by_cases e : j = g
  · subst e
    rw [upf_same]
    by_cases l : (f j).l = some p
    · rw [if_pos l, rp_yes l, rp_no (fun r => by
        rcases two with w | w
        · rw [w] at l; cases l
        · exact w (l.trans r.symm))]
    · rw [if_neg l, rp_no l, rp_yes (k.resolve_left l)]
  · rw [upf_ne e]
    have no : ∀ {o}, (o = (f j).l ∨ o = (f j).r) → o ≠ some p := fun {o} w z => e (one_up T (fn_get hj) (by rcases w with w | w <;> simp [← w, z]) (fn_get hg) k)
    rw [rp_no (no (.inl rfl)), rp_no (no (.inr rfl))]
theorem tn_h : h < m := (fn_row T.ex).1
theorem tn_p : p < m := (fn_row T.ey).1
/-- a function that is the turn -/
theorem t_fin {f1 f2 : Nat → Row} (P : P1 m f h p f1) (eh : f2 h = (if (f p).l = some h then ⟨(f p).u, (f h).l, some p, (f h).t, (f h).a, (f h).v⟩ else ⟨(f p).u, some p, (f h).r, (f h).t, (f h).a, (f h).v⟩))
    (ep : f2 p = (if (f p).l = some h then ⟨some h, (f h).r, (f p).r, (f p).t, (f p).a, (f p).v⟩ else ⟨some h, (f p).l, (f h).l, (f p).t, (f p).a, (f p).v⟩))
    (eo : ∀ j, j < m → j ≠ h → j ≠ p → f2 j = ⟨if tB h (f h) (f p) = some j then some p else (f1 j).u, (f1 j).l, (f1 j).r, (f1 j).t, (f1 j).a, (f1 j).v⟩) : ∀ j, j < m → f2 j = tOn h p (f h) (f p) j (f j) := fun j hj => by
  by_cases a : j = h
  · rw [a, eh, t_h T]
  · by_cases b : j = p
    · rw [b, ep, t_p T]
    · rw [eo j hj a b, P.2.2 j hj a b, t_other T (fn_get hj) a b]
      unfold tU
      rw [if_neg a, if_neg b]
end
def nL (n : Nat) (F : Nat → Nat) : List D := (List.range n).map fun z => D.int (F z : Nat)
theorem nL_len (n : Nat) (F : Nat → Nat) : (nL n F).length = n := by unfold nL; rw [List.length_map, List.length_range]
theorem nL_get {n z : Nat} (F : Nat → Nat) (h : z < n) : (nL n F)[z]? = some (.int (F z : Nat)) := by unfold nL; rw [List.getElem?_map, List.getElem?_range h]; rfl
theorem nL_at {n z : Nat} (F : Nat → Nat) (h : z < n) : atI (nL n F) (z : Int) = some (.int (F z : Nat)) := at_get (by omega) (by rw [Int.toNat_natCast]; exact nL_get F h)
theorem nL_set {n p : Nat} {F H : Nat → Nat} {v : Int} (e : v = (H p : Nat)) (h : ∀ z, z < n → z ≠ p → H z = F z) : (nL n F).set p (.int v) = nL n H := by
  rw [e]
  exact set_range (f := fun z => D.int (F z : Nat)) (g := fun z => D.int (H z : Nat)) fun z hz n => by rw [h z hz n]
theorem nL_congr {n : Nat} {F H : Nat → Nat} (h : ∀ z, z < n → F z = H z) : nL n F = nL n H := List.map_congr_left fun z hz => by rw [h z (List.mem_range.mp hz)]
theorem rep_one (x : D) : ∀ m : Nat, (List.replicate m [x]).flatten = List.replicate m x
  | 0 => rfl
  | n + 1 => by rw [List.replicate_succ, List.flatten_cons, rep_one x n, List.replicate_succ]; rfl
theorem rep_nL (n v : Nat) : (List.replicate ((n : Int)).toNat [D.int (v : Nat)]).flatten = nL n fun _ => v := by
  rw [Int.toNat_natCast, rep_one]
  unfold nL
  rw [show (fun _ : Nat => D.int (v : Nat)) = Function.const Nat (D.int (v : Nat)) from rfl, List.map_const, List.length_range]
theorem rep_nL1 (n : Nat) : (List.replicate ((n : Int)).toNat [D.int 1]).flatten = nL n fun _ => 1 := rep_nL n 1
theorem rep_nL0 (n : Nat) : (List.replicate ((n : Int)).toNat [D.int 0]).flatten = nL n fun _ => 0 := rep_nL n 0
theorem fm_gen {α : Type} {f : D → Option D} {g : α → D} {q : α → Bool} {h : α → D} (hf : ∀ z, f (g z) = if q z = true then some (h z) else none) : ∀ l : List α, (l.map g).filterMap f = (l.filter q).map h
  | [] => rfl
  | z :: l => by
    rw [List.map_cons, List.filterMap_cons, hf, List.filter_cons]
    cases q z <;> simp [fm_gen hf l]
theorem enD_nL (n : Nat) (F : Nat → Nat) : enD (nL n F) = (List.range n).map fun z => D.tup [.int (z : Nat), .int (F z : Nat)] := by
  apply List.ext_getElem?
  intro z
  unfold enD nL
  rw [List.getElem?_mapIdx, List.getElem?_map, List.getElem?_map]
  by_cases hz : z < n
  · rw [List.getElem?_range hz]; rfl
  · rw [List.getElem?_eq_none (by simp; omega)]; rfl
structure K3s (G0 : Gp) (p1 p2 p4 : Addr) (A B R : List D) (G : Gp) : Prop where
  a : G p1 = some (.lst A)
  b : G p2 = some (.lst B)
  r : G p4 = some (.lst R)
  n12 : p1 ≠ p2
  n14 : p1 ≠ p4
  n24 : p2 ≠ p4
  keep : ∀ c, c ≠ p1 → c ≠ p2 → c ≠ p4 → G c = G0 c
section
variable {G0 G : Gp} {p1 p2 p4 : Addr} {A B R : List D} (k : K3s G0 p1 p2 p4 A B R G)
include k
theorem K3s.setA (A' : List D) : K3s G0 p1 p2 p4 A' B R (up G p1 (.lst A')) := ⟨up_same, by rw [up_ne k.n12.symm]; exact k.b, by rw [up_ne k.n14.symm]; exact k.r, k.n12, k.n14, k.n24, fun c h1 h2 h3 => by rw [up_ne h1]; exact k.keep c h1 h2 h3⟩
theorem K3s.setB (B' : List D) : K3s G0 p1 p2 p4 A B' R (up G p2 (.lst B')) := ⟨by rw [up_ne k.n12]; exact k.a, up_same, by rw [up_ne k.n24.symm]; exact k.r, k.n12, k.n14, k.n24, fun c h1 h2 h3 => by rw [up_ne h2]; exact k.keep c h1 h2 h3⟩
theorem K3s.setR (R' : List D) : K3s G0 p1 p2 p4 A B R' (up G p4 (.lst R')) := ⟨by rw [up_ne k.n14]; exact k.a, by rw [up_ne k.n24]; exact k.b, up_same, k.n12, k.n14, k.n24, fun c h1 h2 h3 => by rw [up_ne h3]; exact k.keep c h1 h2 h3⟩
end
def dn0 : Nat → Bool := fun _ => false
theorem fnd0 (rs : List Row) (z : Nat) : fnd rs dn0 z = 1 := by
  unfold fnd
  rw [sm_congr (g := fun _ => 0) _ fun c _ => by unfold dn0; simp, sm_zero]
theorem lft0 (rs : List Row) (z : Nat) : lft rs dn0 z = sm rs.length fun c => if ch (uL rs) z c = true then 1 else 0 := by
  unfold lft
  exact sm_congr _ fun c _ => by unfold dn0; simp
theorem kn0 (rs : List Row) : Kn rs dn0 ((List.range rs.length).filter fun z => decide (lft rs dn0 z = 0)) := by
  refine ⟨List.Sublist.nodup List.filter_sublist List.nodup_range, fun x => ?_, fun x _ h => by cases h⟩
  rw [List.mem_filter, List.mem_range]
  simp [dn0]
theorem ix_last {α : Type} (A : List α) (x : α) : (A ++ [x])[(A ++ [x]).length - 1]? = some x := by simp
theorem eqL_mapself {α : Type} {g : α → D} (h : ∀ a, eqD (g a) (g a) = true) : ∀ l : List α, eqL (l.map g) (l.map g) = true
  | [] => rfl
  | a :: l => by
    show (eqD (g a) (g a) && eqL (l.map g) (l.map g)) = true
    rw [h a, eqL_mapself h l]; rfl
theorem eq_told (ps : List (Option Nat)) (ws : List Int) : eqD (.tup [.tup (ps.map pl), .tup (ws.map D.int)]) (.tup [.tup (ps.map pl), .tup (ws.map D.int)]) = true := by
  show (eqL (ps.map pl) (ps.map pl) && (eqL (ws.map D.int) (ws.map D.int) && true)) = true
  rw [eqL_mapself (fun o => by cases o <;> simp [pl, eqD]) ps, eqL_mapself (fun i => by simp [eqD]) ws]; rfl
theorem trn_snoc (L : List (Nat × Nat)) (q : Nat × Nat) (ps : List (Option Nat)) : trn (L ++ [q]) ps = (trn L ps).set q.2 (some q.1) := by
  unfold trn
  rw [List.foldl_append]; rfl
theorem tldP_len (rs : List Row) : (tldP rs).length = rs.length := by unfold tldP; rw [List.length_map, List.length_range]
theorem zip_maps : ∀ (xs ys : List Nat), List.zipWith (fun a b => D.tup [a, b]) (xs.map fun (j : Nat) => D.int j) (ys.map fun (j : Nat) => D.int j) = (xs.zip ys).map fun q => D.tup [.int (q.1 : Nat), .int (q.2 : Nat)]
  | [], _ => by simp
  | _ :: _, [] => by simp
  | x :: xs, y :: ys => by
    simp only [List.map_cons, List.zipWith_cons_cons, List.zip_cons_cons]
    rw [zip_maps xs ys]
theorem cut_tail (x : D) (xs : List D) : L3.cutD (x :: xs) (some 1) none = xs := by
  unfold L3.cutD
  rw [HT.sIx_none, show (1 : Int) = ((1 : Nat) : Int) from rfl, HT.sIx_nat, List.length_cons, Nat.min_eq_left (by omega), List.drop_succ_cons, List.drop_zero]
  exact List.take_of_length_le (by omega)
theorem ord_ne {rs : List Row} (S : ShpR rs) {t : Nat} (ht : t < rs.length) : ∃ h l, ordT rs t false = h :: l := by
  have m : t ∈ ordT rs t false := (ord_mem S t ht false t).mpr ⟨ht, U_in_self S⟩
  cases e : ordT rs t false with
  | nil => rw [e] at m; cases m
  | cons h l => exact ⟨h, l, rfl⟩

/-! ### ranks -/
def rk (n : Int) : Int := (n.toNat.log2 : Int)
theorem rk_step2 {a : Int} (h : 1 < a) : rk (a / 2) + 1 = rk a := by
  unfold rk
  have e : (a / 2).toNat = a.toNat / 2 := by omega
  have := Nat.log2_def a.toNat
  rw [if_pos (by omega)] at this
  rw [e, this]
  omega
theorem rk_low2 {a : Int} (h : ¬ 1 < a) : rk a = 0 := by
  unfold rk
  have : a.toNat = 0 ∨ a.toNat = 1 := by omega
  rcases this with h | h <;> rw [h] <;> decide
theorem sm_lt (L : Nat) : ∀ n, sm n (fun k => if k < L then 1 else 0) = min n L
  | 0 => by simp [sm]
  | n + 1 => by
    show sm n _ + (if n < L then 1 else 0) = _
    rw [sm_lt L n]
    split <;> omega
theorem log_count {m : Nat} (h1 : 1 ≤ m) (h2 : m < 2 ^ 70) : ((List.range 69).filter fun (k : Nat) => decide ((1 : Int) * 2 ^ (1 + (k : Int)).toNat ≤ (m : Int))).length = m.log2 := by
  rw [sm_filter]
  have L : m.log2 < 70 := (Nat.log2_lt (by omega)).mpr h2
  rw [sm_congr (g := fun k => if k < m.log2 then 1 else 0) 69 fun k _ => ?_, sm_lt]
  · omega
  · have e : (decide ((1 : Int) * 2 ^ (1 + (k : Int)).toNat ≤ (m : Int))) = decide (k < m.log2) := by
      have t : (1 + (k : Int)).toNat = k + 1 := by omega
      rw [t, Int.one_mul]
      have p : ((2 : Int) ^ (k + 1)) = ((2 ^ (k + 1) : Nat) : Int) := by simp
      rw [p, Bool.eq_iff_iff, decide_eq_true_eq, decide_eq_true_eq]
      have := Nat.le_log2 (n := m) (k := k + 1) (by omega)
      omega
    rw [e]
    simp
theorem ints_nL (n : Nat) (F : Nat → Nat) : intsD (nL n F) = some ((List.range n).map fun z => (F z : Int)) := by
  have : ∀ l : List Nat, intsD (l.map fun z => D.int (F z : Nat)) = some (l.map fun z => (F z : Int)) := by
    intro l
    induction l with
    | nil => rfl
    | cons a l ih => rw [List.map_cons]; show (intsD _).map _ = _; rw [ih]; rfl
  exact this _
def rkS (rs : List Row) : Int := ((List.range rs.length).map fun z => ((wt rs z).log2 : Int)).sum
theorem wt_le {rs : List Row} (z : Nat) : wt rs z ≤ rs.length := by
  unfold wt
  have := List.length_filter_le (fun j => decide (z ∈ U (uL rs) j)) (List.range rs.length)
  rw [List.length_range] at this; exact this
theorem wt_pos {rs : List Row} (S : ShpR rs) {z : Nat} (hz : z < rs.length) : 1 ≤ wt rs z := by
  have := wt_rec S hz
  omega
theorem not_son2 {rs : List Row} (S : ShpR rs) {c : Nat} (hc : c < rs.length) (k : ∀ z, ¬ Sn rs z c) : isSon rs c = false := by
  cases w : isSon rs c with
  | false => rfl
  | true =>
    have a := sL_get hc
    rw [w, if_pos rfl] at a
    cases m : stepP (uL rs) c with
    | some z => rw [m] at a; exact absurd ((sn_edge S).mpr a) (k z)
    | none =>
      rw [m] at a
      rw [(root_iff_son S hc).mp a] at w; cases w
/-! ### each house by itself -/
def restR (ps : List (Option Nat)) (ws : List Int) : List Row := (ps.zip ws).map fun q => ⟨q.1, none, none, false, 0, q.2⟩
theorem rest_get {ps : List (Option Nat)} {ws : List Int} {j : Nat} {r : Row} (e : (restR ps ws)[j]? = some r) : ∃ o v, ps[j]? = some o ∧ ws[j]? = some v ∧ r = ⟨o, none, none, false, 0, v⟩ := by
  unfold restR at e
  rw [List.getElem?_map] at e
  cases z : (ps.zip ws)[j]? with
  | none => rw [z] at e; cases e
  | some q =>
    rw [z] at e
    obtain ⟨h1, h2⟩ := List.getElem?_zip_eq_some.mp z
    exact ⟨q.1, q.2, h1, h2, (Option.some.inj e).symm⟩
section
variable {ps : List (Option Nat)} {ws : List Int} (P : ParR ps) (l : ws.length = ps.length)
include l
theorem rest_len : (restR ps ws).length = ps.length := by unfold restR; rw [List.length_map, List.length_zip]; omega
theorem rest_uL : uL (restR ps ws) = ps := by
  apply List.ext_getElem?
  intro j
  unfold uL restR
  rw [List.map_map, List.getElem?_map]
  by_cases h : j < ps.length
  · have : (ps.zip ws)[j]? = some (ps[j], ws[j]'(by omega)) := List.getElem?_zip_eq_some.mpr ⟨by simp [h], by simp⟩
    rw [this]
    simp [h]
  · rw [List.getElem?_eq_none (by rw [List.length_zip]; omega), List.getElem?_eq_none (by omega)]; rfl
include P
theorem rest_shp : ShpR (restR ps ws) := by
  refine shp_of (fun r m => ?_) (fun r m => ?_) (fun h r e => ?_) (by rw [rest_uL l]; exact P)
  · obtain ⟨j, e⟩ := List.getElem?_of_mem m
    obtain ⟨o, v, h1, _, rfl⟩ := rest_get e
    rw [rest_len l]
    exact ⟨P.ok o (List.mem_of_getElem? h1), fun i h => (by cases h), fun i h => (by cases h)⟩
  · obtain ⟨j, e⟩ := List.getElem?_of_mem m
    obtain ⟨o, v, _, _, rfl⟩ := rest_get e
    exact .inl rfl
  · obtain ⟨o, v, _, _, rfl⟩ := rest_get e
    exact ⟨fun s h => (by cases h), fun s h => (by cases h)⟩
theorem rest_sn (z c : Nat) : ¬ Sn (restR ps ws) z c := fun ⟨r, e, k⟩ => by
  obtain ⟨o, v, _, _, rfl⟩ := rest_get e
  rcases k with k | k <;> cases k
theorem rest_tldP : tldP (restR ps ws) = ps := by
  have S := rest_shp P l
  apply List.ext_getElem?
  intro z
  by_cases hz : z < ps.length
  · have hz' : z < (restR ps ws).length := by rw [rest_len l]; exact hz
    have ns := not_son2 S hz' fun g => rest_sn P l g z
    have ht : z ∈ topsL (restR ps ws) := tops_in.mpr ⟨hz', ns⟩
    have et : tp (restR ps ws) z = z := tp_of S ht hz' (U_in_self S)
    obtain ⟨r, e⟩ := row_get hz'
    obtain ⟨o, v, h1, _, er⟩ := rest_get e
    have eo : ordT (restR ps ws) z false = [z] := by
      rw [ordT_eq S e, er]
      show oT _ none _ ++ [z] ++ oT _ none _ = _
      unfold oT
      rw [ordO_none]; rfl
    unfold tldP
    rw [List.getElem?_map, List.getElem?_range hz']
    show some (predIn (rowU _ (tp _ z)) (ordT _ (tp _ z) false) z) = _
    rw [et, eo, rowU_get e, er, h1]
    show some (if z = z then o else _) = _
    rw [if_pos rfl]
  · rw [List.getElem?_eq_none (by rw [tldP_len, rest_len l]; omega), List.getElem?_eq_none (by omega)]
theorem rest_tldW : tldW (restR ps ws) = ws := by
  have S := rest_shp P l
  apply List.ext_getElem?
  intro z
  by_cases hz : z < ps.length
  · have hz' : z < (restR ps ws).length := by rw [rest_len l]; exact hz
    have ns := not_son2 S hz' fun g => rest_sn P l g z
    obtain ⟨r, e⟩ := row_get hz'
    obtain ⟨o, v, _, h2, er⟩ := rest_get e
    unfold tldW
    rw [List.getElem?_map, List.getElem?_range hz', h2]
    show some (wr _ z) = _
    rw [wr_aw, aw_root S ((root_iff_son S hz').mpr ns), rowV_get e, er]
    simp
  · rw [List.getElem?_eq_none (by rw [tldW_len, rest_len l]; omega), List.getElem?_eq_none (by omega)]
end
theorem zw_rest : ∀ (ps : List (Option Nat)) (ws : List Int), List.zipWith (fun a b => D.tup [a, b]) (ps.map pl) (ws.map D.int) = (ps.zip ws).map fun q => D.tup [pl q.1, .int q.2]
  | [], _ => by simp
  | _ :: _, [] => by simp
  | p :: ps, w :: ws => by
    simp only [List.map_cons, List.zipWith_cons_cons, List.zip_cons_cons]
    rw [zw_rest ps ws]
theorem fm_all {α : Type} {f : D → Option D} {g : α → D} {h : α → D} (hf : ∀ z, f (g z) = some (h z)) (l : List α) : (l.map g).filterMap f = l.map h := by
  rw [List.filterMap_map]
  induction l with
  | nil => rfl
  | cons a l ih => rw [List.filterMap_cons, show (f ∘ g) a = some (h a) from hf a, ih]; rfl
theorem plt_ll {L : List (List Nat)} (l : L.length ≤ 64) (h : ∀ x ∈ L, x.length ≤ 64) : plt 4 (.tup (L.map fun x => .tup (x.map fun (j : Nat) => D.int j))) = true := by
  show (decide ((L.map _).length ≤ 64) && (L.map _).all (plt 3)) = true
  rw [List.length_map, decide_eq_true l, Bool.true_and, List.all_eq_true]
  intro y hy
  obtain ⟨x, mx, rfl⟩ := List.mem_map.mp hy
  show (decide ((x.map _).length ≤ 64) && (x.map _).all (plt 2)) = true
  rw [List.length_map, decide_eq_true (h x mx), Bool.true_and, List.all_eq_true]
  intro y hy
  obtain ⟨j, _, rfl⟩ := List.mem_map.mp hy
  rfl
theorem plt_nL {n : Nat} (F : Nat → Nat) (l : n ≤ 64) : plt 4 (.tup (nL n F)) = true := by
  show (decide ((nL n F).length ≤ 64) && (nL n F).all (plt 3)) = true
  rw [nL_len, decide_eq_true l, Bool.true_and, List.all_eq_true]
  intro y hy
  obtain ⟨j, _, rfl⟩ := List.mem_map.mp hy
  rfl
theorem inOF : Str.ofString "Forest" ∈ OC := by decide +kernel

theorem rest_rng {ps : List (Option Nat)} {ws : List Int} (l : ws.length = ps.length) : ((List.range ps.length).map fun z => D.tup [pl (ps.getD z none), .non, .non, .bl false, .int 0, .int (ws.getD z 0)]) = (restR ps ws).map Row.d := by
  apply List.ext_getElem?
  intro j
  rw [List.getElem?_map, List.getElem?_map]
  by_cases h : j < ps.length
  · have : (ps.zip ws)[j]? = some (ps[j], ws[j]'(by omega)) := List.getElem?_zip_eq_some.mpr ⟨by simp [h], by simp⟩
    have h2 : j < ws.length := by omega
    unfold restR
    rw [List.getElem?_map, this, List.getElem?_range h]
    simp [List.getD, h, h2, Row.d, Row.items, pl]
  · rw [List.getElem?_eq_none (by simp; omega), List.getElem?_eq_none (by rw [rest_len l]; omega)]; rfl

/-! ### the words -/
def lwd (c : Str) : Option Str := if c = Str.ofString "NoShape" then some (Str.ofString "shape") else if c = Str.ofString "NoHouse" then some (Str.ofString "house") else if c = Str.ofString "NoTurn" then some (Str.ofString "turn") else if c = Str.ofString "NoNumber" then some (Str.ofString "number") else none
theorem lwd_cases {c w : Str} (h : lwd c = some w) : (c = Str.ofString "NoShape" ∧ w = Str.ofString "shape") ∨ (c = Str.ofString "NoHouse" ∧ w = Str.ofString "house") ∨ (c = Str.ofString "NoTurn" ∧ w = Str.ofString "turn") ∨ (c = Str.ofString "NoNumber" ∧ w = Str.ofString "number") := by
  unfold lwd at h
  split at h
  · rename_i e; exact .inl ⟨e, (Option.some.inj h).symm⟩
  split at h
  · rename_i e; exact .inr (.inl ⟨e, (Option.some.inj h).symm⟩)
  split at h
  · rename_i e; exact .inr (.inr (.inl ⟨e, (Option.some.inj h).symm⟩))
  split at h
  · rename_i e; exact .inr (.inr (.inr ⟨e, (Option.some.inj h).symm⟩))
  · cases h
/-- no shape: a tuple of one, that is no tuple of six -/
def q1 : D → Bool
  | .tup ys => ys.length == 1
  | _ => true
def q2 : D → Bool
  | .tup ys => ys.length == 1 && ys.all q1
  | .int n => decide (n < 1)
  | _ => true
theorem wi_of {a b : Int} {x : D} (h : wiI a b x = true) : ∃ n : Int, x = .int n ∧ a ≤ n ∧ n ≤ b := by
  cases x <;> first | (cases h; done) | skip
  rename_i n
  have h : (decide (a ≤ n) && decide (n ≤ b)) = true := h
  simp only [Bool.and_eq_true, decide_eq_true_eq] at h
  exact ⟨n, rfl, h.1, h.2⟩
theorem par1 : ParR [none] := by
  refine ⟨by decide, by decide, fun o ho => ?_, fun h hh => ?_⟩
  · rw [List.mem_singleton] at ho; subst ho; intro i hi; cases hi
  · have : h = 0 := by simp at hh; exact hh
    subst this; rfl
theorem q2_1 {x : D} (h : q2 x = true) : q1 x = true := by
  cases x <;> first | rfl | skip
  unfold q2 at h
  simp only [Bool.and_eq_true] at h
  exact h.1
theorem q2_no {x : D} (h : q2 x = true) : ¬ Shp x := by
  rintro ⟨rs, rfl, S⟩
  have n1 := S.n1
  cases rs with
  | nil => simp at n1
  | cons r rs =>
    unfold q2 at h
    simp [q1, Row.d, Row.items] at h

/-! ### rotations in the forest of sons -/
theorem sL_some {rs : List Row} {h : Nat} (hh : h < rs.length) (z : isSon rs h = true) (S : ShpR rs) : ∃ p, (sL rs)[h]? = some (some p) := by
  have g := sL_get hh
  cases q : (sL rs)[h]? with
  | none => rw [g] at q; cases q
  | some o =>
    cases o with
    | none => rw [(root_iff_son S hh).mp q] at z; cases z
    | some p => exact ⟨p, rfl⟩
theorem sL_son {rs : List Row} (S : ShpR rs) {h p : Nat} (e : (sL rs)[h]? = some (some p)) : isSon rs h = true := (sL_edge e).1
theorem sL_u {rs : List Row} {h p : Nat} (e : (sL rs)[h]? = some (some p)) : (uL rs)[h]? = some (some p) := (sL_edge e).2
section
variable {rs : List Row} {h p : Nat} {x y : Row} (T : TnR rs h p x y)
include T
theorem rot_eh : (sL rs)[h]? = some (some p) := son_edge T.S T.ey T.son
theorem rot_u {j : Nat} (n1 : j ≠ h) (n2 : j ≠ p) (n3 : tB h x y ≠ some j) : (uL (rotR rs h p x y))[j]? = (uL rs)[j]? := by
  rw [rot_uL T]
  unfold uL
  rw [List.getElem?_map]
  cases rs[j]? with
  | none => rfl
  | some q => show some (tU h p x y j q.u) = some q.u; unfold tU; rw [if_neg n1, if_neg n2, if_neg n3]
theorem rot_uh : (uL (rotR rs h p x y))[h]? = (uL rs)[p]? := by
  rw [rot_uL T, T.ex, uL_get T.ey]
  show some (tU h p x y h x.u) = some y.u
  unfold tU; rw [if_pos rfl]
theorem rot_nson {c z : Nat} (n1 : c ≠ h) (n2 : c ≠ p) (k : Sn (rotR rs h p x y) z c) : ∃ w, Sn rs w c := by
  obtain ⟨q', g', k⟩ := k
  obtain ⟨q, g, rfl⟩ := rot_inv g'
  rcases t_sn T g k with ⟨_, e⟩ | ⟨e, k2, _⟩ | ⟨e, k2⟩ | ⟨e, _, k2⟩ | ⟨_, e, _⟩ | ⟨_, _, _, _, k2⟩
  · exact absurd e n2
  · exact ⟨h, x, T.ex, k2⟩
  · exact ⟨h, x, T.ex, tb_son T k2⟩
  · exact ⟨p, y, T.ey, k2⟩
  · exact absurd e n1
  · exact ⟨_, q, g, k2⟩
/-- whoever is neither of the two keeps being a son or none -/
theorem rot_son {c : Nat} (hc : c < rs.length) (n1 : c ≠ h) (n2 : c ≠ p) : isSon (rotR rs h p x y) c = isSon rs c := by
  have S := T.S
  have S' := rot_shp T
  have hc' : c < (rotR rs h p x y).length := by rw [rot_len]; exact hc
  cases e : isSon rs c with
  | true =>
    obtain ⟨z, g⟩ := sL_some hc e S
    obtain ⟨z', k⟩ := keep_o T ((sn_edge S).mpr g) n1 n2
    exact sL_son S' ((sn_edge S').mp k)
  | false =>
      refine not_son T S' hc' fun z k => ?_
      obtain ⟨w, k2⟩ := rot_nson T n1 n2 k
      exact son_not T S hc e w k2
theorem rot_sL {c : Nat} (hc : c < rs.length) (n1 : c ≠ h) (n2 : c ≠ p) (n3 : tB h x y ≠ some c) : (sL (rotR rs h p x y))[c]? = (sL rs)[c]? := by
  rw [sL_get hc, sL_get (by rw [rot_len]; exact hc), rot_son T hc n1 n2]
  unfold stepP
  rw [rot_u T n1 n2 n3]
theorem rot_none {c : Nat} (e : (sL rs)[c]? = some none) (n2 : c ≠ p) : (sL (rotR rs h p x y))[c]? = some none ∧ (uL (rotR rs h p x y))[c]? = (uL rs)[c]? ∧ c ≠ h := by
  have hc := sL_lt e
  have n1 : c ≠ h := fun z => by rw [z, rot_eh T] at e; cases e
  have n3 : tB h x y ≠ some c := fun z => by
    have := son_edge T.S T.ex (tb_son T z)
    rw [this] at e; cases e
  exact ⟨by rw [rot_sL T hc n1 n2 n3]; exact e, rot_u T n1 n2 n3, n1⟩
theorem rot_h : (sL (rotR rs h p x y))[h]? = (sL rs)[p]? := by
  have S := T.S
  have S' := rot_shp T
  have hp := row_lt S T.ey
  have hh := row_lt S T.ex
  have hh' : h < (rotR rs h p x y).length := by rw [rot_len]; exact hh
  have is : isSon (rotR rs h p x y) h = isSon rs p := by
    cases e : isSon rs p with
    | true =>
      obtain ⟨g, k⟩ := sL_some hp e S
      exact sL_son S' ((sn_edge S').mp (keep_h T ((sn_edge S).mpr k)))
    | false =>
        refine not_son T S' hh' fun z k => ?_
        obtain ⟨q', g', k⟩ := k
        obtain ⟨q, g, rfl⟩ := rot_inv g'
        rcases t_sn T g k with ⟨_, e2⟩ | ⟨e2, k2, _⟩ | ⟨e2, k2⟩ | ⟨e2, n, k2⟩ | ⟨_, _, k2⟩ | ⟨_, _, _, n, k2⟩
        · exact t_hp T e2
        · have := dp_son T T.ex k2; omega
        · exact tb_h T k2 rfl
        · exact n rfl
        · exact son_not T S hp e z ⟨q, g, k2⟩
        · exact n rfl
  rw [sL_get hp, sL_get hh', is]
  unfold stepP
  rw [rot_uh T]
theorem rot_p : (sL (rotR rs h p x y))[p]? = some (some h) := (sn_edge (rot_shp T)).mp (keep_p T)
theorem rot_same : ∀ z, z < (sL rs).length → (U (sL rs) z).length < (U (sL rs) p).length → U (sL (rotR rs h p x y)) z = U (sL rs) z := by
  have S := T.S
  have P := sL_par S
  have P' := sL_par (rot_shp T)
  have lh : (U (sL rs) h).length = (U (sL rs) p).length + 1 := by
    rw [U_cons P (by rw [sL_len]; exact row_lt S T.ex) (rot_eh T)]; rfl
  have ne : ∀ z, z < (sL rs).length → (U (sL rs) z).length < (U (sL rs) p).length → (sL (rotR rs h p x y))[z]? = (sL rs)[z]? := fun z hz lt => by
    refine rot_sL T (by rw [sL_len] at hz; exact hz) (fun e => by rw [e] at lt; omega) (fun e => by rw [e] at lt; omega) fun e => ?_
    have k := child_len S T.ex (tb_son T e)
    omega
  refine U_ind P _ (fun z hz e lt => ?_) fun z w hz hw e ih lt => ?_
  · rw [U_nil P e, U_nil P' (by rw [ne z hz lt]; exact e)]
  · have c := U_cons P hz e
    have e' := ne z hz lt
    rw [e] at e'
    rw [c, U_cons P' (by rw [sL_len, rot_len]; rw [sL_len] at hz; exact hz) e', ih (by rw [c, List.length_cons] at lt; omega)]
theorem rot_way : U (sL (rotR rs h p x y)) h = h :: (U (sL rs) p).tail := by
  have S := T.S
  have P := sL_par S
  have P' := sL_par (rot_shp T)
  have hp : p < (sL rs).length := by rw [sL_len]; exact row_lt S T.ey
  have e := rot_h T
  obtain ⟨o, eo, _⟩ := up_get P hp
  rw [eo] at e
  cases o with
  | none => rw [U_nil P' e, U_nil P eo]; rfl
  | some g =>
    have hg : g < (sL rs).length := P.ok _ (List.mem_of_getElem? eo) g rfl
    have c := U_cons P hp eo
    rw [U_cons P' (by rw [sL_len, rot_len]; exact row_lt S T.ex) e, c, rot_same T g hg (by rw [c, List.length_cons]; omega)]
    rfl
theorem rot_dS : (U (sL (rotR rs h p x y)) h).length + 1 = (U (sL rs) h).length := by
  have S := T.S
  have P := sL_par S
  obtain ⟨t, e⟩ := U_head P (h := p) (by rw [sL_len]; exact row_lt S T.ey)
  rw [rot_way T, U_cons P (by rw [sL_len]; exact row_lt S T.ex) (rot_eh T), e]
  rfl
end
/-! ### what a working in the row of a house leaves -/
structure Op (rs qs : List Row) (h : Nat) : Prop where
  S : ShpR qs
  len : qs.length = rs.length
  par : tldP qs = tldP rs
  wor : tldW qs = tldW rs
  oth : ∀ z, (sL rs)[z]? = some none → z ≠ tp rs h → (sL qs)[z]? = some none ∧ z ≠ tp qs h ∧ (uL qs)[z]? = (uL rs)[z]?
  top : (uL qs)[tp qs h]? = (uL rs)[tp rs h]?
theorem op_refl {rs : List Row} (S : ShpR rs) (h : Nat) : Op rs rs h := ⟨S, rfl, rfl, rfl, fun _ a b => ⟨a, b, rfl⟩, rfl⟩
theorem op_trans {rs qs ps : List Row} {h : Nat} (a : Op rs qs h) (b : Op qs ps h) : Op rs ps h :=
  ⟨b.S, b.len.trans a.len, b.par.trans a.par, b.wor.trans a.wor, fun z e n => by
    obtain ⟨e1, n1, u1⟩ := a.oth z e n
    obtain ⟨e2, n2, u2⟩ := b.oth z e1 n1
    exact ⟨e2, n2, u2.trans u1⟩, b.top.trans a.top⟩
theorem op_tp {rs qs : List Row} {h k : Nat} (a : Op rs qs k) (e : tp rs h = tp rs k) (e' : tp qs h = tp qs k) : Op rs qs h :=
  ⟨a.S, a.len, a.par, a.wor, fun z g n => by rw [e] at n; rw [e']; exact a.oth z g n, by rw [e, e']; exact a.top⟩
theorem tp_sL {rs qs : List Row} {h : Nat} (e : sL qs = sL rs) : tp qs h = tp rs h := by unfold tp; rw [e]
theorem op_hand {rs : List Row} (S : ShpR rs) {z : Nat} (hz : z < rs.length) (h : Nat) : Op rs (handR rs z) h := by
  obtain ⟨r, e⟩ := row_get hz
  have es := hand_sL S e
  exact ⟨hand_shp S e, hand_len e, hand_tldP S e, hand_tldW S e, fun z a b => ⟨by rw [es]; exact a, by rw [tp_sL es]; exact b, by rw [hand_uL e]⟩, by rw [tp_sL es, hand_uL e]⟩
theorem tp_last {rs : List Row} {h : Nat} : (U (sL rs) h).getLast? = some (tp rs h) := upP_top _ _ _
theorem tp_edge {rs : List Row} (S : ShpR rs) {h p : Nat} (e : (sL rs)[h]? = some (some p)) : tp rs h = tp rs p := by
  have P := sL_par S
  have a := tp_last (rs := rs) (h := h)
  have b := tp_last (rs := rs) (h := p)
  obtain ⟨t, et⟩ := U_head P (h := p) (P.ok _ (List.mem_of_getElem? e) p rfl)
  rw [U_cons P (by rw [sL_len]; exact sL_lt e) e] at a
  rw [et] at a b
  rw [List.getLast?_cons_cons, b] at a
  injection a with a
  exact a.symm
theorem tp_none {rs : List Row} (S : ShpR rs) {h : Nat} (e : (sL rs)[h]? = some none) : tp rs h = h := by
  have a := tp_last (rs := rs) (h := h)
  rw [U_nil (sL_par S) e] at a
  injection a with a
  exact a.symm
theorem tp_is {rs : List Row} (S : ShpR rs) {h : Nat} (hh : h < rs.length) : (sL rs)[tp rs h]? = some none := by
  obtain ⟨m, _⟩ := tp_top S hh
  obtain ⟨a, b⟩ := tops_in.mp m
  exact (root_iff_son S a).mpr b
theorem op_rot {rs : List Row} {h p : Nat} {x y : Row} (T : TnR rs h p x y) : Op rs (rotR rs h p x y) h := by
  have S := T.S
  have S' := rot_shp T
  have hh := row_lt S T.ex
  have hp := row_lt S T.ey
  have e0 := tp_edge S (rot_eh T)
  have P := sL_par S
  refine ⟨S', rot_len, rot_tldP T, rot_tldW T, ?_, ?_⟩
  · intro z e n
    rw [e0] at n
    have np : z ≠ p := fun w => by subst w; rw [tp_none S e] at n; exact n rfl
    obtain ⟨a, b, c⟩ := rot_none T e np
    refine ⟨a, fun w => ?_, b⟩
    have l := tp_last (rs := rotR rs h p x y) (h := h)
    rw [rot_way T, ← w] at l
    obtain ⟨t, et⟩ := U_head P (h := p) (by rw [sL_len]; exact hp)
    have l2 := tp_last (rs := rs) (h := p)
    rw [et] at l l2
    cases t with
    | nil => simp at l; exact c l.symm
    | cons u t =>
      simp only [List.tail_cons] at l
      rw [List.getLast?_cons_cons] at l l2
      rw [l] at l2
      injection l2 with l2
      exact n l2
  · have l := tp_last (rs := rotR rs h p x y) (h := h)
    rw [rot_way T] at l
    obtain ⟨t, et⟩ := U_head P (h := p) (by rw [sL_len]; exact hp)
    have l2 := tp_last (rs := rs) (h := p)
    rw [et] at l l2
    rw [e0]
    cases t with
    | nil =>
      simp at l l2
      rw [← l, ← l2]; exact rot_uh T
    | cons u t =>
      simp only [List.tail_cons] at l
      rw [List.getLast?_cons_cons] at l l2
      rw [l2] at l
      injection l with l
      rw [← l]
      have e := tp_is S hp
      by_cases w : tp rs p = p
      · exfalso
        have nd : p ∈ u :: t := by
          have : (u :: t).getLast? = some p := by rw [l2, w]
          exact List.mem_of_getLast? this
        rw [w] at e
        rw [U_nil P e] at et
        injection et with _ et
        cases et
      · exact (rot_none T e w).2.1
theorem op_turn {rs : List Row} (S : ShpR rs) {h : Nat} (hh : h < rs.length) (z : isSon rs h = true) : Op rs (turnR rs h) h ∧ (U (sL (turnR rs h)) h).length + 1 = (U (sL rs) h).length := by
  obtain ⟨p, x, y, u, hp, T, e⟩ := turn_get S hh z
  have o1 := op_hand S hp h
  have o2 := op_hand o1.S (by rw [o1.len]; exact hh) h
  have o3 := op_rot T
  obtain ⟨r, er⟩ := row_get hp
  obtain ⟨r2, er2⟩ := row_get (rs := handR rs p) (h := h) (by rw [o1.len]; exact hh)
  rw [e]
  refine ⟨op_trans (op_trans o1 o2) o3, ?_⟩
  rw [rot_dS T, hand_sL o1.S er2, hand_sL S er]

/-! ### steps -/
def sideB (rs : List Row) (h : Nat) : Bool := match rowU rs h with
  | some p => (match rs[p]? with
    | some q => decide (q.l = some h)
    | none => false)
  | none => false
def stepR (rs : List Row) (h : Nat) : List Row := match rowU rs h with
  | some p => if isSon rs p = true then (if sideB rs h = sideB rs p then turnR (turnR rs p) h else turnR (turnR rs h) h) else turnR rs h
  | none => rs
def stR (h : Nat) (rs : List Row) : List Row := if isSon rs h = true then stepR rs h else rs
def itR (h : Nat) : Nat → List Row → List Row
  | 0, rs => rs
  | k + 1, rs => itR h k (stR h rs)
theorem itR_succ (h : Nat) : ∀ (k : Nat) (rs : List Row), itR h (k + 1) rs = stR h (itR h k rs)
  | 0, _ => rfl
  | k + 1, rs => itR_succ h k (stR h rs)
def dS (rs : List Row) (h : Nat) : Nat := (U (sL rs) h).length
theorem dS_son {rs : List Row} (S : ShpR rs) {h : Nat} (hh : h < rs.length) : isSon rs h = true ↔ 2 ≤ dS rs h := by
  have P := sL_par S
  constructor
  · intro z
    obtain ⟨p, e⟩ := sL_some hh z S
    have hp : p < (sL rs).length := P.ok _ (List.mem_of_getElem? e) p rfl
    obtain ⟨t, et⟩ := U_head P hp
    unfold dS
    rw [U_cons P (by rw [sL_len]; exact hh) e, et]; simp
  · intro z
    cases w : isSon rs h with
    | true => rfl
    | false =>
      unfold dS at z
      rw [U_nil P ((root_iff_son S hh).mpr w)] at z; simp at z
theorem dS_edge {rs : List Row} (S : ShpR rs) {h p : Nat} (e : (sL rs)[h]? = some (some p)) : dS rs h = dS rs p + 1 := by
  unfold dS
  rw [U_cons (sL_par S) (by rw [sL_len]; exact sL_lt e) e]; rfl
theorem rowU_some {rs : List Row} {h p : Nat} (e : (uL rs)[h]? = some (some p)) : rowU rs h = some p := by
  unfold rowU stepP; rw [e]
theorem rowU_row {rs : List Row} {h : Nat} {r : Row} (e : rs[h]? = some r) : rowU rs h = r.u := by
  unfold rowU stepP; rw [uL_get e]
/-- a turn of the one ahead: h comes no deeper -/
theorem turn_up1 {rs : List Row} (S : ShpR rs) {h p : Nat} (e : (sL rs)[h]? = some (some p)) (z : isSon rs p = true) : Op rs (turnR rs p) h ∧ isSon (turnR rs p) h = true ∧ dS (turnR rs p) h ≤ dS rs h := by
  have hh := sL_lt e
  have hp' : p < (sL rs).length := (sL_par S).ok _ (List.mem_of_getElem? e) p rfl
  have hp : p < rs.length := by rw [sL_len] at hp'; exact hp'
  obtain ⟨g, x, y, u, hg, T, eq⟩ := turn_get S hp z
  obtain ⟨O, d⟩ := op_turn S hp z
  have O' := O
  rw [eq] at O d
  have o1 := op_hand S hg h
  have o2 := op_hand o1.S (z := p) (by rw [o1.len]; exact hp) h
  obtain ⟨rg, eg⟩ := row_get hg
  obtain ⟨q2, eq2⟩ := row_get (rs := handR rs g) (h := p) (by rw [o1.len]; exact hp)
  have es : sL (handR (handR rs g) p) = sL rs := by rw [hand_sL o1.S eq2, hand_sL S eg]
  have e1 : (sL (handR (handR rs g) p))[h]? = some (some p) := by rw [es]; exact e
  have S2 := T.S
  have S3 := rot_shp T
  have dph := dS_edge S2 e1
  have dpg := dS_edge S2 (rot_eh T)
  have n1 : h ≠ p := fun w => by rw [w] at dph; omega
  have n2 : h ≠ g := fun w => by rw [w] at dph; omega
  have hh2 : h < (handR (handR rs g) p).length := by rw [o2.len, o1.len]; exact hh
  have is : isSon (rotR (handR (handR rs g) p) p g x y) h = true := by
    rw [rot_son T hh2 n1 n2]; exact sL_son S2 e1
  have dd : dS (rotR (handR (handR rs g) p) p g x y) p + 1 = dS rs p := d
  have dr : dS rs h = dS rs p + 1 := dS_edge S e
  have tr := tp_edge S e
  rw [eq]
  by_cases b : tB p x y = some h
  · have u1 : (uL (rotR (handR (handR rs g) p) p g x y))[h]? = some (some g) := by
      obtain ⟨q, eq⟩ := row_get hh2
      rw [rot_uL T, eq]
      show some (tU p g x y h q.u) = _
      unfold tU; rw [if_neg n1, if_neg n2, if_pos b]
    have e3 : (sL (rotR (handR (handR rs g) p) p g x y))[h]? = some (some g) := by
      rw [sL_get (by rw [rot_len]; exact hh2), is, if_pos rfl]
      unfold stepP; rw [u1]
    have a1 := dS_edge S3 e3
    have a2 := dS_edge S3 (rot_p T)
    refine ⟨op_tp O tr ?_, is, by omega⟩
    rw [tp_edge S3 e3, tp_edge S3 (rot_p T)]
  · have e3 : (sL (rotR (handR (handR rs g) p) p g x y))[h]? = some (some p) := by rw [rot_sL T hh2 n1 n2 b]; exact e1
    have a1 := dS_edge S3 e3
    exact ⟨op_tp O tr (tp_edge S3 e3), is, by omega⟩
theorem st_ok {rs : List Row} (S : ShpR rs) {h : Nat} (hh : h < rs.length) (z : isSon rs h = true) : Op rs (stepR rs h) h ∧ dS (stepR rs h) h < dS rs h := by
  obtain ⟨p, e⟩ := sL_some hh z S
  have u := rowU_some (sL_u e)
  obtain ⟨O, d⟩ := op_turn S hh z
  unfold stepR
  rw [u]
  dsimp only
  split
  · rename_i zp
    split
    · obtain ⟨O1, is, le⟩ := turn_up1 S e zp
      obtain ⟨O2, d2⟩ := op_turn O1.S (by rw [O1.len]; exact hh) is
      refine ⟨op_trans O1 O2, ?_⟩
      have d2 : dS (turnR (turnR rs p) h) h + 1 = dS (turnR rs p) h := d2
      omega
    · have d1 : dS (turnR rs h) h + 1 = dS rs h := d
      have dp := dS_edge S e
      have hp' : p < (sL rs).length := (sL_par S).ok _ (List.mem_of_getElem? e) p rfl
      have two := (dS_son S (by rw [sL_len] at hp'; exact hp')).mp zp
      have is : isSon (turnR rs h) h = true := (dS_son O.S (by rw [O.len]; exact hh)).mpr (by omega)
      obtain ⟨O2, d2⟩ := op_turn O.S (by rw [O.len]; exact hh) is
      refine ⟨op_trans O O2, ?_⟩
      have d2 : dS (turnR (turnR rs h) h) h + 1 = dS (turnR rs h) h := d2
      omega
  · refine ⟨O, ?_⟩
    have d1 : dS (turnR rs h) h + 1 = dS rs h := d
    omega
theorem str_ok {rs : List Row} (S : ShpR rs) {h : Nat} (hh : h < rs.length) : Op rs (stR h rs) h := by
  unfold stR
  split
  · exact (st_ok S hh (by assumption)).1
  · exact op_refl S h
theorem it_op {h : Nat} : ∀ (k : Nat) {rs : List Row}, ShpR rs → h < rs.length → Op rs (itR h k rs) h
  | 0, rs, S, _ => op_refl S h
  | k + 1, rs, S, hh => by
    have o := str_ok S hh
    exact op_trans o (it_op k o.S (by rw [o.len]; exact hh))
theorem it_stop {h : Nat} : ∀ (k : Nat) {rs : List Row}, isSon rs h = false → itR h k rs = rs
  | 0, _, _ => rfl
  | k + 1, rs, z => by
    show itR h k (stR h rs) = rs
    have : stR h rs = rs := by unfold stR; rw [z]; rfl
    rw [this]; exact it_stop k z
/-- so many steps at most -/
theorem it_end {h : Nat} : ∀ (k : Nat) {rs : List Row}, ShpR rs → h < rs.length → dS rs h ≤ k + 1 → isSon (itR h k rs) h = false
  | 0, rs, S, hh, l => by
    cases w : isSon rs h with
    | false => exact w
    | true => have := (dS_son S hh).mp w; omega
  | k + 1, rs, S, hh, l => by
    cases w : isSon rs h with
    | false => rw [it_stop (k + 1) w]; exact w
    | true =>
      have o := str_ok S hh
      have d := (st_ok S hh w).2
      have eq : stR h rs = stepR rs h := by unfold stR; rw [if_pos w]
      refine it_end k o.S (by rw [o.len]; exact hh) ?_
      rw [eq]; omega
/-! ### handing on from the top down -/
def hnL (rs : List Row) (l : List Nat) : List Row := l.foldl handR rs
theorem hn_op {h : Nat} : ∀ (l : List Nat) {rs : List Row}, ShpR rs → (∀ z ∈ l, z < rs.length) → Op rs (hnL rs l) h
  | [], _, S, _ => op_refl S h
  | z :: l, rs, S, k => by
    have o := op_hand S (k z List.mem_cons_self) h
    exact op_trans o (hn_op l o.S fun w hw => by rw [o.len]; exact k w (List.mem_cons_of_mem _ hw))
def hnT (rs : List Row) (h : Nat) : List Row := hnL rs (U (sL rs) h).reverse
theorem hnT_op {rs : List Row} (S : ShpR rs) {h : Nat} (hh : h < rs.length) : Op rs (hnT rs h) h := hn_op _ S fun z m => by
  have := U_lt (sL_par S) h (by rw [sL_len]; exact hh) z (List.mem_reverse.mp m)
  rw [sL_len] at this; exact this
/-- to the top: what it is, how many steps -/
def fu (rs : List Row) : Nat := 66 + rs.length
def toR (rs : List Row) (h : Nat) : List Row := itR h (fu rs) (hnT rs h)
def stN (h : Nat) : Nat → List Row → Nat
  | 0, _ => 0
  | k + 1, rs => if isSon rs h = true then stN h k (stR h rs) + 1 else 0
theorem to_op {rs : List Row} (S : ShpR rs) {h : Nat} (hh : h < rs.length) : Op rs (toR rs h) h ∧ isSon (toR rs h) h = false := by
  have o := hnT_op S hh
  have hh' : h < (hnT rs h).length := by rw [o.len]; exact hh
  refine ⟨op_trans o (it_op (fu rs) o.S hh'), it_end (fu rs) o.S hh' ?_⟩
  have := (U_le o.S h hh').2
  unfold dS fu; omega
theorem stN_le {h : Nat} : ∀ (k : Nat) {rs : List Row}, ShpR rs → h < rs.length → stN h k rs + 1 ≤ dS rs h
  | 0, rs, S, hh => by
    have := (U_le S h hh).1
    unfold stN dS; omega
  | k + 1, rs, S, hh => by
    unfold stN
    split
    · rename_i w
      have o := str_ok S hh
      have d := (st_ok S hh w).2
      have eq : stR h rs = stepR rs h := by unfold stR; rw [if_pos w]
      have := stN_le k o.S (h := h) (by rw [o.len]; exact hh)
      rw [eq] at this ⊢
      omega
    · have := (U_le S h hh).1
      unfold dS; omega
theorem stN_at {h : Nat} : ∀ (n k : Nat) {rs : List Row}, ShpR rs → h < rs.length → n ≤ k → isSon (itR h n rs) h = false → (∀ j, j < n → isSon (itR h j rs) h = true) → stN h k rs = n ∧ itR h k rs = itR h n rs
  | 0, k, rs, _, _, _, z, _ => by
    have z : isSon rs h = false := z
    refine ⟨?_, it_stop k z⟩
    cases k with
    | zero => rfl
    | succ k => unfold stN; rw [if_neg (by rw [z]; exact Bool.false_ne_true)]
  | n + 1, 0, _, _, _, l, _, _ => by omega
  | n + 1, k + 1, rs, S, hh, l, z, f => by
    have z0 : isSon rs h = true := f 0 (by omega)
    have o := str_ok S hh
    obtain ⟨a, b⟩ := stN_at n k (rs := stR h rs) o.S (by rw [o.len]; exact hh) (by omega) z fun j hj => f (j + 1) (by omega)
    refine ⟨?_, b⟩
    unfold stN
    rw [if_pos z0, a]

/-! ### pass 1 -/
theorem dp_edge {rs : List Row} (S : ShpR rs) {j i : Nat} (e : (uL rs)[j]? = some (some i)) : dp rs j = dp rs i + 1 := by
  unfold dp
  rw [U_cons (uL_par S) (List.getElem?_eq_some_iff.mp e).1 e]; rfl
def Chn (rs : List Row) : List Nat → Option Nat → Prop
  | [], _ => True
  | [m], o => (uL rs)[m]? = some o
  | m :: m' :: r, o => (uL rs)[m]? = some (some m') ∧ Chn rs (m' :: r) o
theorem chn_snoc {rs : List Row} {h : Nat} {o : Option Nat} (e : (uL rs)[h]? = some o) : ∀ {l : List Nat}, Chn rs l (some h) → Chn rs (l ++ [h]) o
  | [], _ => e
  | [m], c => ⟨c, e⟩
  | m :: m' :: r, c => ⟨c.1, chn_snoc e c.2⟩
theorem chn_mono {rs qs : List Row} : ∀ {l : List Nat} {o : Option Nat}, (∀ m ∈ l, (uL qs)[m]? = (uL rs)[m]?) → Chn rs l o → Chn qs l o
  | [], _, _, _ => trivial
  | [m], _, k, c => (k m List.mem_cons_self).trans c
  | m :: m' :: r, _, k, c => ⟨(k m List.mem_cons_self).trans c.1, chn_mono (fun w hw => k w (List.mem_cons_of_mem _ hw)) c.2⟩
theorem chn_dp {rs : List Row} (S : ShpR rs) {h : Nat} : ∀ {l : List Nat}, Chn rs l (some h) → ∀ m ∈ l, dp rs h < dp rs m
  | [], _, m, hm => by cases hm
  | [k], c, m, hm => by
    rw [List.mem_singleton] at hm; subst hm
    have := dp_edge S c; omega
  | k :: k' :: r, c, m, hm => by
    rcases List.mem_cons.mp hm with e | e
    · subst e
      have a := dp_edge S c.1
      have b := chn_dp S c.2 k' List.mem_cons_self
      omega
    · exact chn_dp S c.2 m e
theorem chn_dec {rs : List Row} (S : ShpR rs) : ∀ {l : List Nat} {k : Nat} {o : Option Nat}, Chn rs (k :: l) o → ∀ m ∈ l, dp rs m < dp rs k
  | [], _, _, _, m, hm => by cases hm
  | k' :: r, k, o, c, m, hm => by
    have a := dp_edge S c.1
    rcases List.mem_cons.mp hm with e | e
    · subst e; omega
    · have := chn_dec S c.2 m e; omega
theorem chn_len {rs : List Row} (S : ShpR rs) : ∀ {l : List Nat} {k : Nat} {o : Option Nat}, Chn rs (k :: l) o → l.length + 1 ≤ dp rs k
  | [], k, o, c => by
    have : k < rs.length := by have := (List.getElem?_eq_some_iff.mp c).1; rw [uL_len] at this; exact this
    obtain ⟨t, e⟩ := U_head (uL_par S) (h := k) (by rw [uL_len]; exact this)
    show 1 ≤ _; unfold dp; rw [e]; simp
  | k' :: r, k, o, c => by
    have a := dp_edge S c.1
    have b := chn_len S c.2
    simp only [List.length_cons] at b ⊢; omega
theorem dp_le {rs : List Row} (S : ShpR rs) (k : Nat) : dp rs k ≤ 65 := by
  have := U_len (uL rs) k
  have n := S.n64
  rw [uL_len] at this
  unfold dp; omega
structure MI (r0 rs : List Row) (met : List Nat) (o : Option Nat) : Prop where
  S : ShpR rs
  len : rs.length = r0.length
  par : tldP rs = tldP r0
  wor : tldW rs = tldW r0
  non : ∀ m ∈ met, (sL rs)[m]? = some none
  way : Chn rs met o
  lt : ∀ h, o = some h → h < rs.length
theorem mi_start {rs : List Row} (S : ShpR rs) {h : Nat} (hh : h < rs.length) : MI rs rs [] (some h) :=
  ⟨S, rfl, rfl, rfl, fun m hm => (by cases hm), trivial, fun k e => (by injection e with e; omega)⟩
theorem mi_step {r0 rs : List Row} {met : List Nat} {h : Nat} (I : MI r0 rs met (some h)) : MI r0 (toR rs h) (met ++ [h]) (rowU (toR rs h) h) ∧ (uL (toR rs h))[h]? = some (rowU (toR rs h) h) := by
  have S := I.S
  have hh := I.lt h rfl
  obtain ⟨o, z⟩ := to_op S hh
  have S' := o.S
  have hh' : h < (toR rs h).length := by rw [o.len]; exact hh
  have eh := (root_iff_son S' hh').mpr z
  have th := tp_none S' eh
  have nt : ∀ m ∈ met, m ≠ tp rs h := fun m hm w => by
    have a := chn_dp S I.way m hm
    have b := sU_sub S hh (tp_top S hh).2
    have b : dp rs (tp rs h) ≤ dp rs h := b
    rw [← w] at b; omega
  have gu : (uL (toR rs h))[h]? = some (rowU (toR rs h) h) := by
    obtain ⟨r, er⟩ := row_get hh'
    rw [uL_get er, rowU_row er]
  refine ⟨⟨S', o.len.trans I.len, o.par.trans I.par, o.wor.trans I.wor, fun m hm => ?_, ?_, fun k e => ?_⟩, gu⟩
  · rcases List.mem_append.mp hm with hm | hm
    · exact (o.oth m (I.non m hm) (nt m hm)).1
    · rw [List.mem_singleton] at hm; subst hm; exact eh
  · exact chn_snoc gu (chn_mono (fun m hm => (o.oth m (I.non m hm) (nt m hm)).2.2) I.way)
  · rw [e] at gu
    have := (uL_par S').ok _ (List.mem_of_getElem? gu) k rfl
    rw [uL_len] at this; exact this
theorem mi_len {r0 rs : List Row} {met : List Nat} {o : Option Nat} (I : MI r0 rs met o) : met.length ≤ 65 := by
  cases met with
  | nil => simp
  | cons k l =>
    have := chn_len I.S I.way
    have := dp_le I.S k
    simp only [List.length_cons]; omega
theorem not_son_ {rs : List Row} (S : ShpR rs) {c : Nat} (hc : c < rs.length) (k : ∀ z, ¬ Sn rs z c) : isSon rs c = false := by
  cases w : isSon rs c with
  | false => rfl
  | true =>
    obtain ⟨p, e⟩ := sL_some hc w S
    exact absurd ((sn_edge S).mpr e) (k p)
/-! ### splices -/
def splR (rs : List Row) (z : Nat) (o : Option Nat) : List Row := match rs[z]? with
  | some r => rs.set z ⟨r.u, r.l, o, r.t, r.a, r.v⟩
  | none => rs
def splL : List Row → Option Nat → List Nat → List Row
  | rs, _, [] => rs
  | rs, a, m :: ms => splL (splR rs m a) (some m) ms
theorem spl_len (rs : List Row) (z : Nat) (o : Option Nat) : (splR rs z o).length = rs.length := by
  unfold splR; split
  · rw [List.length_set]
  · rfl
theorem spl_get {rs : List Row} {z : Nat} {r : Row} (e : rs[z]? = some r) (o : Option Nat) (j : Nat) : (splR rs z o)[j]? = if j = z then some ⟨r.u, r.l, o, r.t, r.a, r.v⟩ else rs[j]? := by
  unfold splR
  rw [e]
  dsimp only
  have hz := (List.getElem?_eq_some_iff.mp e).1
  by_cases h : j = z
  · subst h; rw [if_pos rfl, List.getElem?_set_self hz]
  · rw [if_neg h, List.getElem?_set_ne (Ne.symm h)]
theorem spl_uL (rs : List Row) (z : Nat) (o : Option Nat) : uL (splR rs z o) = uL rs := by
  cases e : rs[z]? with
  | none => unfold splR; rw [e]
  | some r =>
    apply List.ext_getElem?
    intro j
    unfold uL
    rw [List.getElem?_map, List.getElem?_map, spl_get e]
    by_cases h : j = z
    · subst h; rw [if_pos rfl, e]; rfl
    · rw [if_neg h]
theorem spl_shp {rs : List Row} (S : ShpR rs) {z : Nat} {o : Option Nat} (hz : z < rs.length) (ho : ∀ c, o = some c → (sL rs)[c]? = some none ∧ (uL rs)[c]? = some (some z)) : ShpR (splR rs z o) := by
  obtain ⟨r, e⟩ := row_get hz
  have rowc : ∀ c, (uL rs)[c]? = some (some z) → ∃ q : Row, rs[c]? = some q ∧ q.u = some z := fun c hc => by
    have : c < rs.length := by have := (List.getElem?_eq_some_iff.mp hc).1; rw [uL_len] at this; exact this
    obtain ⟨q, eq⟩ := row_get this
    rw [uL_get eq] at hc
    injection hc with hc
    exact ⟨q, eq, hc⟩
  have get : ∀ (j : Nat) (q : Row), rs[j]? = some q → ∃ q' : Row, (splR rs z o)[j]? = some q' ∧ q'.u = q.u := fun j q g => by
    rw [spl_get e]
    by_cases h : j = z
    · subst h; rw [e] at g; cases g; exact ⟨_, if_pos rfl, rfl⟩
    · exact ⟨q, by rw [if_neg h]; exact g, rfl⟩
  have inv : ∀ q' ∈ splR rs z o, q' = ⟨r.u, r.l, o, r.t, r.a, r.v⟩ ∨ q' ∈ rs := fun q' m => by
    unfold splR at m
    rw [e] at m
    exact (List.mem_or_eq_of_mem_set m).symm
  have ok := S.ok r (List.mem_of_getElem? e)
  refine shp_of (fun q' m => ?_) (fun q' m => ?_) (fun j q' g => ?_) (by rw [spl_uL]; exact uL_par S)
  · rw [spl_len]
    rcases inv q' m with rfl | m
    · refine ⟨ok.u, ok.l, fun c hc => ?_⟩
      have := sL_lt (ho c hc).1
      exact this
    · exact S.ok q' m
  · rcases inv q' m with rfl | m
    · show r.l = none ∨ r.l ≠ o
      cases hc : r.l with
      | none => exact .inl rfl
      | some c =>
        refine .inr fun w => ?_
        have a := son_edge S e (.inl hc)
        rw [(ho c w.symm).1] at a; cases a
    · exact S.two q' m
  · rw [spl_get e] at g
    have lift : ∀ {q : Row} {oo : Option Nat}, sonIs rs j oo → sonIs (splR rs z o) j oo := fun {q oo} k c hc => by
      obtain ⟨q2, e2, u2⟩ := k c hc
      obtain ⟨q3, e3, u3⟩ := get c q2 e2
      exact ⟨q3, e3, by rw [u3]; exact u2⟩
    by_cases h : j = z
    · subst h
      rw [if_pos rfl] at g
      injection g with g
      subst g
      refine ⟨lift (q := r) (S.sons j r e).1, fun c hc => ?_⟩
      obtain ⟨q, e2, u2⟩ := rowc c (ho c hc).2
      obtain ⟨q3, e3, u3⟩ := get c q e2
      exact ⟨q3, e3, by rw [u3]; exact u2⟩
    · rw [if_neg h] at g
      exact ⟨lift (q := q') (S.sons j q' g).1, lift (q := q') (S.sons j q' g).2⟩
theorem spl_none {rs : List Row} (S : ShpR rs) {z : Nat} {o : Option Nat} (hz : z < rs.length) (S' : ShpR (splR rs z o)) {c : Nat} (e : (sL rs)[c]? = some none) (n : o ≠ some c) : (sL (splR rs z o))[c]? = some none := by
  have hc := sL_lt e
  obtain ⟨r, er⟩ := row_get hz
  refine (root_iff_son S' (by rw [spl_len]; exact hc)).mpr (not_son_ S' (by rw [spl_len]; exact hc) fun w k => ?_)
  obtain ⟨q', g, k⟩ := k
  rw [spl_get er] at g
  by_cases h : w = z
  · subst h
    rw [if_pos rfl] at g
    injection g with g
    subst g
    rcases k with k | k
    · have := son_edge S er (.inl k); rw [e] at this; cases this
    · exact n k
  · rw [if_neg h] at g
    have := son_edge S g k; rw [e] at this; cases this
theorem splL_ok : ∀ (ms : List Nat) {rs : List Row} {a o : Option Nat}, ShpR rs → (∀ m ∈ ms, (sL rs)[m]? = some none) → Chn rs ms o → (∀ c m, a = some c → ms.head? = some m → (sL rs)[c]? = some none ∧ (uL rs)[c]? = some (some m)) → ShpR (splL rs a ms) ∧ (splL rs a ms).length = rs.length ∧ uL (splL rs a ms) = uL rs
  | [], rs, a, o, S, _, _, _ => ⟨S, rfl, rfl⟩
  | m :: ms, rs, a, o, S, k, c, ha => by
    have hm := sL_lt (k m List.mem_cons_self)
    have S' := spl_shp S (z := m) (o := a) hm fun d e => ha d m e rfl
    have dd := chn_dec S c
    have na : ∀ w ∈ m :: ms, a ≠ some w := fun w hw e => by
      have := dp_edge S (ha w m e rfl).2
      rcases List.mem_cons.mp hw with e2 | e2
      · subst e2; omega
      · have := dd w e2; omega
    have nn : ∀ w ∈ m :: ms, (sL (splR rs m a))[w]? = some none := fun w hw => spl_none S hm S' (k w hw) (na w hw)
    have u' := spl_uL rs m a
    have c' : Chn (splR rs m a) (m :: ms) o := chn_mono (fun w _ => by rw [u']) c
    have ct : Chn (splR rs m a) ms o := by
      cases ms with
      | nil => trivial
      | cons m' r => exact c'.2
    obtain ⟨h1, h2, h3⟩ := splL_ok ms (rs := splR rs m a) (a := some m) S' (fun w hw => nn w (List.mem_cons_of_mem _ hw)) ct fun d w e eh => by
      injection e with e
      subst e
      refine ⟨nn m List.mem_cons_self, ?_⟩
      cases ms with
      | nil => cases eh
      | cons m' r => injection eh with eh; subst eh; exact c'.1
    exact ⟨h1, h2.trans (spl_len rs m a), h3.trans u'⟩

/-! ### pass 1, whole -/
def mtR : Nat → List Row → List Nat → Option Nat → Nat → List Row × List Nat × Nat
  | 0, rs, met, _, k => (rs, met, k)
  | _ + 1, rs, met, none, k => (rs, met, k)
  | f + 1, rs, met, some h, k => mtR f (toR rs h) (met ++ [h]) (rowU (toR rs h) h) (k + stN h (fu rs) (hnT rs h))
theorem mtR_none (n : Nat) (rs : List Row) (met : List Nat) (k : Nat) : mtR n rs met none k = (rs, met, k) := by cases n <;> rfl
theorem mtR_ok {r0 : List Row} : ∀ (n : Nat) {rs : List Row} {met : List Nat} {o : Option Nat} (k : Nat), MI r0 rs met o → 66 ≤ n + met.length → MI r0 (mtR n rs met o k).1 (mtR n rs met o k).2.1 none ∧ ∃ t, (mtR n rs met o k).2.1 = met ++ t ∧ (∀ h, o = some h → t.head? = some h)
  | 0, rs, met, o, k, I, e => by have := mi_len I; omega
  | n + 1, rs, met, none, k, I, e => ⟨I, [], by simp [mtR_none], fun h z => by cases z⟩
  | n + 1, rs, met, some h, k, I, e => by
    have I' := (mi_step I).1
    obtain ⟨a, t, b, _⟩ := mtR_ok n (k + stN h (fu rs) (hnT rs h)) I' (by rw [List.length_append, List.length_singleton]; omega)
    exact ⟨a, h :: t, by rw [show (mtR (n + 1) rs met (some h) k).2.1 = _ from b, List.append_assoc]; rfl, fun h' z => by injection z with z; subst z; rfl⟩
def mtF (rs : List Row) (h : Nat) : List Row × List Nat × Nat := mtR (fu rs) rs [] (some h) 0
theorem mtF_eq (rs : List Row) (h : Nat) : mtF rs h = mtR (fu rs) rs [] (some h) 0 := rfl
theorem mtF_ok {rs : List Row} (S : ShpR rs) {h : Nat} (hh : h < rs.length) : MI rs (mtF rs h).1 (mtF rs h).2.1 none ∧ (mtF rs h).2.1.head? = some h := by
  obtain ⟨a, t, b, c⟩ := mtR_ok (fu rs) 0 (mi_start S hh) (by unfold fu; omega)
  rw [mtF_eq]
  refine ⟨a, ?_⟩
  rw [b, List.nil_append]; exact c h rfl
theorem mtR_some (f : Nat) (rs : List Row) (met : List Nat) (h k : Nat) : mtR (f + 1) rs met (some h) k = mtR f (toR rs h) (met ++ [h]) (rowU (toR rs h) h) (k + stN h (fu rs) (hnT rs h)) := rfl
theorem toR_eq (rs : List Row) (h : Nat) : toR rs h = itR h (fu rs) (hnT rs h) := rfl
theorem hnT_eq (rs : List Row) (h : Nat) : hnT rs h = hnL rs (U (sL rs) h).reverse := rfl
theorem itR_zero (h : Nat) (rs : List Row) : itR h 0 rs = rs := rfl
def spF (rs : List Row) (h : Nat) : List Row := splL (mtF rs h).1 none (mtF rs h).2.1
theorem spF_ok {rs : List Row} (S : ShpR rs) {h : Nat} (hh : h < rs.length) : ShpR (spF rs h) ∧ (spF rs h).length = rs.length := by
  obtain ⟨I, _⟩ := mtF_ok S hh
  obtain ⟨a, b, _⟩ := splL_ok (mtF rs h).2.1 (a := none) (o := none) I.S I.non I.way fun c m e => by cases e
  exact ⟨a, b.trans I.len⟩
theorem spF_eq (rs : List Row) (h : Nat) : spF rs h = splL (mtF rs h).1 none (mtF rs h).2.1 := rfl

theorem last_at (l : List D) (d : D) : atI (l ++ [d]) (-1) = some d := by
  unfold atI
  have e : ixN (l ++ [d]).length (-1) = some l.length := by
    unfold ixN
    rw [if_neg (by decide), if_pos (by rw [List.length_append, List.length_singleton]; omega)]
    congr 1
    rw [List.length_append, List.length_singleton]; omega
  rw [e]; simp
theorem lq_ref {G : Gp} {p : Addr} {xs : List D} (h : G p = some (.lst xs)) : lq G (.ref p) = some xs := by
  unfold lq
  simp only
  rw [h]
theorem hnL_snoc (rs : List Row) (l : List Nat) (z : Nat) : hnL rs (l ++ [z]) = handR (hnL rs l) z := by
  unfold hnL; rw [List.foldl_append]; rfl
theorem row_up {rs : List Row} {z : Nat} {r : Row} (e : rs[z]? = some r) : rowU rs z = r.u := rowU_row e
theorem par_get {rs : List Row} {h : Nat} {q : Row} (g : rs[h]? = some q) : atI (rs.map Row.d) (h : Int) = some q.d := at_row g
theorem rows_fD (qs : List Row) : ∃ f : Nat → Row, qs.map Row.d = fD qs.length f ∧ ∀ j q, qs[j]? = some q → f j = q := by
  obtain ⟨f, ef⟩ := fun_rows (rs := qs)
  refine ⟨f, (congrArg (List.map Row.d) ef).trans (fD_rows _ f).symm, fun j q e => ?_⟩
  have hj := (List.getElem?_eq_some_iff.mp e).1
  rw [ef, fn_get hj] at e
  injection e
theorem spl_rows {qs : List Row} {f : Nat → Row} (ef : qs.map Row.d = fD qs.length f) {z : Nat} {r : Row} (e : qs[z]? = some r) (o : Option Nat) : fD qs.length (upf f z ⟨r.u, r.l, o, r.t, r.a, r.v⟩) = (splR qs z o).map Row.d := by
  have hz := (List.getElem?_eq_some_iff.mp e).1
  rw [← fD_set f _ hz, ← ef]
  unfold splR
  rw [e]
  dsimp only
  rw [List.map_set]
def aft (a : Option Nat) (l : List Nat) : Option Nat := match l.getLast? with
  | some z => some z
  | none => a
theorem aft_cons (a : Option Nat) (m : Nat) (l : List Nat) : aft a (m :: l) = aft (some m) l := by
  unfold aft
  cases l with
  | nil => rfl
  | cons x l => rw [List.getLast?_cons_cons]; cases e : (x :: l).getLast? with
    | none => simp at e
    | some z => rfl
theorem aft_snoc (a : Option Nat) (l : List Nat) (z : Nat) : aft a (l ++ [z]) = some z := by
  unfold aft; rw [List.getLast?_append]; rfl
theorem splL_snoc : ∀ (l : List Nat) (rs : List Row) (a : Option Nat) (z : Nat), splL rs a (l ++ [z]) = splR (splL rs a l) z (aft a l)
  | [], _, _, _ => rfl
  | m :: l, rs, a, z => by
    show splL (splR rs m a) (some m) (l ++ [z]) = _
    rw [splL_snoc l, aft_cons]; rfl
theorem splL_len : ∀ (l : List Nat) (rs : List Row) (a : Option Nat), (splL rs a l).length = rs.length
  | [], _, _ => rfl
  | m :: l, rs, a => by
    show (splL (splR rs m a) (some m) l).length = _
    rw [splL_len l, spl_len]
theorem up_at (r : Row) : atI r.items 0 = some (pl r.u) := rfl

theorem d_inj {a b : Row} (h : a.d = b.d) : a = b := by
  have := rows_inj (rs := [a]) (qs := [b]) (by simp [h])
  injection this

def lwe (c : Str) : Option Str := if c = Str.ofString "NoShape" then some (Str.ofString "shape") else if c = Str.ofString "NoHouse" then some (Str.ofString "house") else if c = Str.ofString "NoNumber" then some (Str.ofString "number") else none
theorem lwe_cases {c w : Str} (h : lwe c = some w) : (c = Str.ofString "NoShape" ∧ w = Str.ofString "shape") ∨ (c = Str.ofString "NoHouse" ∧ w = Str.ofString "house") ∨ (c = Str.ofString "NoNumber" ∧ w = Str.ofString "number") := by
  unfold lwe at h
  split at h
  · rename_i e; exact .inl ⟨e, (Option.some.inj h).symm⟩
  split at h
  · rename_i e; exact .inr (.inl ⟨e, (Option.some.inj h).symm⟩)
  split at h
  · rename_i e; exact .inr (.inr ⟨e, (Option.some.inj h).symm⟩)
  · cases h

theorem eraseIdx_map_ (a : List Nat) (k : Nat) : (a.map fun (j : Nat) => D.int j).eraseIdx k = (a.eraseIdx k).map fun (j : Nat) => D.int j := by
  induction a generalizing k with
  | nil => rfl
  | cons x a ih => cases k with
    | zero => rfl
    | succ k => simp [List.eraseIdx, ih]
def RowQ (n : Nat) (x : D) : Prop := ∃ r : Row, x = r.d ∧ r.ok n ∧ r.two

/-- a row that is laid, or none yet -/
def Cel (h p : Addr) (G : Gp) (y : D) : Prop := y = .fl [] ∨ ∃ a r, y = .ref a ∧ a ≠ h ∧ a ≠ p ∧ G a = some (.lst (Row.items r))
def Rtu (y : D) : Prop := y = .tup [] ∨ ∃ r : Row, y = r.d
/-- others stay -/
def Oth (h p : Addr) (G G' : Gp) : Prop := ∀ b o, b ≠ h → b ≠ p → G b = some o → G' b = some o
theorem Oth.trans {h p : Addr} {A B C : Gp} (a : Oth h p A B) (b : Oth h p B C) : Oth h p A C := fun x o n1 n2 e => b x o n1 n2 (a x o n1 n2 e)
theorem Cel.oth {h p : Addr} {G G' : Gp} {y : D} (c : Cel h p G y) (o : Oth h p G G') : Cel h p G' y := by
  rcases c with e | ⟨a, r, e, n1, n2, g⟩
  · exact .inl e
  · exact .inr ⟨a, r, e, n1, n2, o a _ n1 n2 g⟩
structure PS (h p : Addr) (cs : List D) (m : Nat) (G : Gp) : Prop where
  hh : ∃ i c s t, G h = some (hnd cs i c s t) ∧ HOk cs i c
  pp : ∃ L, G p = some (.lst L) ∧ L.length = m ∧ ∀ y ∈ L, Cel h p G y
theorem PS.hand {h p : Addr} {cs : List D} {m : Nat} {G : Gp} (a : PS h p cs m G) (ne : h ≠ p) {i c s t : Int} (ok : HOk cs i c) : PS h p cs m (up G h (hnd cs i c s t)) ∧ Oth h p G (up G h (hnd cs i c s t)) := by
  have o : Oth h p G (up G h (hnd cs i c s t)) := fun b o n1 _ e => by rw [up_ne n1]; exact e
  obtain ⟨L, e, l, k⟩ := a.pp
  exact ⟨⟨⟨i, c, s, t, up_same, ok⟩, ⟨L, by rw [up_ne (Ne.symm ne)]; exact e, l, fun y hy => (k y hy).oth o⟩⟩, o⟩

theorem cut_tk (xs : List D) (k : Nat) : L3.cutD xs none (some (k : Int)) = xs.take k := by
  unfold L3.cutD
  rw [HT.sIx_none, HT.sIx_nat, List.drop_zero, Nat.sub_zero]
  exact List.take_eq_take_iff.mpr (by omega)
theorem cut_dr (xs : List D) (k : Nat) : L3.cutD xs (some (k : Int)) none = xs.drop k := by
  unfold L3.cutD
  rw [HT.sIx_none, HT.sIx_nat]
  by_cases h : k ≤ xs.length
  · rw [Nat.min_eq_left h]
    exact List.take_of_length_le (by rw [List.length_drop]; omega)
  · rw [Nat.min_eq_right (by omega), List.drop_eq_nil_of_le (by omega), List.drop_eq_nil_of_le (by omega)]
    simp
theorem cut_tk_ (l : List Nat) (k : Nat) : L3.cutD (l.map fun (j : Nat) => D.int j) none (some (k : Int)) = (l.take k).map fun (j : Nat) => D.int j := by
  rw [cut_tk, List.map_take]
theorem cut_dr_ (l : List Nat) (k : Nat) : L3.cutD (l.map fun (j : Nat) => D.int j) (some ((k : Int) + 1)) none = (l.drop (k + 1)).map fun (j : Nat) => D.int j := by
  rw [show ((k : Int) + 1) = ((k + 1 : Nat) : Int) by omega, cut_dr, List.map_drop]

/-! #### comes_to_none -/

def sp_comes_to_none : Sp3 := fun ds G Q E => match ds with | [.tup xs, .int i] => ∃ (ps : List (Option Nat)) (h : Nat), xs = ps.map pl ∧ i = h ∧ h < ps.length ∧ ps.length ≤ 64 ∧ (∀ o ∈ ps, okp ps.length o) ∧ Q (.bl (goP ps ps.length h)) G | _ => False
def t_comes_to_none : TS3 :=
    (sseq (sset 2 (tv 1))
    (sseq (sfor (irng1 (acons (tcb bLen (acons (tv 0) anil)) anil)) (.n 3) (sseq (sset 2 (t2 ix3 (tv 0) (tv 2)))
    (sif (tb3 (t2 (is3 false) (tv 2) (tc .non))) (sret (tc (.bl true))) snext)))
    (sret (tc (.bl false)))))
set_option maxHeartbeats 4000000 in
theorem vc_comes_to_none (ds : List D) (G : Gp) (Q : QK) (E : EK) (h : sp_comes_to_none ds G Q E) : t_comes_to_none (fnEnds Q E) (start3 N_comes_to_none ds) G := by
  unfold sp_comes_to_none at h
  split at h
  case h_2 => exact h.elim
  obtain ⟨rs, h, rfl, rfl, hl, l64, ok, hq⟩ := h
  refine ⟨_, rfl, _, rfl, _, rfl, _, rfl, (by rw [List.length_map]; omega), (by rw [List.length_map]; omega), ?_⟩
  rw [List.length_map]
  refine forL_inv (fun k σ G' => G' = G ∧ ∃ (i : Nat) (y : Option D), i < rs.length ∧ k ≤ rs.length ∧ goP rs (rs.length - k) i = goP rs rs.length h ∧ σ = [some (.tup (rs.map pl)), some (.int h), some (.int i), y]) ?_ ?_ ⟨rfl, h, none, hl, by omega, by simp, rfl⟩
  · rintro k x σ G' N ex ⟨rfl, i, y, hi, hk, e, rfl⟩ hN
    have hk2 : k < rs.length := by
      obtain ⟨h3, _⟩ := List.getElem?_eq_some_iff.mp ex
      simpa using h3
    obtain ⟨o, er⟩ : ∃ o, rs[i]? = some o := ⟨rs[i], by simp [hi]⟩
    have oko := ok o (List.mem_of_getElem? er)
    have e2 : goP rs (rs.length - k) i = o.elim true (goP rs (rs.length - (k + 1))) := by
      rw [show rs.length - k = (rs.length - (k + 1)) + 1 by omega]
      exact goP_succ er
    refine ⟨trivial, _, rfl, _, rfl, _, _, rfl, at_pl er, _, rfl, _, rfl, ?_⟩
    cases o with
    | none =>
      refine ite_b (fun z => dn_refl ?_) (fun z => by cases z)
      rw [← e, e2] at hq; exact hq
    | some p =>
      refine ite_b (fun z => by cases z) (fun z => ?_)
      exact hN _ _ ⟨rfl, p, _, oko p rfl, by omega, e2.symm.trans e, rfl⟩
  · rintro σ G' ⟨rfl, i, y, hi, hk, e, rfl⟩
    refine ⟨trivial, dn_refl ?_⟩
    have e : goP rs (rs.length - (((List.range (rs.length : Int).toNat).map fun (i : Nat) => D.int i).length)) i = goP rs rs.length h := e
    rw [List.length_map, List.length_range, Int.toNat_natCast, Nat.sub_self] at e
    rw [← e] at hq
    exact hq
/-! #### is_integer -/

def sp_is_integer : Sp3 := fun ds G Q E => match ds with | [x] => kn OC x = true ∧ Q (.bl (isI x)) G | _ => False
def t_is_integer : TS3 :=
    (sret (tand (tisi (isT OC .int) (tv 0)) (tnot (tisi (isT OC .bl) (tv 0)))))
set_option maxHeartbeats 4000000 in
theorem vc_is_integer (ds : List D) (G : Gp) (Q : QK) (E : EK) (h : sp_is_integer ds G Q E) : t_is_integer (fnEnds Q E) (start3 N_is_integer ds) G := by
  unfold sp_is_integer at h
  split at h
  case h_2 => exact h.elim
  rename_i x
  refine ⟨_, rfl, isi_use (P := fun b => _) h.1 ⟨_, rfl, ite_b (fun hc => ?_) (fun hc => ?_)⟩⟩
  · refine ⟨_, rfl, isi_use (P := fun b => _) h.1 ⟨_, rfl, dn_refl ?_⟩⟩
    have := isI_eq x
    rw [hc, Bool.true_and] at this
    rw [this]; exact h.2
  · refine dn_refl ?_
    have := isI_eq x
    rw [hc, Bool.false_and] at this
    rw [this]; exact h.2
/-! #### is_within -/

def sp_is_within : Sp3 := fun ds G Q E => match ds with | [x, .int a, .int b] => kn OC x = true ∧ Q (.bl (wiI a b x)) G | _ => False
def t_is_within : TS3 :=
    (sret (tand (tcall sp_is_integer (acons (tv 0) anil)) (tch le3 le3 (tv 1) (tv 0) (tv 2))))
set_option maxHeartbeats 4000000 in
theorem vc_is_within (ds : List D) (G : Gp) (Q : QK) (E : EK) (h : sp_is_within ds G Q E) : t_is_within (fnEnds Q E) (start3 N_is_within ds) G := by
  unfold sp_is_within at h
  split at h
  case h_2 => exact h.elim
  rename_i x a b
  refine ⟨_, rfl, h.1, _, rfl, ite_b (fun hc => ?_) (fun hc => ?_)⟩
  · obtain ⟨i, rfl⟩ := isI_of hc
    refine ⟨_, rfl, _, rfl, _, rfl, ite_b (fun h1 => ?_) (fun h1 => ?_)⟩
    · refine ⟨_, rfl, dn_refl ?_⟩
      have this : Q (.bl (decide (a ≤ i) && decide (i ≤ b))) G := h.2
      rwa [h1, Bool.true_and] at this
    · refine dn_refl ?_
      have this : Q (.bl (decide (a ≤ i) && decide (i ≤ b))) G := h.2
      rwa [h1, Bool.false_and] at this
  · refine dn_refl ?_
    rw [show wiI a b x = false by cases x <;> first | rfl | cases hc] at h
    exact h.2
/-! #### is_below -/

def sp_is_below : Sp3 := fun ds G Q E => match ds with | [x, .int b] => kn OC x = true ∧ Q (.bl (wiI 0 (b - 1) x)) G | _ => False
def t_is_below : TS3 :=
    (sret (tcall sp_is_within (acons (tv 0) (acons (tc (.int 0)) (acons (t2 sub3 (tv 1) (tc (.int 1))) anil)))))
set_option maxHeartbeats 4000000 in
theorem vc_is_below (ds : List D) (G : Gp) (Q : QK) (E : EK) (h : sp_is_below ds G Q E) : t_is_below (fnEnds Q E) (start3 N_is_below ds) G := by
  unfold sp_is_below at h
  split at h
  case h_2 => exact h.elim
  exact ⟨_, rfl, _, rfl, h.1, dn_refl h.2⟩
/-! #### is_sized -/

def sp_is_sized : Sp3 := fun ds G Q E => match ds with | [x, .int a, .int b] => kn OC x = true ∧ Q (.bl (siI a b x)) G | _ => False
def t_is_sized : TS3 :=
    (sret (tand (tisi (isT OC .tup) (tv 0)) (tch le3 le3 (tv 1) (tcb bLen (acons (tv 0) anil)) (tv 2))))
set_option maxHeartbeats 4000000 in
theorem vc_is_sized (ds : List D) (G : Gp) (Q : QK) (E : EK) (h : sp_is_sized ds G Q E) : t_is_sized (fnEnds Q E) (start3 N_is_sized ds) G := by
  unfold sp_is_sized at h
  split at h
  case h_2 => exact h.elim
  rename_i x a b
  refine ⟨_, rfl, isi_use (P := fun b => _) h.1 ⟨_, rfl, ite_b (fun hc => ?_) (fun hc => ?_)⟩⟩
  · obtain ⟨xs, rfl⟩ := isT_of hc
    refine ⟨_, rfl, _, rfl, _, rfl, _, rfl, ite_b (fun h1 => ?_) (fun h1 => ?_)⟩
    · refine ⟨_, rfl, dn_refl ?_⟩
      have this : Q (.bl (decide (a ≤ (xs.length : Int)) && decide ((xs.length : Int) ≤ b))) G := h.2
      rwa [h1, Bool.true_and] at this
    · refine dn_refl ?_
      have this : Q (.bl (decide (a ≤ (xs.length : Int)) && decide ((xs.length : Int) ≤ b))) G := h.2
      rwa [h1, Bool.false_and] at this
  · refine dn_refl ?_
    rw [show siI a b x = false by cases x <;> first | rfl | (simp [isiD] at hc)] at h
    exact h.2
/-! #### are_parents -/

def sp_are_parents : Sp3 := fun ds G Q E => match ds with | [x] => wkr x = true ∧ ∀ b, (b = true ↔ ParP x) → Q (.bl b) G | _ => False
def t_are_parents : TS3 :=
    (sseq (sif (Tnot (tb3 (tcall sp_is_sized (acons (tv 0) (acons (tc (.int 1)) (acons (tc (.int 64)) anil)))))) (sret (tc (.bl false))) snext)
    (sseq (sif (Tnot (tb3 (tcb bAll (acons (tlc false (iseq (tv 0)) (.n 2) Tyes (tor (t2 (is3 false) (tv 2) (tc .non)) (tcall sp_is_below (acons (tv 2) (acons (tcb bLen (acons (tv 0) anil)) anil)))) [2]) anil)))) (sret (tc (.bl false))) snext)
    (sret (tcb bAll (acons (tlc false (irng1 (acons (tcb bLen (acons (tv 0) anil)) anil)) (.n 1) Tyes (tcall sp_comes_to_none (acons (tv 0) (acons (tv 1) anil))) [1]) anil)))))
set_option maxHeartbeats 4000000 in
theorem vc_are_parents (ds : List D) (G : Gp) (Q : QK) (E : EK) (h : sp_are_parents ds G Q E) : t_are_parents (fnEnds Q E) (start3 N_are_parents ds) G := by
  unfold sp_are_parents at h
  split at h
  case h_2 => exact h.elim
  rename_i x
  obtain ⟨hk, hq⟩ := h
  have no : ¬ ParP x → dn Q (.bl false) G := fun h => dn_refl (hq false ⟨nof, fun z => absurd z h⟩)
  refine ⟨_, rfl, wkr_kn hk, _, rfl, ite_b (fun z => no ?_) (fun z => ?_)⟩
  · rintro ⟨rs, rfl, h⟩
    have := siI_tup.mpr (show (1 : Int) ≤ ((rs.map pl).length : Int) ∧ ((rs.map pl).length : Int) ≤ 64 by rw [List.length_map]; have := h.n1; have := h.n64; omega)
    have z : (!siI 1 64 (.tup (rs.map pl))) = true := z
    rw [this] at z; cases z
  obtain ⟨xs, rfl, l1, l2⟩ := siI_of (x := x) (by simpa using z)
  have hk : ∀ y ∈ xs, kn OC y = true := List.all_eq_true.mp hk
  refine ⟨_, rfl, xs, rfl, lc_pure (fun y => some (.bl (plB xs.length y))) (fun y my G' _ R hR => ?_) (fun _ _ => trivial) (by show _ ≤ 16777216; omega) ?_⟩
  · refine ⟨_, rfl, _, rfl, ite_b (fun z => ?_) (fun z => ?_)⟩
    · have e : y = .non := by cases y <;> first | rfl | cases z
      subst e
      exact hR
    · refine ⟨_, rfl, _, rfl, xs, rfl, hk y my, ?_⟩
      have e : plB xs.length y = wiI 0 (xs.length - 1) y := by cases y <;> first | rfl | cases z
      rw [e] at hR; exact hR
  refine ⟨_, _, rfl, bls_map _ _, _, rfl, ite_b (fun z => no ?_) (fun z => ?_)⟩
  · rintro ⟨rs, e, h⟩
    injection e with e
    subst e
    have : ((rs.map pl).map (plB ((rs.map pl).length : Nat))).all id = true := by
      rw [List.all_eq_true]
      intro b hb
      obtain ⟨y, hy, rfl⟩ := List.mem_map.mp hb
      obtain ⟨r, hr, rfl⟩ := List.mem_map.mp hy
      exact plB_ok.mpr ⟨r, rfl, by rw [List.length_map]; exact h.ok r hr⟩
    rw [this] at z; cases z
  have z : (xs.map (plB xs.length)).all id = true := by cases h : (xs.map (plB xs.length)).all id <;> simp [h] at z ⊢
  obtain ⟨rs, rfl, ok⟩ := pls_all (n := xs.length) (xs := xs) fun y hy => List.all_eq_true.mp z _ (List.mem_map_of_mem hy)
  rw [List.length_map] at ok l1 l2
  have hq : ∀ b, (b = true ↔ ParR rs) → dn Q (.bl b) G := fun b h => dn_refl (hq b (h.trans par_pls.symm))
  refine ⟨_, rfl, _, rfl, _, rfl, (by rw [List.length_map]; omega), (by rw [List.length_map]; omega), lc_pure (fun y => match y with | .int i => some (.bl (goP rs rs.length i.toNat)) | _ => none) (fun y my G'' _ R hR => ?_) (fun _ _ => trivial) (by rw [List.length_map, List.length_range, List.length_map]; show _ ≤ 16777216; omega) ?_⟩
  · obtain ⟨i, hi, rfl⟩ := List.mem_map.mp my
    rw [List.mem_range, List.length_map] at hi
    have hi : i < rs.length := by omega
    refine ⟨_, rfl, _, rfl, rs, i, rfl, rfl, hi, by omega, ok, ?_⟩
    have hR : R (some (.bl (goP rs rs.length (i : Int).toNat))) G'' := hR
    rw [Int.toNat_natCast] at hR
    exact hR
  have e1 : ∀ n : Nat, blsD (((List.range n).map fun (i : Nat) => D.int i).filterMap fun y => match y with | .int i => some (.bl (goP rs rs.length i.toNat)) | _ => none) = some ((List.range n).map fun i => goP rs rs.length i) := fun n => by
    rw [List.filterMap_map]
    exact bls_map (List.range n) fun i => goP rs rs.length i
  refine ⟨_, _, rfl, e1 _, hq _ ?_⟩
  rw [List.all_eq_true]
  constructor
  · intro h
    refine ⟨by omega, by omega, ok, fun i hi => ?_⟩
    exact h _ (List.mem_map.mpr ⟨i, by rw [List.mem_range, List.length_map]; omega, rfl⟩)
  · rintro h b hb
    obtain ⟨i, hi, rfl⟩ := List.mem_map.mp hb
    rw [List.mem_range, List.length_map] at hi
    exact h.go i (by omega)
/-! #### Forest.__init__ -/

def sp_Forest___init__ : Sp3 := fun ds G Q E => match ds with | [.ref a, x, y] => ∃ ps ws, x = pD ps ∧ ParR ps ∧ y = wD ws ∧ ws.length = ps.length ∧ G a = some (.ins (Str.ofString "Forest") []) ∧ Q .non (up G a (.ins (Str.ofString "Forest") [(Str.ofString "parents", x), (Str.ofString "worths", y)])) | _ => False
def t_Forest___init__ : TS3 :=
    (sseq (sif (Tnot (tb3 (tcall sp_are_parents (acons (tv 1) anil)))) sdead snext)
    (sseq (sif (Tor (Tnot (tb3 (tcall sp_is_sized (acons (tv 2) (acons (tcb bLen (acons (tv 1) anil)) (acons (tcb bLen (acons (tv 1) anil)) anil)))))) (Tnot (tb3 (tcb bAll (acons (tlc false (iseq (tv 2)) (.n 3) Tyes (tcall sp_is_integer (acons (tv 3) anil)) [3]) anil))))) sdead snext)
    (sseq (sfld (Str.ofString "Forest") (Str.ofString "parents") (tv 0) (tv 1))
    (sfld (Str.ofString "Forest") (Str.ofString "worths") (tv 0) (tv 2)))))
set_option maxHeartbeats 4000000 in
theorem vc_Forest___init__ (ds : List D) (G : Gp) (Q : QK) (E : EK) (h : sp_Forest___init__ ds G Q E) : t_Forest___init__ (fnEnds Q E) (start3 N_Forest___init__ ds) G := by
  unfold sp_Forest___init__ at h
  split at h
  case h_2 => exact h.elim
  rename_i a x y
  obtain ⟨ps, ws, rfl, hp, rfl, hl, hG, hq⟩ := h
  have h64 := hp.n64
  refine ⟨_, rfl, wk_pls ps, fun b hb => ⟨_, rfl, ite_b (fun z => ?_) (fun z => ?_)⟩⟩
  · rw [hb.mpr (par_pls.mpr hp)] at z; cases z
  have s : siI (((ps.map pl).length : Nat) : Int) (((ps.map pl).length : Nat) : Int) (.tup (ws.map D.int)) = true := siI_tup.mpr (by rw [List.length_map, List.length_map]; omega)
  refine ⟨_, rfl, _, rfl, _, rfl, _, rfl, _, rfl, rfl, _, rfl, ite_b (fun z => ?_) (fun z => ?_)⟩
  · have z : (!siI (((ps.map pl).length : Nat) : Int) (((ps.map pl).length : Nat) : Int) (.tup (ws.map D.int))) = true := z
    rw [s] at z; cases z
  refine ⟨_, rfl, _, rfl, lc_pure (fun y => some (.bl (isI y))) (fun y my G' _ R hR => ?_) (fun _ _ => trivial) (by rw [List.length_map]; show _ ≤ 16777216; omega) ?_⟩
  · obtain ⟨j, _, rfl⟩ := List.mem_map.mp my
    exact ⟨_, rfl, rfl, hR⟩
  have all : ((ws.map D.int).map isI).all id = true := by
    rw [List.all_eq_true]
    intro b hb
    obtain ⟨y, hy, rfl⟩ := List.mem_map.mp hb
    obtain ⟨r, hr, rfl⟩ := List.mem_map.mp hy
    rfl
  refine ⟨_, _, rfl, bls_map _ _, _, rfl, ite_b (fun z => by rw [all] at z; cases z) (fun z => ?_)⟩
  refine ⟨_, rfl, _, rfl, a, _, rfl, hG, Nat.le_of_ble_eq_true rfl, ?_⟩
  refine ⟨_, rfl, _, rfl, a, _, rfl, up_same, Nat.le_of_ble_eq_true rfl, dn_refl ?_⟩
  rw [up_up]
  have e : put3 (Str.ofString "worths") (wD ws) (put3 (Str.ofString "parents") (pD ps) []) = [(Str.ofString "parents", pD ps), (Str.ofString "worths", wD ws)] := by
    show (if (Str.ofString "parents") = (Str.ofString "worths") then _ else _) = _
    rw [if_neg (Ne.symm nep)]; rfl
  show Q .non (up G a (.ins (Str.ofString "Forest") (put3 (Str.ofString "worths") (wD ws) (put3 (Str.ofString "parents") (pD ps) []))))
  rw [e]
  exact hq
/-! #### _law_deep -/

def sp__law_deep : Sp3 := fun ds G Q E => match ds with | [.int k] => ∀ d, wks d = true → wkr d = true → kn OC d = true → Q d G | _ => False
def t__law_deep : TS3 :=
    (sseq (sset 1 (tc .non))
    (sseq (sfor (irng1 (acons (tc (.int 36)) anil)) (.n 2) (sset 1 (tif (tb3 (t2 eq3 (tv 0) (tc (.int 0)))) (tlst false (acons (tv 1) anil)) (ttup (acons (tv 1) anil)))))
    (sret (tv 1))))
set_option maxHeartbeats 4000000 in
theorem vc__law_deep (ds : List D) (G : Gp) (Q : QK) (E : EK) (h : sp__law_deep ds G Q E) : t__law_deep (fnEnds Q E) (start3 N__law_deep ds) G := by
  unfold sp__law_deep at h
  split at h
  case h_2 => exact h.elim
  rename_i k
  refine ⟨36, rfl, by decide, by decide, forL_inv (fun _ σ G' => G' = G ∧ ∃ d y, (wks d = true ∧ wkr d = true ∧ kn OC d = true) ∧ σ = [some (.int k), some d, y]) ?_ ?_ ⟨rfl, .non, none, ⟨rfl, rfl, rfl⟩, rfl⟩⟩
  · rintro j x σ G' N ex ⟨rfl, d, y, ⟨k1, k2, k3⟩, rfl⟩ hN
    refine ⟨trivial, _, rfl, rfl, _, rfl, ite_b (fun _ => ?_) (fun _ => ?_)⟩
    · exact ⟨_, rfl, Nat.le_of_ble_eq_true rfl, hN _ _ ⟨rfl, _, _, ⟨rfl, rfl, rfl⟩, rfl⟩⟩
    · exact ⟨_, rfl, Nat.le_of_ble_eq_true rfl, hN _ _ ⟨rfl, _, _, ⟨by simp [wks, k2], by simp [wkr, k3], rfl⟩, rfl⟩⟩
  · rintro σ G' ⟨rfl, d, y, ⟨k1, k2, k3⟩, rfl⟩
    exact ⟨trivial, _, rfl, dn_refl (h d k1 k2 k3)⟩
/-! #### _law_draw -/

def sp__law_draw : Sp3 := fun ds G Q E => match ds with
  | [.ref h, .int m] => ∃ cs i c s t, G h = some (hnd cs i c s t) ∧ HOk cs i c ∧ 1 ≤ m ∧ m < 1073741824 ∧ ∀ r i' c' s' t', 0 ≤ r → r < m → HOk cs i' c' → Q (.int r) (up G h (hnd cs i' c' s' t'))
  | _ => False
def t__law_draw : TS3 :=
    (sseq (sif (Tand (tb3 (t2 eq3 (t2 ix3 (tv 0) (tc (.int 2))) (tc (.int 0)))) (tb3 (t2 lt3 (t2 ix3 (tv 0) (tc (.int 1))) (tcb bLen (acons (t2 ix3 (tv 0) (tc (.int 0))) anil))))) (sseq (sset 3 (t2 ix3 (t2 ix3 (tv 0) (tc (.int 0))) (t2 ix3 (tv 0) (tc (.int 1)))))
    (sseq (ssub (tv 0) (tc (.int 1)) (t2 (add3 false) (t2 ix3 (tv 0) (tc (.int 1))) (tc (.int 1))) setL3)
    (sseq (ssub (tv 0) (tc (.int 3)) (t2 mod3 (tcb bInt (acons (t2 (add3 false) (t2 (add3 false) (t2 (mul3 false) (t2 ix3 (tv 0) (tc (.int 3))) (tc (.int 69621))) (tv 3)) (tc (.int 11))) anil)) (tc (.int 2147483629))) setL3)
    (sif (tb3 (t2 ge3 (tv 3) (t2 pow3 (tc (.int 10)) (tc (.int 18))))) (ssub (tv 0) (tc (.int 2)) (tv 3) setL3) snext)))) snext)
    (sseq (sif (tb3 (t2 gt3 (t2 ix3 (tv 0) (tc (.int 2))) (tc (.int 0)))) (sseq (sset 4 (t2 mod3 (tcb bInt (acons (t2 ix3 (tv 0) (tc (.int 2))) anil)) (tv 1)))
    (sseq (ssub (tv 0) (tc (.int 2)) (t2 fdiv3 (t2 ix3 (tv 0) (tc (.int 2))) (tv 1)) setL3)
    (sret (tv 4)))) snext)
    (sseq (ssub (tv 0) (tc (.int 4)) (t2 (add3 false) (t2 ix3 (tv 0) (tc (.int 4))) (tc (.int 1))) setL3)
    (sseq (sset 2 (t2 mod3 (tcb bInt (acons (t2 (mul3 false) (tcb bInt (acons (t2 (add3 false) (t2 ix3 (tv 0) (tc (.int 3))) (t2 (mul3 false) (tc (.int 7919)) (t2 ix3 (tv 0) (tc (.int 4))))) anil)) (tc (.int 48271))) anil)) (tc (.int 2147483647))))
    (sseq (sset 2 (t2 mod3 (tcb bInt (acons (t2 (mul3 false) (tv 2) (t2 (add3 false) (t2 fdiv3 (tv 2) (tc (.int 1009))) (tc (.int 69621)))) anil)) (tc (.int 2147483647))))
    (sseq (sset 2 (t2 mod3 (tcb bInt (acons (t2 (mul3 false) (tv 2) (t2 (add3 false) (t2 fdiv3 (tv 2) (tc (.int 2003))) (tc (.int 40692)))) anil)) (tc (.int 2147483399))))
    (sret (t2 mod3 (tcb bInt (acons (t2 fdiv3 (tv 2) (tc (.int 16))) anil)) (tv 1)))))))))
set_option maxHeartbeats 4000000 in
theorem vc__law_draw (ds : List D) (G : Gp) (Q : QK) (E : EK) (h : sp__law_draw ds G Q E) : t__law_draw (fnEnds Q E) (start3 N__law_draw ds) G := by
  unfold sp__law_draw at h
  split at h
  case h_2 => exact h.elim
  rename_i h m
  obtain ⟨cs, i, c, s, t, hG, ok, m1, m2, hq⟩ := h
  refine sseq_cut (fun σ G' => ∃ y i c s t, G' = up G h (hnd cs i c s t) ∧ HOk cs i c ∧ σ = [some (.ref h), some (.int m), none, y, none]) (fun N hN => ?_) ?_
  · have hN0 : N [some (.ref h), some (.int m), none, none, none] G := hN _ _ ⟨none, i, c, s, t, (up_self hG).symm, ok, rfl⟩
    refine ⟨_, rfl, _, _, sq_ref hG, rfl, rfl, _, rfl, ite_b (fun h1 => ?_) (fun _ => hN0)⟩
    refine ⟨_, rfl, _, _, sq_ref hG, rfl, _, rfl, _, _, sq_ref hG, rfl, _, rfl, _, rfl, ite_b (fun h2 => ?_) (fun _ => hN0)⟩
    have h2 : i < cs.length := by simpa using h2
    obtain ⟨v, ev, mv⟩ := at_ok ok.i0 h2
    obtain ⟨n, e1⟩ := ok.nums v mv
    subst e1
    refine ⟨_, rfl, _, _, sq_ref hG, rfl, _, rfl, _, _, sq_ref hG, rfl, _, _, rfl, ev, ?_⟩
    refine ⟨_, rfl, _, _, sq_ref hG, rfl, _, rfl, _, _, hG, rfl, ?_⟩
    refine ⟨_, rfl, _, _, sq_ref up_same, rfl, .inr (.inl ⟨by decide, by decide⟩), _, rfl, by decide, _, rfl, _, _, up_same, rfl, ?_⟩
    refine ⟨_, rfl, ⟨by decide, by decide, by decide⟩, _, rfl, ite_b (fun h3 => ?_) (fun _ => ?_)⟩
    · have e2 : 0 ≤ n := by
        have h3 : (10 : Int) ^ (18 : Int).toNat ≤ n := of_decide_eq_true h3
        have h4 : (0 : Int) ≤ 10 ^ (18 : Int).toNat := by decide
        omega
      refine ⟨_, rfl, _, rfl, _, _, up_same, rfl, ?_⟩
      refine hN _ _ ⟨some (.int n), i + 1, n, (s * 69621 + n + 11) % 2147483629, t, ?_, ⟨ok.nums, by have := ok.i0; omega, e2⟩, rfl⟩
      rw [up_up, up_up]; rfl
    · refine hN _ _ ⟨some (.int n), i + 1, c, (s * 69621 + n + 11) % 2147483629, t, ?_, ⟨ok.nums, by have := ok.i0; omega, ok.c0⟩, rfl⟩
      rw [up_up]; rfl
  · rintro σ G' ⟨y, i, c, s, t, rfl, ok, rfl⟩
    have hU : ∀ {o : GO} {u : GO}, up (up G h o) h u = up G h u := up_up
    refine sseq_cut (fun σ G' => G' = up G h (hnd cs i c s t) ∧ σ = [some (.ref h), some (.int m), none, y, none]) (fun N hN => ?_) ?_
    · refine ⟨_, rfl, _, _, sq_ref up_same, rfl, _, rfl, ite_b (fun h1 => ?_) (fun _ => hN _ _ ⟨rfl, rfl⟩)⟩
      refine ⟨_, rfl, _, _, sq_ref up_same, rfl, _, rfl, by omega, ?_⟩
      refine ⟨_, rfl, _, _, sq_ref up_same, rfl, _, rfl, by omega, by omega, _, rfl, _, _, up_same, rfl, _, rfl, dn_refl ?_⟩
      rw [up_up]
      exact hq _ _ _ _ _ (Int.emod_nonneg _ (by omega)) (Int.emod_lt_of_pos _ (by omega)) ⟨ok.nums, ok.i0, Int.ediv_nonneg ok.c0 (by omega)⟩
    · rintro σ G' ⟨rfl, rfl⟩
      refine ⟨_, rfl, _, _, sq_ref up_same, rfl, _, rfl, _, _, up_same, rfl, ?_⟩
      refine ⟨_, rfl, _, _, sq_ref up_same, rfl, _, rfl, _, _, sq_ref up_same, rfl, .inl ⟨by decide, by decide⟩, .inr (.inl ⟨by decide, by decide⟩), by decide, ?_⟩
      generalize (s + 7919 * (t + 1)) * 48271 = z0
      have a1 := Int.emod_nonneg z0 (b := 2147483647) (by decide)
      have a2 := Int.emod_lt_of_pos z0 (b := 2147483647) (by decide)
      refine ⟨_, rfl, _, rfl, by decide, by decide, .inl ⟨by omega, by omega⟩, by decide, ?_⟩
      generalize z0 % 2147483647 * (z0 % 2147483647 / 1009 + 69621) = z1
      have b1 := Int.emod_nonneg z1 (b := 2147483647) (by decide)
      have b2 := Int.emod_lt_of_pos z1 (b := 2147483647) (by decide)
      refine ⟨_, rfl, _, rfl, by decide, by decide, .inl ⟨by omega, by omega⟩, by decide, ?_⟩
      refine ⟨_, rfl, by decide, by decide, _, rfl, by omega, dn_refl ?_⟩
      rw [up_up]
      exact hq _ _ _ _ _ (Int.emod_nonneg _ (by omega)) (Int.emod_lt_of_pos _ (by omega)) ok
/-! #### _law_some -/

def sp__law_some : Sp3 := fun ds G Q E => match ds with
  | [.ref h, L] => ∃ cs i c s t xs, G h = some (hnd cs i c s t) ∧ HOk cs i c ∧ sq G L = some xs ∧ L ≠ .ref h ∧ 1 ≤ xs.length ∧ xs.length < 1000000 ∧ ∀ x i' c' s' t', x ∈ xs → HOk cs i' c' → Q x (up G h (hnd cs i' c' s' t'))
  | _ => False
def t__law_some : TS3 :=
    (sret (t2 ix3 (tv 1) (tcall sp__law_draw (acons (tv 0) (acons (tcb bLen (acons (tv 1) anil)) anil)))))
set_option maxHeartbeats 4000000 in
theorem vc__law_some (ds : List D) (G : Gp) (Q : QK) (E : EK) (h : sp__law_some ds G Q E) : t__law_some (fnEnds Q E) (start3 N__law_some ds) G := by
  unfold sp__law_some at h
  split at h
  case h_2 => exact h.elim
  rename_i h L
  obtain ⟨cs, i, c, s, t, xs, hG, ok, hL, nL, l1, l2, hq⟩ := h
  have len : ∀ (R : QK), R (.int xs.length) G → bLen [L] G R := fun R z => by
    unfold bLen
    split
    · rename_i e; injection e with e1 e2; subst e1; cases hL
    · rename_i e; injection e with e1 e2; subst e1; exact ⟨xs, hL, z⟩
    · rename_i n1 n2; exact absurd rfl (n2 L)
  refine ⟨_, rfl, _, rfl, _, rfl, ?_⟩
  dsimp only [acons, anil, tcb, tv]
  refine len _ ?_
  refine ⟨cs, i, c, s, t, hG, ok, by omega, by omega, fun r i' c' s' t' r0 r1 ok' => ?_⟩
  obtain ⟨x, e, mx⟩ := at_ok r0 r1
  have hL' : sq (up G h (hnd cs i' c' s' t')) L = some xs := by
    cases L with
    | ref p =>
      have ne : p ≠ h := fun z => nL (by rw [z])
      unfold sq at hL ⊢
      simp only at hL ⊢
      rw [up_ne ne]; exact hL
    | _ => exact hL
  have fin := dn_refl (hq x i' c' s' t' mx ok')
  show ix3 L (.int r) _ _
  unfold ix3
  split
  · cases hL
  · rename_i e1 e2; cases e2; exact ⟨xs, x, hL', e, fin⟩
  · rename_i n1 n2; first | exact absurd rfl (n1 _) | exact absurd rfl (n2 _)
/-! #### _law_bent -/

def sp__law_bent : Sp3 := fun ds G Q E => match ds with | [.ref h, .tup ys, sx] => ∃ cs i c s t, G h = some (hnd cs i c s t) ∧ HOk cs i c ∧ 1 ≤ ys.length ∧ ys.length ≤ 64 ∧ (∀ y ∈ ys, Rtu y) ∧ (wks sx = true ∧ wkr sx = true ∧ kn OC sx = true) ∧ sx ≠ .ref h ∧ ∀ x i' c' s' t', wks x = true → HOk cs i' c' → Q x (up G h (hnd cs i' c' s' t')) | _ => False
def t__law_bent : TS3 :=
    (sseq (spar 8 9 (acons (tcall sp__law_draw (acons (tv 0) (acons (tcb bLen (acons (tv 1) anil)) anil))) (acons (tcall sp__law_draw (acons (tv 0) (acons (tc (.int 6)) anil))) anil)))
    (sseq (sset 3 (tlst false (acons (tc .non) (acons (tc (.int 0)) (acons (t2 sub3 (tcb bLen (acons (tv 1) anil)) (tc (.int 1))) (acons (tcb bLen (acons (tv 1) anil)) (acons (tneg (tc (.int 1))) (acons (tc (.bl true)) (acons (tc (.bl false)) (acons (tc (.int 7)) (acons (tc (.str (Str.ofString "0"))) (acons (ttup (acons (tc (.int 0)) anil)) (acons (tlst false anil) (acons (tv 8) (acons (tcall sp__law_draw (acons (tv 0) (acons (tcb bLen (acons (tv 1) anil)) anil))) anil)))))))))))))))
    (sseq (sset 4 (t2 ix3 (tv 1) (tv 8)))
    (sseq (sset 5 (t2 (add3 false) (t2 (add3 false) (tsl false (tv 4) onone (osome (tv 9))) (ttup (acons (tcall sp__law_some (acons (tv 0) (acons (t2 (add3 false) (tv 3) (tlst false (acons (tcall sp__law_deep (acons (tc (.int 0)) anil)) (acons (tv 2) anil)))) anil))) anil))) (tsl false (tv 4) (osome (t2 (add3 false) (tv 9) (tc (.int 1)))) onone)))
    (sseq (sset 5 (tcall sp__law_some (acons (tv 0) (acons (t2 (add3 false) (t2 (mul3 false) (tlst false (acons (tv 5) anil)) (tc (.int 6))) (tlst false (acons (tsl false (tv 4) onone (osome (tc (.int 5)))) (acons (t2 (add3 false) (tv 4) (ttup (acons (tc (.int 0)) anil))) (acons (tcb (bList false) (acons (tv 4) anil)) (acons (tc .non) anil)))))) anil))))
    (sseq (sset 6 (t2 (add3 false) (t2 (add3 false) (tsl false (tv 1) onone (osome (tv 8))) (ttup (acons (tv 5) anil))) (tsl false (tv 1) (osome (t2 (add3 false) (tv 8) (tc (.int 1)))) onone)))
    (sseq (sset 7 (t2 (add3 true) (t2 (mul3 false) (tlst false (acons (tv 6) anil)) (tc (.int 9))) (tlst false (acons (tcb (bList false) (acons (tv 1) anil)) (acons (tsl false (tv 1) onone (osome (tneg (tc (.int 1))))) (acons (t2 (add3 false) (tv 1) (ttup (acons (tv 4) anil))) (acons (ttup anil) (acons (tc .non) (acons (tc (.int 0)) (acons (tc .emp) (acons (tcall sp__law_deep (acons (tc (.int 1)) anil)) anil)))))))))))
    (sseq (sdrop (tmeth isL mAppend (tv 7) (acons (tv 2) anil)))
    (sret (tcall sp__law_some (acons (tv 0) (acons (t2 (add3 false) (tv 7) (tlst false (acons (t2 (mul3 false) (ttup (acons (ttup (acons (tc .non) (acons (tc .non) (acons (tc .non) (acons (tc (.bl false)) (acons (tc (.int 0)) (acons (tc (.int 0)) anil))))))) anil)) (tcall sp__law_some (acons (tv 0) (acons (tlst false (acons (tc (.int 64)) (acons (tc (.int 65)) anil))) anil)))) anil))) anil))))))))))))
set_option maxHeartbeats 4000000 in
theorem vc__law_bent (ds : List D) (G : Gp) (Q : QK) (E : EK) (h : sp__law_bent ds G Q E) : t__law_bent (fnEnds Q E) (start3 N__law_bent ds) G := by
  unfold sp__law_bent at h
  split at h
  case h_2 => exact h.elim
  rename_i h ys sx
  obtain ⟨cs, i, c, s, t, hG, ok, l1, l2, rt, ⟨ks1, ks2, ks3⟩, ns, hq⟩ := h
  have kp : ∀ o, kn OC (pl o) = true := fun o => by cases o <;> rfl
  have rti : ∀ y ∈ ys, ∃ its, y = .tup its ∧ its.length ≤ 6 ∧ ∀ z ∈ its, kn OC z = true := fun y hy => by
    rcases rt y hy with rfl | ⟨r, rfl⟩
    · exact ⟨[], rfl, by decide, fun z hz => by cases hz⟩
    · refine ⟨r.items, rfl, by show 6 ≤ 6; decide, fun z hz => ?_⟩
      simp only [Row.items, List.mem_cons, List.not_mem_nil, or_false] at hz
      rcases hz with rfl | rfl | rfl | rfl | rfl | rfl
      · exact kp _
      · exact kp _
      · exact kp _
      · rfl
      · rfl
      · rfl
  have wr_ : ∀ (l : List D), (∀ z ∈ l, kn OC z = true) → wkr (.tup l) = true := fun l h => List.all_eq_true.mpr h
  have aw : ∀ y ∈ ys, wkr y = true := fun y hy => by
    obtain ⟨its, rfl, _, k⟩ := rti y hy
    exact wr_ _ k
  have ws_ : ∀ (l : List D), (∀ z ∈ l, wkr z = true) → wks (.tup l) = true := fun l h => List.all_eq_true.mpr h
  have cl : ∀ lo hi, (L3.cutD ys lo hi).length ≤ 64 := fun lo hi => Nat.le_trans cutD_len l2
  have L0 : ∀ {o : D}, [o].length ≤ sizeLine := fun {o} => Nat.le_of_ble_eq_true rfl
  have L1 : ∀ {A : List D} {o : D}, A.length ≤ 64 → A.length + [o].length ≤ sizeLine := fun {A o} h => by show A.length + 1 ≤ 16777216; omega
  have L2 : ∀ {A B : List D} {o : D}, A.length ≤ 64 → B.length ≤ 64 → (A ++ [o]).length + B.length ≤ sizeLine := fun {A B o} h h' => by rw [List.length_append, List.length_singleton]; show A.length + 1 + B.length ≤ 16777216; omega
  refine ⟨_, rfl, _, rfl, _, rfl, cs, i, c, s, t, hG, ok, by omega, by omega, fun a i c s t a0 a1 ok => ?_⟩
  refine ⟨_, rfl, cs, i, c, s, t, up_same, ok, by decide, by decide, fun pc i c s t p0 p1 ok => ?_⟩
  rw [up_up]
  obtain ⟨an, rfl⟩ : ∃ n : Nat, a = n := ⟨a.toNat, by omega⟩
  obtain ⟨pn, rfl⟩ : ∃ n : Nat, pc = n := ⟨pc.toNat, by omega⟩
  refine ⟨_, _, rfl, ?_⟩
  refine ⟨_, rfl, _, rfl, _, rfl, _, rfl, _, rfl, Nat.le_of_ble_eq_true rfl, Nat.le_of_ble_eq_true rfl, _, rfl, _, rfl, _, rfl, _, rfl, cs, i, c, s, t, up_same, ok, by omega, by omega, fun b i c s t _ _ ok => ?_⟩
  rw [up_up]
  refine ⟨Nat.le_of_ble_eq_true rfl, ?_⟩
  obtain ⟨y, ey, my⟩ := at_ok (xs := ys) (i := (an : Int)) (by omega) (by omega)
  obtain ⟨its, rfl, il, ik⟩ := rti y my
  refine ⟨_, rfl, _, rfl, _, _, rfl, ey, ?_⟩
  have ci : ∀ lo hi, (L3.cutD its lo hi).length ≤ 64 := fun lo hi => Nat.le_trans cutD_len (by omega)
  refine ⟨_, rfl, _, rfl, _, rfl, _, rfl, _, rfl, fun d1 w1 w2 w3 => ?_⟩
  have nh : ∀ {l : List D}, D.fl l ≠ .ref h := fun {l} z => by cases z
  refine ⟨_, rfl, Nat.le_of_ble_eq_true rfl, _, _, rfl, rfl, Nat.le_of_ble_eq_true rfl, cs, i, c, s, t, [.non, .int 0, .int ((ys.length : Nat) - 1), .int (ys.length : Nat), .int (-1), .bl true, .bl false, .int 7, .str (Str.ofString "0"), .tup [.int 0], .fl [], .int an, .int b, d1, sx], up_same, ok, rfl, nh, Nat.le_of_ble_eq_true rfl, Nat.le_of_ble_eq_true rfl, fun x1 i c s t mx ok => ?_⟩
  rw [up_up]
  have kx : kn OC x1 = true := by
    simp only [List.mem_cons, List.not_mem_nil, or_false] at mx
    rcases mx with rfl | rfl | rfl | rfl | rfl | rfl | rfl | rfl | rfl | rfl | rfl | rfl | rfl | rfl | rfl
    all_goals first | rfl | exact w3 | exact ks3
  refine ⟨L0, L1 (ci _ _), _, rfl, _, rfl, _, rfl, L2 (ci _ _) (ci _ _), ?_⟩
  have wb : wkr (.tup (L3.cutD its none (some (pn : Int)) ++ [x1] ++ L3.cutD its (some ((pn : Int) + 1)) none)) = true := wr_ _ fun z hz => by
    rw [List.mem_append, List.mem_append, List.mem_singleton] at hz
    rcases hz with (hz | rfl) | hz
    · exact ik z (cutD_mem hz)
    · exact kx
    · exact ik z (cutD_mem hz)
  generalize D.tup (L3.cutD its none (some (pn : Int)) ++ [x1] ++ L3.cutD its (some ((pn : Int) + 1)) none) = b1 at wb ⊢
  refine ⟨_, rfl, _, rfl, Nat.le_of_ble_eq_true rfl, _, rfl, ⟨by decide, by decide, Nat.le_of_ble_eq_true rfl⟩, ?_⟩
  refine ⟨_, rfl, _, rfl, _, rfl, L0, L1 (by omega), _, rfl, _, rfl, Nat.le_of_ble_eq_true rfl, _, _, rfl, rfl, Nat.le_of_ble_eq_true rfl, cs, i, c, s, t, _, up_same, ok, rfl, nh, Nat.le_of_ble_eq_true rfl, Nat.le_of_ble_eq_true rfl, fun x2 i c s t mx ok => ?_⟩
  rw [up_up]
  have wx2 : wkr x2 = true := by
    have mx : x2 ∈ [b1, b1, b1, b1, b1, b1] ++ [D.tup (L3.cutD its none (some 5)), .tup (its ++ [.int 0]), .fl its, .non] := mx
    rcases List.mem_append.mp mx with mx | mx
    · simp only [List.mem_cons, List.not_mem_nil, or_false, or_self] at mx
      rw [mx]; exact wb
    · simp only [List.mem_cons, List.not_mem_nil, or_false] at mx
      rcases mx with rfl | rfl | rfl | rfl
      · exact wr_ _ fun z hz => ik z (cutD_mem hz)
      · refine wr_ _ fun z hz => ?_
        rcases List.mem_append.mp hz with hz | hz
        · exact ik z hz
        · rw [List.mem_singleton] at hz; subst hz; rfl
      · rfl
      · rfl
  refine ⟨_, rfl, _, rfl, _, rfl, _, rfl, L0, L1 (cl _ _), _, rfl, _, rfl, _, rfl, L2 (cl _ _) (cl _ _), ?_⟩
  have ww : wks (.tup (L3.cutD ys none (some (an : Int)) ++ [x2] ++ L3.cutD ys (some ((an : Int) + 1)) none)) = true := ws_ _ fun z hz => by
    rw [List.mem_append, List.mem_append, List.mem_singleton] at hz
    rcases hz with (hz | rfl) | hz
    · exact aw z (cutD_mem hz)
    · exact wx2
    · exact aw z (cutD_mem hz)
  generalize D.tup (L3.cutD ys none (some (an : Int)) ++ [x2] ++ L3.cutD ys (some ((an : Int) + 1)) none) = b2 at ww ⊢
  refine ⟨_, rfl, Nat.le_of_ble_eq_true rfl, _, rfl, ⟨by decide, by decide, Nat.le_of_ble_eq_true rfl⟩, ?_⟩
  refine ⟨_, rfl, _, rfl, _, rfl, _, rfl, _, rfl, _, rfl, _, rfl, L0, L1 l2, Nat.le_of_ble_eq_true rfl, fun d2 v1 v2 v3 => ?_⟩
  refine ⟨Nat.le_of_ble_eq_true rfl, _, _, rfl, rfl, Nat.le_of_ble_eq_true rfl, fun p np => ?_⟩
  have ph : p ≠ h := ne_new up_same np
  have np : G p = none := by rw [up_ne ph] at np; exact np
  refine ⟨_, rfl, isL_ref up_same, _, rfl, _, up_same, Nat.le_of_ble_eq_true rfl, ?_⟩
  rw [up_up]
  have gh : ∀ u w, up (up G h u) p w h = some u := fun u w => by rw [up_ne (Ne.symm ph), up_same]
  have gu : ∀ u u' w, up (up (up G h u) p w) h u' = up (up G h u') p w := fun u u' w => by rw [up_comm (Ne.symm ph), up_up]
  refine ⟨_, rfl, _, rfl, Nat.le_of_ble_eq_true rfl, L0, _, rfl, Nat.le_of_ble_eq_true rfl, cs, i, c, s, t, [.int 64, .int 65], gh _ _, ok, rfl, nh, Nat.le_of_ble_eq_true rfl, Nat.le_of_ble_eq_true rfl, fun x3 i c s t mx ok => ?_⟩
  rw [gu]
  obtain ⟨n3, rfl, n31, n32⟩ : ∃ n : Int, x3 = D.int n ∧ 2 ≤ n ∧ n ≤ 1000 := by
    simp only [List.mem_cons, List.not_mem_nil, or_false] at mx
    rcases mx with rfl | rfl <;> exact ⟨_, rfl, by decide, by decide⟩
  refine ⟨(fun z => by cases z), n31, n32, (by decide), L0, _, _, mq_ref up_same, rfl, Nat.le_of_ble_eq_true rfl, cs, i, c, s, t, _, gh _ _, ok, rfl, nh, Nat.le_of_ble_eq_true rfl, Nat.le_of_ble_eq_true rfl, fun x4 i c s t mx ok => ?_⟩
  rw [gu]
  have wx : wks x4 = true := by
    have mx : x4 ∈ (([b2, b2, b2, b2, b2, b2, b2, b2, b2] ++ [D.fl ys, .tup (L3.cutD ys none (some (-1))), .tup (ys ++ [.tup its]), .tup [], .non, .int 0, .emp, d2]) ++ [sx]) ++ [D.tup (List.replicate n3.toNat [D.tup [.non, .non, .non, .bl false, .int 0, .int 0]]).flatten] := mx
    rcases List.mem_append.mp mx with mx | mx
    · rcases List.mem_append.mp mx with mx | mx
      · rcases List.mem_append.mp mx with mx | mx
        · simp only [List.mem_cons, List.not_mem_nil, or_false, or_self] at mx
          rw [mx]; exact ww
        · simp only [List.mem_cons, List.not_mem_nil, or_false] at mx
          rcases mx with rfl | rfl | rfl | rfl | rfl | rfl | rfl | rfl
          · rfl
          · exact ws_ _ fun z hz => aw z (cutD_mem hz)
          · refine ws_ _ fun z hz => ?_
            rcases List.mem_append.mp hz with hz | hz
            · exact aw z hz
            · rw [List.mem_singleton] at hz; subst hz; exact wr_ _ ik
          · rfl
          · rfl
          · rfl
          · rfl
          · exact v1
      · rw [List.mem_singleton] at mx; subst mx; exact ks1
    · rw [List.mem_singleton] at mx; subst mx
      refine ws_ _ fun z hz => ?_
      obtain ⟨l, hl, hz⟩ := List.mem_flatten.mp hz
      rw [List.eq_of_mem_replicate hl, List.mem_singleton] at hz
      subst hz; rfl
  refine ⟨up G h (hnd cs i c s t), fun x o ex => ?_, hq _ _ _ _ _ wx ok⟩
  have xp : x ≠ p := fun z => by rw [z, up_ne ph, np] at ex; cases ex
  rw [up_ne xp]; exact ex
/-! #### _law_hand -/

def sp__law_hand : Sp3 := fun ds G Q E => match ds with
  | [.sl xs] => (∀ x ∈ xs, ∃ n : Int, x = .int n) ∧ xs.length ≤ 63 ∧ ∀ p cs i c s t, G p = none → HOk cs i c → Q (.ref p) (up G p (hnd cs i c s t))
  | _ => False
def t__law_hand : TS3 :=
    (sseq (sset 1 (tlc false (iseq (tsl false (tv 0) onone (osome (tc (.int 63))))) (.n 2) Tyes (tcb bAbs (acons (tcb bInt (acons (tv 2) anil)) anil)) [2]))
    (sret (tlst true (acons (tv 1) (acons (tc (.int 0)) (acons (tc (.int 0)) (acons (t2 (add3 false) (tc (.int 1)) (tcb bLen (acons (tv 1) anil))) (acons (tc (.int 0)) anil))))))))
set_option maxHeartbeats 4000000 in
theorem vc__law_hand (ds : List D) (G : Gp) (Q : QK) (E : EK) (h : sp__law_hand ds G Q E) : t__law_hand (fnEnds Q E) (start3 N__law_hand ds) G := by
  unfold sp__law_hand at h
  split at h
  case h_2 => exact h.elim
  rename_i xs
  obtain ⟨hx, hl, hq⟩ := h
  have hc : ∀ x ∈ L3.cutD xs none (some 63), x ∈ xs := fun x hx => by
    unfold L3.cutD at hx
    exact List.mem_of_mem_drop (List.mem_of_mem_take hx)
  have hcl : (L3.cutD xs none (some 63)).length ≤ 63 := by
    unfold L3.cutD
    rw [List.length_take, List.length_drop]; omega
  refine ⟨_, rfl, _, rfl, _, rfl, _, rfl, lc_pure (fun x => match x with | .int n => some (.int (if n < 0 then -n else n)) | _ => none) (fun x mx G' _ R hR => ?_) (fun _ _ => trivial) (by show _ ≤ 16777216; omega) ?_⟩
  · obtain ⟨n, rfl⟩ := hx x (hc x mx)
    exact ⟨_, rfl, hR⟩
  · generalize hcs : (L3.cutD xs none (some 63)).filterMap _ = cs
    refine ⟨_, rfl, _, rfl, cs, rfl, by show (5 : Nat) ≤ 16777216; decide, fun p n => dn_refl (hq p cs 0 0 _ 0 n ⟨fun x mx => ?_, by decide, by decide⟩)⟩
    rw [← hcs] at mx
    obtain ⟨y, my, ey⟩ := List.mem_filterMap.mp mx
    obtain ⟨n, rfl⟩ := hx y (hc y my)
    injection ey with ey
    exact ⟨_, ey.symm⟩
/-! #### _law_is_number -/

def sp__law_is_number : Sp3 := fun ds G Q E => match ds with | [x, .int b] => kn OC x = true ∧ Q (.bl (wiI 0 (b - 1) x)) G | _ => False
def t__law_is_number : TS3 :=
    (sret (tand (tisi (isT OC .int) (tv 0)) (tand (tnot (tisi (isT OC .bl) (tv 0))) (tch le3 lt3 (tc (.int 0)) (tv 0) (tv 1)))))
set_option maxHeartbeats 4000000 in
theorem vc__law_is_number (ds : List D) (G : Gp) (Q : QK) (E : EK) (h : sp__law_is_number ds G Q E) : t__law_is_number (fnEnds Q E) (start3 N__law_is_number ds) G := by
  unfold sp__law_is_number at h
  split at h
  case h_2 => exact h.elim
  rename_i x b
  have no : isI x = false → wiI 0 (b - 1) x = false := fun z => by cases x <;> first | rfl | cases z
  refine ⟨_, rfl, isi_use (P := fun b => _) h.1 ⟨_, rfl, ite_b (fun hc => ?_) (fun hc => ?_)⟩⟩
  · refine ⟨_, rfl, isi_use (P := fun b => _) h.1 ⟨_, rfl, _, rfl, ite_b (fun hd => ?_) (fun hd => ?_)⟩⟩
    · obtain ⟨i, rfl⟩ := isI_of (x := x) (by rw [← isI_eq, hc, hd]; rfl)
      refine ⟨_, rfl, _, rfl, ite_b (fun h1 => ?_) (fun h1 => ?_)⟩
      · refine ⟨_, rfl, dn_refl ?_⟩
        have this : Q (.bl (decide (0 ≤ i) && decide (i ≤ b - 1))) G := h.2
        rw [show decide (i ≤ b - 1) = decide (i < b) by by_cases q : i < b <;> simp [q] <;> omega] at this
        rwa [h1, Bool.true_and] at this
      · refine dn_refl ?_
        have this : Q (.bl (decide (0 ≤ i) && decide (i ≤ b - 1))) G := h.2
        rwa [h1, Bool.false_and] at this
    · refine dn_refl ?_
      have := no (by rw [← isI_eq, hd, Bool.and_false])
      rw [this] at h; exact h.2
  · refine dn_refl ?_
    have := no (by rw [← isI_eq, hc]; rfl)
    rw [this] at h; exact h.2
/-! #### _law_is_integer -/

def sp__law_is_integer : Sp3 := fun ds G Q E => match ds with | [x] => kn OC x = true ∧ Q (.bl (isI x)) G | _ => False
def t__law_is_integer : TS3 :=
    (sret (tand (tisi (isT OC .int) (tv 0)) (tnot (tisi (isT OC .bl) (tv 0)))))
set_option maxHeartbeats 4000000 in
theorem vc__law_is_integer (ds : List D) (G : Gp) (Q : QK) (E : EK) (h : sp__law_is_integer ds G Q E) : t__law_is_integer (fnEnds Q E) (start3 N__law_is_integer ds) G := by
  unfold sp__law_is_integer at h
  split at h
  case h_2 => exact h.elim
  rename_i x
  refine ⟨_, rfl, isi_use (P := fun b => _) h.1 ⟨_, rfl, ite_b (fun hc => ?_) (fun hc => ?_)⟩⟩
  · refine ⟨_, rfl, isi_use (P := fun b => _) h.1 ⟨_, rfl, dn_refl ?_⟩⟩
    have := isI_eq x
    rw [hc, Bool.true_and] at this
    rw [this]; exact h.2
  · refine dn_refl ?_
    have := isI_eq x
    rw [hc, Bool.false_and] at this
    rw [this]; exact h.2
/-! #### _law_is_shape -/

def sp__law_is_shape : Sp3 := fun ds G Q E => match ds with | [x] => wks x = true ∧ ∀ b, (b = true ↔ Shp x) → Q (.bl b) G | _ => False
def t__law_is_shape : TS3 :=
    (sseq (sif (Tor (Tnot (tb3 (tisi (isT OC .tup) (tv 0)))) (Tnot (tb3 (tch le3 le3 (tc (.int 1)) (tcb bLen (acons (tv 0) anil)) (tc (.int 64)))))) (sret (tc (.bl false))) snext)
    (sseq (sset 1 (tcb bLen (acons (tv 0) anil)))
    (sseq (sfor (iseq (tv 0)) (.n 2) (sseq (sif (Tor (Tnot (tb3 (tisi (isT OC .tup) (tv 2)))) (Tor (tb3 (t2 ne3 (tcb bLen (acons (tv 2) anil)) (tc (.int 6)))) (Tnot (tb3 (tisi (isT OC .bl) (t2 ix3 (tv 2) (tc (.int 3)))))))) (sret (tc (.bl false))) snext)
    (sseq (sif (Tnot (tb3 (tcb bAll (acons (tlc false (iseq (tsl false (tv 2) onone (osome (tc (.int 3))))) (.n 3) Tyes (tor (t2 (is3 false) (tv 3) (tc .non)) (tcall sp__law_is_number (acons (tv 3) (acons (tv 1) anil)))) [3]) anil)))) (sret (tc (.bl false))) snext)
    (sif (Tor (Tnot (tb3 (tcall sp__law_is_integer (acons (t2 ix3 (tv 2) (tc (.int 4))) anil)))) (Tor (Tnot (tb3 (tcall sp__law_is_integer (acons (t2 ix3 (tv 2) (tc (.int 5))) anil)))) (Tand (tb3 (t2 (is3 true) (t2 ix3 (tv 2) (tc (.int 1))) (tc .non))) (tb3 (t2 eq3 (t2 ix3 (tv 2) (tc (.int 1))) (t2 ix3 (tv 2) (tc (.int 2)))))))) (sret (tc (.bl false))) snext))))
    (sseq (sfor (ienum (acons (tv 0) anil)) (.t [3, 2]) (sseq (sif (Tnot (tb3 (tcb bAll (acons (tlc false (iseq (tsl false (tv 2) (osome (tc (.int 1))) (osome (tc (.int 3))))) (.n 6) Tyes (tor (t2 (is3 false) (tv 6) (tc .non)) (t2 eq3 (t2 ix3 (t2 ix3 (tv 0) (tv 6)) (tc (.int 0))) (tv 3))) [6]) anil)))) (sret (tc (.bl false))) snext)
    (sseq (sset 4 (tv 3))
    (sseq (sfor (irng1 (acons (tv 1) anil)) (.n 5) (sset 4 (tif (tb3 (t2 (is3 true) (tv 4) (tc .non))) (t2 ix3 (t2 ix3 (tv 0) (tv 4)) (tc (.int 0))) (tc .non))))
    (sif (tb3 (t2 (is3 true) (tv 4) (tc .non))) (sret (tc (.bl false))) snext)))))
    (sret (tc (.bl true)))))))
set_option maxHeartbeats 4000000 in
theorem vc__law_is_shape (ds : List D) (G : Gp) (Q : QK) (E : EK) (h : sp__law_is_shape ds G Q E) : t__law_is_shape (fnEnds Q E) (start3 N__law_is_shape ds) G := by
  unfold sp__law_is_shape at h
  split at h
  case h_2 => exact h.elim
  rename_i x
  obtain ⟨hk, hq⟩ := h
  have no : ¬ Shp x → dn Q (.bl false) G := fun h => dn_refl (hq false ⟨nof, fun z => absurd z h⟩)
  refine ⟨_, rfl, isi_use (P := fun b => _) (wks_kn hk) ⟨_, rfl, ite_b (fun z => iteT (no ?_)) (fun z => ?_)⟩⟩
  · rintro ⟨rs, rfl, h⟩
    cases z
  obtain ⟨xs, rfl⟩ := isT_of (x := x) (by simpa using z)
  have noN : ¬ (1 ≤ xs.length ∧ xs.length ≤ 64) → dn Q (.bl false) G := fun h => no (by
    rintro ⟨rs, e, y⟩
    injection e with e
    subst e
    rw [List.length_map] at h
    exact h ⟨y.n1, y.n64⟩)
  refine ⟨_, rfl, xs, rfl, _, rfl, ite_b (fun z1 => ?_) (fun z1 => ⟨_, rfl, iteT (noN fun h => by have := of_decide_eq_false z1; omega)⟩)⟩
  refine ⟨_, rfl, ite_b (fun z2 => noN fun h => by have z2 : (!decide ((xs.length : Int) ≤ 64)) = true := z2; simp at z2; omega) (fun z2 => ?_)⟩
  have l1 : 1 ≤ xs.length := by have := of_decide_eq_true z1; omega
  have l2 : xs.length ≤ 64 := by have z2 : (!decide ((xs.length : Int) ≤ 64)) = false := z2; simp at z2; omega
  clear noN z1 z2
  have hk : ∀ y ∈ xs, wkr y = true := List.all_eq_true.mp hk
  have no : (∃ y ∈ xs, ¬ RowP xs.length y) → dn Q (.bl false) G := fun ⟨y, hy, h⟩ => no (by
    rintro ⟨rs, e, sh⟩
    injection e with e
    subst e
    obtain ⟨r, hr, rfl⟩ := List.mem_map.mp hy
    exact h ⟨r, rfl, by rw [List.length_map]; exact sh.ok r hr⟩)
  have noQ : (∃ y ∈ xs, ¬ RowQ xs.length y) → dn Q (.bl false) G := fun ⟨y, hy, h⟩ => dn_refl (hq false ⟨nof, fun z => by
    obtain ⟨rs, e, sh⟩ := z
    injection e with e
    subst e
    obtain ⟨r, hr, rfl⟩ := List.mem_map.mp hy
    exact absurd ⟨r, rfl, by rw [List.length_map]; exact sh.ok r hr, sh.two r hr⟩ h⟩)
  refine ⟨_, rfl, xs, rfl, _, rfl, xs, rfl, forL_inv (fun k σ G' => G' = G ∧ ∃ (y : Option D), (∀ j z, j < k → xs[j]? = some z → RowQ xs.length z) ∧ σ = [some (.tup xs), some (.int xs.length), y, none, none, none, none]) ?_ ?_ ⟨rfl, none, fun j z l => by omega, rfl⟩⟩
  · rintro k x σ G' N ex ⟨rfl, y, hs, rfl⟩ hN
    have mx := List.mem_of_getElem? ex
    have hkx := hk x mx
    have no2 : ¬ RowQ xs.length x → dn Q (.bl false) G' := fun h => noQ ⟨x, mx, h⟩
    have no : ¬ RowP xs.length x → dn Q (.bl false) G' := fun h => no ⟨x, mx, h⟩
    refine ⟨trivial, _, rfl, isi_use (P := fun b => _) (wkr_kn hkx) ⟨_, rfl, ite_b (fun z => iteT (no ?_)) (fun z => ?_)⟩⟩
    · rintro ⟨r, rfl, _⟩
      cases z
    obtain ⟨ys, rfl⟩ := isT_of (x := x) (by simpa using z)
    refine ⟨_, rfl, ys, rfl, rfl, _, rfl, ite_b (fun z => iteT (no ?_)) (fun z => ?_)⟩
    · rintro ⟨r, e, _⟩
      injection e with e
      subst e
      cases z
    have z : ((ys.length : Int) == 6) = true := by simpa [eqD] using z
    have l6 : ys.length = 6 := by have := eq_of_beq z; omega
    obtain ⟨u, l, r, t, a, v, rfl⟩ := six l6
    have hkx : kn OC u = true ∧ kn OC l = true ∧ kn OC r = true ∧ kn OC t = true ∧ kn OC a = true ∧ kn OC v = true := by simpa [wkr] using hkx
    refine ⟨_, rfl, _, _, rfl, rfl, isi_use (P := fun b => _) hkx.2.2.2.1 ⟨_, rfl, ite_b (fun z => no ?_) (fun z => ?_)⟩⟩
    · rintro ⟨q, e, _⟩
      injection e with e
      injection e with e1 e; injection e with e2 e; injection e with e3 e; injection e with e4 e
      rw [e4] at z; cases z
    obtain ⟨t, rfl⟩ : ∃ b, t = .bl b := by cases t <;> first | exact ⟨_, rfl⟩ | (simp [isiD] at z)
    refine ⟨_, rfl, _, rfl, _, rfl, lc_pure (fun y => some (.bl (plB xs.length y))) (fun y my G'' _ R hR => ?_) (fun _ _ => trivial) (Nat.le_of_ble_eq_true rfl) ?_⟩
    · have ky : kn OC y = true := by
        have my : y ∈ [u, l, r] := my
        simp only [List.mem_cons, List.not_mem_nil, or_false] at my
        rcases my with rfl | rfl | rfl
        · exact hkx.1
        · exact hkx.2.1
        · exact hkx.2.2.1
      refine ⟨_, rfl, _, rfl, ite_b (fun z => ?_) (fun z => ?_)⟩
      · have e : y = .non := by cases y <;> first | rfl | cases z
        subst e
        exact hR
      · refine ⟨_, rfl, _, rfl, ky, ?_⟩
        have e : plB xs.length y = wiI 0 (xs.length - 1) y := by cases y <;> first | rfl | cases z
        rw [e] at hR; exact hR
    refine ⟨_, _, rfl, bls_map _ _, _, rfl, ite_b (fun z => no ?_) (fun z => ?_)⟩
    · rintro ⟨q, e, ok⟩
      injection e with e
      injection e with e1 e; injection e with e2 e; injection e with e3 e
      have z : (!([u, l, r].map (plB xs.length)).all id) = true := z
      simp [e1, e2, e3, plB_ok.mpr ⟨_, rfl, ok.u⟩, plB_ok.mpr ⟨_, rfl, ok.l⟩, plB_ok.mpr ⟨_, rfl, ok.r⟩] at z
    have z : (!([u, l, r].map (plB xs.length)).all id) = false := z
    have z : plB xs.length u = true ∧ plB xs.length l = true ∧ plB xs.length r = true := by simpa using z
    obtain ⟨u, rfl, ou⟩ := plB_ok.mp z.1
    obtain ⟨l, rfl, ol⟩ := plB_ok.mp z.2.1
    obtain ⟨r, rfl, or⟩ := plB_ok.mp z.2.2
    refine ⟨_, rfl, _, _, rfl, rfl, hkx.2.2.2.2.1, _, rfl, ite_b (fun z => iteT (no ?_)) (fun z => ?_)⟩
    · rintro ⟨q, e, _⟩
      injection e with e
      injection e with e1 e; injection e with e2 e; injection e with e3 e; injection e with e4 e; injection e with e5 e
      rw [e5] at z; cases z
    obtain ⟨a, rfl⟩ := isI_of (x := a) (by simpa using z)
    refine ⟨_, rfl, _, _, rfl, rfl, hkx.2.2.2.2.2, _, rfl, ite_b (fun z => iteT (no ?_)) (fun z => ?_)⟩
    · rintro ⟨q, e, _⟩
      injection e with e
      injection e with e1 e; injection e with e2 e; injection e with e3 e; injection e with e4 e; injection e with e5 e; injection e with e6 e
      rw [e6] at z; cases z
    obtain ⟨v, rfl⟩ := isI_of (x := v) (by simpa using z)
    have nx : (Row.two ⟨u, l, r, t, a, v⟩) → N [some (.tup xs), some (.int xs.length), some (D.tup [pl u, pl l, pl r, .bl t, .int a, .int v]), none, none, none, none] G' := fun tw => by
      refine hN _ _ ⟨rfl, _, fun j w hj ew => ?_, rfl⟩
      by_cases e : j = k
      · subst e
        rw [ex] at ew; cases ew
        exact ⟨⟨u, l, r, t, a, v⟩, rfl, ⟨ou, ol, or⟩, tw⟩
      · exact hs j w (by omega) ew
    have nt : l ≠ none → l = r → dn Q (.bl false) G' := fun h1 h2 => no2 fun ⟨q, e, _, tw⟩ => by
      have e : (Row.d ⟨u, l, r, t, a, v⟩) = q.d := e
      have := d_inj e
      subst this
      rcases tw with h | h
      · exact h1 h
      · exact h h2
    refine ⟨_, rfl, _, _, rfl, rfl, _, rfl, ite_b (fun z1 => ?_) (fun z1 => ?_)⟩
    · have z1 : (!isN (pl l)) = true := z1
      have z1 : l ≠ none := fun e => by rw [e] at z1; cases z1
      refine ⟨_, rfl, _, _, rfl, rfl, _, rfl, _, _, rfl, rfl, pl_eqOk, _, rfl, ite_b (fun z2 => nt z1 (pl_eqD.mp z2)) (fun z2 => nx (.inr fun e => ?_))⟩
      have e : l = r := e
      rw [pl_eqD.mpr e] at z2; cases z2
    · have z1 : (!isN (pl l)) = false := z1
      have z1 : isN (pl l) = true := by simpa using z1
      exact nx (.inl (pl_isN.mp z1))
  rintro σ G' ⟨rfl, y, hs, rfl⟩
  obtain ⟨rs, rfl, ok⟩ := rows_all (n := xs.length) (xs := xs) fun y hy => by
    obtain ⟨j, ej⟩ := List.mem_iff_getElem?.mp hy
    obtain ⟨r, e1, e2, _⟩ := hs j y (List.getElem?_eq_some_iff.mp ej).1 ej
    exact ⟨r, e1, e2⟩
  have two : ∀ r ∈ rs, r.two := fun r hr => by
    obtain ⟨j, ej⟩ := List.mem_iff_getElem?.mp (List.mem_map_of_mem (f := Row.d) hr)
    obtain ⟨r', e1, _, e3⟩ := hs j r.d (List.getElem?_eq_some_iff.mp ej).1 ej
    rw [d_inj e1]; exact e3
  rw [List.length_map] at ok l1 l2
  have no : ¬ ShpR rs → dn Q (.bl false) G' := fun h => dn_refl (hq false ⟨nof, fun z => absurd (shp_rows.mp z) h⟩)
  have hq : ∀ b, (b = true ↔ ShpR rs) → dn Q (.bl b) G' := fun b h => dn_refl (hq b (h.trans shp_rows.symm))
  refine ⟨trivial, _, rfl, _, _, rfl, rfl, ?_⟩
  rw [List.length_map]
  refine forL_inv (fun k σ G1 => G1 = G' ∧ ∃ (y2 y3 y4 y5 : Option D), (∀ h r, h < k → rs[h]? = some r → (sonIs rs h r.l ∧ sonIs rs h r.r) ∧ go rs rs.length h = true) ∧ σ = [some (.tup (rs.map Row.d)), some (.int rs.length), y2, y3, y4, y5, none]) ?_ ?_ ⟨rfl, y, _, _, _, fun h r z => by omega, rfl⟩
  · rintro k x σ G1 N ex ⟨rfl, y2, y3, y4, y5, hs, rfl⟩ hN
    obtain ⟨x0, ex0, rfl⟩ := enD_get ex
    rw [List.getElem?_map] at ex0
    obtain ⟨r, er, rfl⟩ : ∃ r, rs[k]? = some r ∧ r.d = x0 := by
      cases q : rs[k]? with
      | none => rw [q] at ex0; cases ex0
      | some r => rw [q] at ex0; injection ex0 with e; exact ⟨r, rfl, e⟩
    have hk2 := (List.getElem?_eq_some_iff.mp er).1
    have okr := ok r (List.mem_of_getElem? er)
    let g : D → Bool := fun y => @decide (∃ o, y = pl o ∧ sonIs rs k o) (Classical.propDecidable _)
    have gm : ∀ {y}, g y = true ↔ ∃ o, y = pl o ∧ sonIs rs k o := fun {y} => @decide_eq_true_iff _ (Classical.propDecidable _)
    have gp : ∀ {o}, g (pl o) = true ↔ sonIs rs k o := fun {o} => gm.trans ⟨fun ⟨o', e, h⟩ => by rw [pl_inj e]; exact h, fun h => ⟨o, rfl, h⟩⟩
    refine ⟨trivial, _, rfl, rfl, _, rfl, _, rfl, _, rfl, [pl r.l, pl r.r], rfl, lc_pure (fun y => some (.bl (g y))) (fun y my G'' _ R hR => ?_) (fun _ _ => trivial) (Nat.le_of_ble_eq_true rfl) ?_⟩
    · have my : y ∈ [pl r.l, pl r.r] := my
      obtain ⟨o, rfl, oo⟩ : ∃ o, y = pl o ∧ okp rs.length o := by
        simp only [List.mem_cons, List.not_mem_nil, or_false] at my
        rcases my with rfl | rfl
        · exact ⟨r.l, rfl, okr.l⟩
        · exact ⟨r.r, rfl, okr.r⟩
      cases o with
      | none =>
        have : g (pl none) = true := gp.mpr fun s e => by cases e
        rw [this] at hR
        exact ⟨_, rfl, _, rfl, ite_b (fun _ => hR) (fun z => by cases z)⟩
      | some s =>
        have hs2 := oo s rfl
        obtain ⟨q, eq⟩ : ∃ q, rs[s]? = some q := ⟨rs[s], by simp [hs2]⟩
        refine ⟨_, rfl, _, rfl, ite_b (fun z => by cases z) (fun _ => ?_)⟩
        have ge : g (pl (some s)) = eqD (pl q.u) (pl (some k)) := by
          refine Bool.eq_iff_iff.mpr ((gp (o := some s)).trans ⟨fun h => ?_, fun h s2 e2 => ?_⟩)
          · obtain ⟨q2, e1, e2⟩ := h s rfl
            rw [eq] at e1; cases e1
            exact pl_eqD.mpr e2
          · cases e2
            exact ⟨q, eq, pl_eqD.mp h⟩
        rw [ge] at hR
        exact ⟨_, rfl, _, rfl, _, _, rfl, at_row eq, _, _, rfl, rfl, _, rfl, (by cases q.u <;> rfl), hR⟩
    refine ⟨_, _, rfl, bls_map _ _, _, rfl, ite_b (fun z => no fun h => ?_) (fun z => ?_)⟩
    · have z : (!([pl r.l, pl r.r].map g).all id) = true := z
      have := h.sons k r er
      simp [gp.mpr this.1, gp.mpr this.2] at z
    have z : (!([pl r.l, pl r.r].map g).all id) = false := z
    have z : g (pl r.l) = true ∧ g (pl r.r) = true := by simpa using z
    have sn : sonIs rs k r.l ∧ sonIs rs k r.r := ⟨gp.mp z.1, gp.mp z.2⟩
    refine ⟨_, rfl, _, rfl, _, rfl, (by omega), (by omega), ?_⟩
    refine forL_inv (fun j σ G4 => G4 = G1 ∧ ∃ (o : Option Nat) (y6 : Option D), okp rs.length o ∧ j ≤ rs.length ∧ walk rs (rs.length - j) o = walk rs rs.length (some k) ∧ σ = [some (.tup (rs.map Row.d)), some (.int rs.length), some r.d, some (.int k), some (pl o), y6, none]) ?_ ?_ ⟨rfl, some k, _, fun i e => by cases e; exact hk2, by omega, by simp, rfl⟩
    · rintro j x σ G4 N ex ⟨rfl, o, y6, oo, hj, e, rfl⟩ hN
      have hj2 : j < rs.length := by
        obtain ⟨h3, _⟩ := List.getElem?_eq_some_iff.mp ex
        simpa using h3
      rw [show rs.length - j = (rs.length - (j + 1)) + 1 by omega] at e
      cases o with
      | none =>
        exact ⟨trivial, _, rfl, _, rfl, ite_b (fun z => by cases z) (fun _ => hN _ _ ⟨rfl, none, _, oo, by omega, by rw [walk_none]; exact e, rfl⟩)⟩
      | some i =>
        have hi := oo i rfl
        obtain ⟨q, eq⟩ : ∃ q, rs[i]? = some q := ⟨rs[i], by simp [hi]⟩
        have e : (match rs[i]? with | some r => walk rs (rs.length - (j + 1)) r.u | none => some i) = walk rs rs.length (some k) := e
        rw [eq] at e
        refine ⟨trivial, _, rfl, _, rfl, ite_b (fun _ => ?_) (fun z => by cases z)⟩
        exact ⟨_, rfl, _, rfl, _, _, rfl, at_row eq, _, _, rfl, rfl, hN _ _ ⟨rfl, q.u, _, (ok q (List.mem_of_getElem? eq)).u, by omega, e, rfl⟩⟩
    · rintro σ G4 ⟨rfl, o, y6, oo, hj, e, rfl⟩
      have e : walk rs (rs.length - ((List.range (rs.length : Int).toNat).map fun (i : Nat) => D.int i).length) o = walk rs rs.length (some k) := e
      rw [List.length_map, List.length_range, Int.toNat_natCast, Nat.sub_self] at e
      have e : o = walk rs rs.length (some k) := e
      have gw := go_walk ok rs.length k hk2
      refine ⟨trivial, _, rfl, _, rfl, ite_b (fun z => no fun h => ?_) (fun z => hN _ _ ⟨rfl, _, _, _, _, fun h q hh eq => ?_, rfl⟩)⟩
      · have := gw.mp (h.go k hk2)
        rw [← e] at this
        subst this
        cases z
      · by_cases eh : h = k
        · subst eh
          rw [er] at eq; cases eq
          refine ⟨sn, gw.mpr ?_⟩
          rw [← e]
          cases o with
          | none => rfl
          | some i => cases z
        · exact hs h q (by omega) eq
  · rintro σ G1 ⟨rfl, y2, y3, y4, y5, hs, rfl⟩
    have hs : ∀ h r, rs[h]? = some r → (sonIs rs h r.l ∧ sonIs rs h r.r) ∧ go rs rs.length h = true := fun h r e => hs h r (by
      have := (List.getElem?_eq_some_iff.mp e).1
      rw [enD_len, List.length_map]; exact this) e
    refine ⟨trivial, hq true ⟨fun _ => ⟨by omega, by omega, ok, two, fun h r e => (hs h r e).1, fun h hl => ?_⟩, fun _ => rfl⟩⟩
    obtain ⟨r, er⟩ : ∃ r, rs[h]? = some r := ⟨rs[h], by simp [hl]⟩
    exact (hs h r er).2
/-! #### _law_planted -/

def sp__law_planted : Nat → Sp3 := fun n ds G Q E => match n, ds with
  | n + 1, [.ref h, .fl xs, u, .int g, .tup ys, .ref p] => ∃ cs m, ∃ (l : List Nat) (uo : Option Nat) (ws : List Int), PS h p cs m G ∧ h ≠ p ∧ xs = (l.map fun (j : Nat) => D.int j) ∧ l.length ≤ n ∧ l.length ≤ 65 ∧ (∀ z ∈ l, z < m) ∧ u = pl uo ∧ ys = ws.map D.int ∧ ws.length = m ∧ ∀ (o : Option Nat) G', PS h p cs m G' → Oth h p G G' → Q (pl o) G'
  | _, _ => False
def t__law_planted (sp : Sp3) : TS3 :=
    (sseq (sif (tb3 (t2 eq3 (tcb bLen (acons (tv 1) anil)) (tc (.int 0)))) (sret (tc .non)) snext)
    (sseq (spar 10 11 (acons (t2 eq3 (tcall sp__law_draw (acons (tv 0) (acons (tc (.int 3)) anil))) (tc (.int 0))) (acons (tcall sp__law_some (acons (tv 0) (acons (tlst false (acons (tc (.int 0)) (acons (tc (.int 0)) (acons (tc (.int 0)) (acons (tc (.int 1)) (acons (tneg (tc (.int 2))) (acons (tc (.int 30)) anil))))))) anil))) anil)))
    (sseq (sset 1 (tif (tb3 (tv 10)) (trev false (tv 1)) (tv 1)))
    (sseq (sset 6 (tcall sp__law_some (acons (tv 0) (acons (tlst false (acons (tc (.int 0)) (acons (t2 sub3 (tcb bLen (acons (tv 1) anil)) (tc (.int 1))) (acons (tcall sp__law_draw (acons (tv 0) (acons (tcb bLen (acons (tv 1) anil)) anil))) (acons (tcall sp__law_draw (acons (tv 0) (acons (tcb bLen (acons (tv 1) anil)) anil))) anil))))) anil))))
    (sseq (sset 7 (t2 ix3 (tv 1) (tv 6)))
    (sseq (sset 8 (tcall sp (acons (tv 0) (acons (tsl false (tv 1) onone (osome (tv 6))) (acons (tv 7) (acons (t2 (add3 false) (tv 3) (tv 11)) (acons (tv 4) (acons (tv 5) anil))))))))
    (sseq (sset 9 (tcall sp (acons (tv 0) (acons (tsl false (tv 1) (osome (t2 (add3 false) (tv 6) (tc (.int 1)))) onone) (acons (tv 7) (acons (t2 (add3 false) (tv 3) (tv 11)) (acons (tv 4) (acons (tv 5) anil))))))))
    (sseq (ssub (tv 5) (tv 7) (tlst true (acons (tv 2) (acons (tv 8) (acons (tv 9) (acons (tv 10) (acons (tv 11) (acons (t2 sub3 (t2 ix3 (tv 4) (tv 7)) (tv 3)) anil))))))) setL3)
    (sret (tv 7))))))))))
set_option maxHeartbeats 4000000 in
theorem vc__law_planted (n : Nat) (ds : List D) (G : Gp) (Q : QK) (E : EK) (h : sp__law_planted (n + 1) ds G Q E) : t__law_planted (sp__law_planted n) (fnEnds Q E) (start3 N__law_planted ds) G := by
  unfold sp__law_planted at h
  split at h
  case h_2 => exact h.elim
  rename_i n' h xs u g ys p en
  injection en with en
  subst en
  obtain ⟨cs, m, l, uo, ws, a, ne, rfl, ln, l65, lm, rfl, rfl, wl, hq⟩ := h
  have ll : ∀ l : List Nat, (l.map fun (j : Nat) => D.int j).length = l.length := fun l => List.length_map _
  refine ⟨_, rfl, _, rfl, rfl, _, rfl, ite_b (fun _ => ⟨G, Sub.refl, hq none G a fun _ _ _ _ e => e⟩) (fun z => ?_)⟩
  have l1 : 1 ≤ l.length := by
    have z : eqD (.int ((l.map fun (j : Nat) => D.int j).length : Nat)) (.int 0) = false := z
    rw [ll] at z
    cases l with
    | nil => cases z
    | cons x l => simp
  cases n with
  | zero => omega
  | succ n =>
  obtain ⟨i, c, s, t, eh, ok⟩ := a.hh
  refine ⟨_, rfl, cs, i, c, s, t, eh, ok, by decide, by decide, fun r i c s t r0 r1 ok => ?_⟩
  obtain ⟨a1, o1⟩ := a.hand ne (s := s) (t := t) ok
  generalize up G h (hnd cs i c s t) = G1 at a1 o1 ⊢
  obtain ⟨i, c, s, t, eh, ok⟩ := a1.hh
  refine ⟨rfl, _, rfl, _, rfl, Nat.le_of_ble_eq_true rfl, cs, i, c, s, t, [.int 0, .int 0, .int 0, .int 1, .int (-2), .int 30], eh, ok, rfl, (fun z => by cases z), Nat.le_of_ble_eq_true rfl, Nat.le_of_ble_eq_true rfl, fun x i c s t mx ok => ?_⟩
  obtain ⟨a2, o2⟩ := a1.hand ne (s := s) (t := t) ok
  generalize up G1 h (hnd cs i c s t) = G2 at a2 o2 ⊢
  obtain ⟨ad, rfl⟩ : ∃ ad, x = D.int ad := by
    simp only [List.mem_cons, List.not_mem_nil, or_false] at mx
    rcases mx with rfl | rfl | rfl | rfl | rfl | rfl <;> exact ⟨_, rfl⟩
  have o2 := o1.trans o2
  clear o1 a1 a
  obtain ⟨tb, etb⟩ : ∃ tb : Bool, eqD (.int r) (.int 0) = tb := ⟨_, rfl⟩
  rw [etb]
  refine ⟨_, _, rfl, ?_⟩
  dsimp only
  refine sseq_cut (fun σ G' => G' = G2 ∧ ∃ l2 : List Nat, l2.length = l.length ∧ (∀ z ∈ l2, z < m) ∧ σ = [some (.ref h), some (.fl (l2.map fun (j : Nat) => D.int j)), some (pl uo), some (.int g), some (.tup (ws.map D.int)), some (.ref p), none, none, none, none, some (.bl tb), some (.int ad)]) (fun M hM => ?_) ?_
  · refine ⟨_, rfl, _, rfl, ite_b (fun _ => ⟨_, rfl, _, rfl, hM _ _ ⟨rfl, l.reverse, List.length_reverse, fun z hz => lm z (List.mem_reverse.mp hz), by rw [List.map_reverse]; rfl⟩⟩) (fun _ => ⟨_, rfl, hM _ _ ⟨rfl, l, rfl, lm, rfl⟩⟩)⟩
  rintro σ G' ⟨e0, l2, el, lm2, rfl⟩
  subst e0
  have ll2 : (l2.map fun (j : Nat) => D.int j).length = l2.length := List.length_map _
  obtain ⟨i, c, s, t, eh, ok⟩ := a2.hh
  refine ⟨_, rfl, _, rfl, _, rfl, _, rfl, _, rfl, _, rfl, cs, i, c, s, t, eh, ok, by rw [ll2]; omega, by rw [ll2]; omega, fun r1 i c s t r10 r11 ok => ?_⟩
  obtain ⟨a3, o3⟩ := a2.hand ne (s := s) (t := t) ok
  generalize up G' h (hnd cs i c s t) = G3 at a3 o3 ⊢
  obtain ⟨i, c, s, t, eh, ok⟩ := a3.hh
  refine ⟨_, rfl, _, rfl, _, rfl, cs, i, c, s, t, eh, ok, by rw [ll2]; omega, by rw [ll2]; omega, fun r2 i c s t r20 r21 ok => ?_⟩
  obtain ⟨a4, o4⟩ := a3.hand ne (s := s) (t := t) ok
  generalize up G3 h (hnd cs i c s t) = G4 at a4 o4 ⊢
  rw [ll2] at r11 r21
  obtain ⟨i, c, s, t, eh, ok⟩ := a4.hh
  refine ⟨Nat.le_of_ble_eq_true rfl, cs, i, c, s, t, [.int 0, .int (((l2.map fun (j : Nat) => D.int j).length : Nat) - 1), .int r1, .int r2], eh, ok, rfl, (fun z => by cases z), Nat.le_of_ble_eq_true rfl, Nat.le_of_ble_eq_true rfl, fun x i c s t mx ok => ?_⟩
  obtain ⟨a5, o5⟩ := a4.hand ne (s := s) (t := t) ok
  generalize up G4 h (hnd cs i c s t) = G5 at a5 o5 ⊢
  obtain ⟨k, rfl, hk⟩ : ∃ k : Nat, x = D.int k ∧ k < l2.length := by
    simp only [List.mem_cons, List.not_mem_nil, or_false] at mx
    rw [ll2] at mx
    rcases mx with rfl | rfl | rfl | rfl
    · exact ⟨0, rfl, by omega⟩
    · exact ⟨l2.length - 1, by congr 1; omega, by omega⟩
    · exact ⟨r1.toNat, by rw [Int.toNat_of_nonneg r10], by omega⟩
    · exact ⟨r2.toNat, by rw [Int.toNat_of_nonneg r20], by omega⟩
  have o5 := ((o2.trans o3).trans o4).trans o5
  clear o2 o3 o4 a2 a3 a4
  have ek : l2[k]? = some l2[k] := by simp [hk]
  have hz : l2[k] < m := lm2 _ (List.getElem_mem hk)
  generalize l2[k] = z at ek hz
  have atk : atI (l2.map fun (j : Nat) => D.int j) (k : Int) = some (.int z) := at_get (by omega) (by rw [Int.toNat_natCast, List.getElem?_map, ek]; rfl)
  refine ⟨_, rfl, _, rfl, _, _, rfl, atk, ?_⟩
  refine ⟨_, rfl, _, rfl, _, rfl, _, rfl, _, rfl, _, rfl, _, rfl, _, rfl, _, rfl, _, rfl, ?_⟩
  refine ⟨cs, m, l2.take k, some z, ws, a5, ne, cut_tk_ l2 k, by rw [List.length_take]; omega, by rw [List.length_take]; omega, fun j hj => lm2 j (List.mem_of_mem_take hj), rfl, rfl, wl, fun lo G6 a6 o6 => ?_⟩
  refine ⟨_, rfl, _, rfl, _, rfl, _, rfl, _, rfl, _, rfl, _, rfl, _, rfl, _, rfl, _, rfl, ?_⟩
  refine ⟨cs, m, l2.drop (k + 1), some z, ws, a6, ne, cut_dr_ l2 k, by rw [List.length_drop]; omega, by rw [List.length_drop]; omega, fun j hj => lm2 j (List.mem_of_mem_drop hj), rfl, rfl, wl, fun ro G7 a7 o7 => ?_⟩
  obtain ⟨L, ep, eL, cel⟩ := a7.pp
  obtain ⟨i, c, s, t, eh, okh⟩ := a7.hh
  have wat : atI (ws.map D.int) (z : Int) = some (.int (ws[z]'(by omega))) := at_get (by omega) (by simp [show z < ws.length by omega])
  refine ⟨_, rfl, _, rfl, _, rfl, _, rfl, _, rfl, _, rfl, _, rfl, _, _, rfl, wat, _, rfl, Nat.le_of_ble_eq_true rfl, fun p4 n4 => ?_⟩
  have n4h : p4 ≠ h := ne_new eh n4
  have n4p : p4 ≠ p := ne_new ep n4
  refine ⟨_, rfl, _, rfl, L, z, by rw [up_ne (Ne.symm n4p)]; exact ep, ixn_ok z (by rw [eL]; exact hz), ?_⟩
  have oth : ∀ w v, Oth h p G7 (up (up G7 p4 w) p v) := fun w v b o n1 n2 e => by
    rw [up_ne n2, up_ne (fun e2 => by rw [e2, n4] at e; cases e)]; exact e
  refine ⟨_, rfl, _, Sub.refl, hq (some z) _ ⟨⟨i, c, s, t, by rw [up_ne ne, up_ne (Ne.symm n4h)]; exact eh, okh⟩, ⟨_, up_same, by rw [List.length_set]; exact eL, fun y hy => ?_⟩⟩ (((o5.trans o6).trans o7).trans (oth _ _))⟩
  rcases List.mem_or_eq_of_mem_set hy with hy | rfl
  · exact (cel y hy).oth (oth _ _)
  · exact .inr ⟨p4, ⟨uo, lo, ro, tb, ad, _⟩, rfl, n4h, n4p, by rw [up_ne n4p, up_same]; rfl⟩
/-! #### _law_shuffled -/

def sp__law_shuffled : Sp3 := fun ds G Q E => match ds with | [.ref h, .fl xs] => ∃ cs i c s t, ∃ (l : List Nat) (m : Nat), G h = some (hnd cs i c s t) ∧ HOk cs i c ∧ xs = (l.map fun (j : Nat) => D.int j) ∧ l.length ≤ 64 ∧ (∀ z ∈ l, z < m) ∧ ∀ (o : List Nat) i' c' s' t', o.length = l.length → (∀ z ∈ o, z < m) → HOk cs i' c' → Q (.fl (o.map fun (j : Nat) => D.int j)) (up G h (hnd cs i' c' s' t')) | _ => False
def t__law_shuffled : TS3 :=
    (sseq (sset 2 (tcb (bList true) (acons (tv 1) anil)))
    (sseq (sset 3 (tlst true anil))
    (sseq (swhile (tb3 (t2 gt3 (tcb bLen (acons (tv 2) anil)) (tc (.int 0)))) (sdrop (tmeth isL mAppend (tv 3) (acons (tmeth isL mPopAt (tv 2) (acons (tcall sp__law_draw (acons (tv 0) (acons (tcb bLen (acons (tv 2) anil)) anil))) anil)) anil))))
    (sret (tfz (tv 3))))))
set_option maxHeartbeats 4000000 in
theorem vc__law_shuffled (ds : List D) (G : Gp) (Q : QK) (E : EK) (h : sp__law_shuffled ds G Q E) : t__law_shuffled (fnEnds Q E) (start3 N__law_shuffled ds) G := by
  unfold sp__law_shuffled at h
  split at h
  case h_2 => exact h.elim
  rename_i h xs
  obtain ⟨cs, i, c, s, t, l, m, hG, ok, rfl, l64, lm, hq⟩ := h
  have n0 : (l.map fun (j : Nat) => D.int j).length ≤ sizeLine := by rw [List.length_map]; show _ ≤ 16777216; omega
  refine ⟨_, rfl, _, rfl, fun p np => ?_⟩
  have ph : p ≠ h := ne_new hG np
  refine ⟨Nat.le_of_ble_eq_true rfl, fun p2 np2 => ?_⟩
  have p2p : p2 ≠ p := ne_new up_same np2
  have p2h : p2 ≠ h := ne_new (by rw [up_ne (Ne.symm ph)]; exact hG) np2
  dsimp only
  refine whN_inv (fun n σ G' => ∃ (a b : List Nat) (i c s t : Int), n = a.length ∧ a.length + b.length = l.length ∧ (∀ z ∈ a, z < m) ∧ (∀ z ∈ b, z < m) ∧ HOk cs i c ∧ G' = up (up (up G h (hnd cs i c s t)) p (.lst (a.map fun (j : Nat) => D.int j))) p2 (.lst (b.map fun (j : Nat) => D.int j)) ∧ σ = [some (.ref h), some (.fl (l.map fun (j : Nat) => D.int j)), some (.ref p), some (.ref p2)]) ?_ ⟨l, [], i, c, s, t, rfl, rfl, lm, fun z hz => (by cases hz), ok, (by rw [up_self hG]; rfl), rfl⟩
  · rintro n σ G' N ⟨a, b, i, c, s, t, rfl, hl, am, bm, ok, rfl, rfl⟩ hN
    have gp : ∀ o u w, up (up (up G h u) p o) p2 w p = some o := fun o u w => by rw [up_ne (Ne.symm p2p), up_same]
    have gh : ∀ o u w, up (up (up G h u) p o) p2 w h = some u := fun o u w => by rw [up_ne (Ne.symm p2h), up_ne (Ne.symm ph), up_same]
    have alen : (a.map fun (j : Nat) => D.int j).length = a.length := List.length_map _
    refine ⟨_, rfl, _, sq_ref (gp _ _ _), _, rfl, ite_b (fun z => ?_) (fun z => ?_)⟩
    · have z : 0 < a.length := by have := of_decide_eq_true z; rw [alen] at this; omega
      refine ⟨_, rfl, isL_ref up_same, _, rfl, isL_ref (gp _ _ _), _, rfl, _, rfl, _, sq_ref (gp _ _ _), _, _, _, _, _, gh _ _ _, ok, by rw [alen]; omega, by rw [alen]; omega, fun r i' c' s' t' r0 r1 ok' => ?_⟩
      rw [alen] at r1
      obtain ⟨k, rfl⟩ : ∃ k : Nat, r = k := ⟨r.toNat, by omega⟩
      have hk : k < a.length := by omega
      have e1 : up (up (up (up G h (hnd cs i c s t)) p (.lst (a.map fun (j : Nat) => D.int j))) p2 (.lst (b.map fun (j : Nat) => D.int j))) h (hnd cs i' c' s' t') = up (up (up G h (hnd cs i' c' s' t')) p (.lst (a.map fun (j : Nat) => D.int j))) p2 (.lst (b.map fun (j : Nat) => D.int j)) := by
        rw [up_comm (Ne.symm p2h), up_comm (Ne.symm ph), up_up]
      rw [e1]
      refine ⟨_, k, .int (a[k] : Nat), gp _ _ _, by omega, by omega, ?_, by simp [hk], ?_⟩
      · unfold seqIndex?
        rw [alen]
        simp [show ¬ ((k : Int) < 0) by omega, hk]
      · have e2 : up (up (up (up G h (hnd cs i' c' s' t')) p (.lst (a.map fun (j : Nat) => D.int j))) p2 (.lst (b.map fun (j : Nat) => D.int j))) p (.lst ((a.map fun (j : Nat) => D.int j).eraseIdx k)) = up (up (up G h (hnd cs i' c' s' t')) p (.lst ((a.eraseIdx k).map fun (j : Nat) => D.int j))) p2 (.lst (b.map fun (j : Nat) => D.int j)) := by
          rw [up_comm (Ne.symm p2p), up_up]
          congr 3
          exact eraseIdx_map_ _ _
        rw [e2]
        refine ⟨_, up_same, by rw [List.length_map]; show _ < 16777216; omega, ?_⟩
        rw [up_up]
        refine hN _ _ _ ?_ ⟨a.eraseIdx k, b ++ [a[k]], i', c', s', t', rfl, ?_, fun z hz => am z (List.mem_of_mem_eraseIdx hz), fun z hz => ?_, ok', by rw [List.map_append]; rfl, rfl⟩
        · rw [List.length_eraseIdx]; simp [hk]; omega
        · rw [List.length_eraseIdx, List.length_append, List.length_singleton]; simp [hk]; omega
        · rcases List.mem_append.mp hz with hz | hz
          · exact bm z hz
          · rw [List.mem_singleton] at hz; subst hz; exact am _ (List.getElem_mem hk)
    · have z : a.length = 0 := by have := of_decide_eq_false z; rw [alen] at this; omega
      refine ⟨_, rfl, fz_lst up_same ?_⟩
      refine ⟨up G h (hnd cs i c s t), fun x o ex => ?_, hq b _ _ _ _ (by omega) bm ok⟩
      have x2 : x ≠ p2 := fun e => by
        rw [e, up_ne p2h] at ex
        rw [up_ne p2p] at np2
        rw [np2] at ex; cases ex
      have x1 : x ≠ p := fun e => by rw [e, up_ne ph, np] at ex; cases ex
      rw [dl_ne x2, up_ne x2, up_ne x1]; exact ex
/-! #### _law_rows_of -/

def sp__law_rows_of : Sp3 := fun ds G Q E => match ds with | [.ref h, .tup xs] => ∃ cs i c s t, ∃ (ps : List (Option Nat)) (m : Nat), G h = some (hnd cs i c s t) ∧ HOk cs i c ∧ xs = ps.map pl ∧ ps.length = m ∧ 1 ≤ m ∧ m ≤ 64 ∧ (∀ o ∈ ps, okp m o) ∧ ∀ (rows : List (List Nat)) i' c' s' t', (∀ r ∈ rows, r ≠ [] ∧ r.length ≤ 65 ∧ ∀ z ∈ r, z < m) → rows.length ≤ 64 → HOk cs i' c' → Q (.fl (rows.map fun r => D.fl (r.map fun (j : Nat) => D.int j))) (up G h (hnd cs i' c' s' t')) | _ => False
def t__law_rows_of : TS3 :=
    (sseq (spar 4 5 (acons (tcb bLen (acons (tv 1) anil)) (acons (t2 (mul3 true) (tlst false (acons (tc .non) anil)) (tcb bLen (acons (tv 1) anil))) anil)))
    (sseq (sfor (iseq (tcall sp__law_shuffled (acons (tv 0) (acons (tlrg false (tv 4)) anil)))) (.n 2) (sif (Tand (tb3 (t2 (is3 true) (t2 ix3 (tv 1) (tv 2)) (tc .non))) (tb3 (t2 gt3 (tcall sp__law_draw (acons (tv 0) (acons (tc (.int 5)) anil))) (tc (.int 0))))) (ssub (tv 5) (t2 ix3 (tv 1) (tv 2)) (tv 2) setL3) snext))
    (sseq (sset 3 (tlst true anil))
    (sseq (sfor (irng1 (acons (tv 4) anil)) (.n 2) (sif (Tor (tb3 (t2 (is3 false) (t2 ix3 (tv 1) (tv 2)) (tc .non))) (tb3 (t2 ne3 (t2 ix3 (tv 5) (t2 ix3 (tv 1) (tv 2))) (tv 2)))) (sseq (sset 6 (tlst true (acons (tv 2) anil)))
    (sseq (sfor (irng1 (acons (tv 4) anil)) (.n 7) (sif (tb3 (t2 (is3 true) (t2 ix3 (tv 5) (t2 ix3 (tv 6) (tneg (tc (.int 1))))) (tc .non))) (sdrop (tmeth isL mAppend (tv 6) (acons (t2 ix3 (tv 5) (t2 ix3 (tv 6) (tneg (tc (.int 1))))) anil))) snext))
    (sdrop (tmeth isL mAppend (tv 3) (acons (tfz (tv 6)) anil))))) snext))
    (sret (tfz (tv 3)))))))
set_option maxHeartbeats 4000000 in
theorem vc__law_rows_of (ds : List D) (G : Gp) (Q : QK) (E : EK) (h : sp__law_rows_of ds G Q E) : t__law_rows_of (fnEnds Q E) (start3 N__law_rows_of ds) G := by
  unfold sp__law_rows_of at h
  split at h
  case h_2 => exact h.elim
  rename_i h xs
  obtain ⟨cs, i, c, s, t, ps, m, hG, ok, rfl, pl_, m1, m2, pok, hq⟩ := h
  have lp : (ps.map pl).length = m := by rw [List.length_map]; exact pl_
  have pat : ∀ z, z < m → ∃ o, ps[z]? = some o ∧ okp m o ∧ atI (ps.map pl) (z : Int) = some (pl o) := fun z hz => by
    have e : ps[z]? = some (ps[z]'(by omega)) := by simp [show z < ps.length by omega]
    exact ⟨_, e, pok _ (List.getElem_mem _), at_get (by omega) (by simp [show z < ps.length by omega])⟩
  refine ⟨_, rfl, _, rfl, Nat.le_of_ble_eq_true rfl, _, rfl, _, rfl, _, rfl, ⟨by rw [lp]; omega, by rw [lp]; omega, by rw [lp]; show 1 * _ ≤ 16777216; omega⟩, fun p np => ?_⟩
  have ph : p ≠ h := ne_new hG np
  have e0 : (List.replicate ((((ps.map pl).length : Nat) : Int)).toNat [D.non]).flatten = (List.replicate m (none : Option Nat)).map pl := by
    rw [Int.toNat_natCast, lp, List.flatten_replicate_singleton, List.map_replicate]; rfl
  rw [e0, lp]
  have gh : ∀ u w, up (up G h u) p w h = some u := fun u w => by rw [up_ne (Ne.symm ph), up_same]
  have gu : ∀ u u' w, up (up (up G h u) p w) h u' = up (up G h u') p w := fun u u' w => by rw [up_comm (Ne.symm ph), up_up]
  refine ⟨_, _, rfl, ?_⟩
  dsimp only
  refine sseq_cut (fun σ G' => ∃ (gs : List (Option Nat)) (i c s t : Int) (y2 : Option D), gs.length = m ∧ (∀ o ∈ gs, okp m o) ∧ HOk cs i c ∧ G' = up (up G h (hnd cs i c s t)) p (.lst (gs.map pl)) ∧ σ = [some (.ref h), some (.tup (ps.map pl)), y2, none, some (.int m), some (.ref p), none, none]) (fun M hM => ?_) ?_
  · refine ⟨_, rfl, _, rfl, _, rfl, .of_le (by omega) (by omega) (by omega) (by omega), ?_⟩
    rw [Int.toNat_natCast]
    refine ⟨cs, i, c, s, t, List.range m, m, (by rw [up_ne (Ne.symm ph)]; exact hG), ok, rfl, by rw [List.length_range]; omega, fun z hz => List.mem_range.mp hz, fun o i c s t ol om ok => ?_⟩
    rw [up_comm (Ne.symm ph)]
    refine ⟨_, rfl, forL_inv (fun _ σ G' => ∃ (gs : List (Option Nat)) (i c s t : Int) (y2 : Option D), gs.length = m ∧ (∀ o ∈ gs, okp m o) ∧ HOk cs i c ∧ G' = up (up G h (hnd cs i c s t)) p (.lst (gs.map pl)) ∧ σ = [some (.ref h), some (.tup (ps.map pl)), y2, none, some (.int m), some (.ref p), none, none]) ?_ ?_ ⟨List.replicate m none, i, c, s, t, none, List.length_replicate, fun x hx => (by rw [List.eq_of_mem_replicate hx]; intro z e; cases e), ok, rfl, rfl⟩⟩
    · rintro k x σ G' N ex ⟨gs, i, c, s, t, y2, gl, gok, ok, rfl, rfl⟩ hN
      rw [List.getElem?_map] at ex
      cases eo : o[k]? with
      | none => rw [eo] at ex; cases ex
      | some z =>
        rw [eo] at ex
        injection ex with ex
        subst ex
        have hz := om z (List.mem_of_getElem? eo)
        obtain ⟨w, _, wok, pz⟩ := pat z hz
        have skip : ∀ i c s t, HOk cs i c → N [some (.ref h), some (.tup (ps.map pl)), some (.int z), none, some (.int m), some (.ref p), none, none] (up (up G h (hnd cs i c s t)) p (.lst (gs.map pl))) := fun i c s t ok => hN _ _ ⟨gs, i, c, s, t, _, gl, gok, ok, rfl, rfl⟩
        refine ⟨trivial, _, rfl, _, rfl, _, _, rfl, pz, _, rfl, ite_b (fun z1 => ?_) (fun _ => iteF (skip i c s t ok))⟩
        cases w with
        | none => cases z1
        | some q =>
          have hq2 := wok q rfl
          refine ⟨_, rfl, _, _, _, _, _, gh _ _, ok, by decide, by decide, fun r i c s t _ _ ok => ?_⟩
          rw [gu]
          refine ⟨_, rfl, ite_b (fun _ => ?_) (fun _ => skip i c s t ok)⟩
          refine ⟨_, rfl, _, rfl, _, rfl, _, rfl, _, _, rfl, pz, _, q, up_same, ixn_ok q (by rw [List.length_map, gl]; exact hq2), ?_⟩
          rw [up_up]
          refine hN _ _ ⟨gs.set q (some z), i, c, s, t, _, by rw [List.length_set]; exact gl, fun x hx => ?_, ok, by rw [List.map_set]; rfl, rfl⟩
          rcases List.mem_or_eq_of_mem_set hx with hx | rfl
          · exact gok x hx
          · intro y e; injection e with e; omega
    · rintro σ G' ⟨gs, i, c, s, t, y2, gl, gok, ok, rfl, rfl⟩
      exact ⟨trivial, hM _ _ ⟨gs, i, c, s, t, y2, gl, gok, ok, rfl, rfl⟩⟩
  rintro σ G' ⟨gs, i, c, s, t, y2, gl, gok, ok, rfl, rfl⟩
  have gat : ∀ z, z < m → ∃ o, okp m o ∧ atI (gs.map pl) (z : Int) = some (pl o) := fun z hz =>
    ⟨gs[z]'(by omega), gok _ (List.getElem_mem _), at_get (by omega) (by simp [show z < gs.length by omega])⟩
  have g2 : up (up G h (hnd cs i c s t)) p (.lst (gs.map pl)) p = some (.lst (gs.map pl)) := up_same
  have fin : ∀ (A : List (List Nat)) (p3 : Addr) (w : GO), up (up G h (hnd cs i c s t)) p (.lst (gs.map pl)) p3 = none → Sub (up G h (hnd cs i c s t)) (dl (up (up (up G h (hnd cs i c s t)) p (.lst (gs.map pl))) p3 w) p3) := fun A p3 w n3 b o eb => by
    have p3p : p3 ≠ p := ne_new up_same n3
    rw [up_ne p3p] at n3
    have b3 : b ≠ p3 := fun z => by rw [z, n3] at eb; cases eb
    have bp : b ≠ p := fun z => by rw [z, up_ne ph, np] at eb; cases eb
    rw [dl_ne b3, up_ne b3, up_ne bp]; exact eb
  generalize hG2 : up (up G h (hnd cs i c s t)) p (.lst (gs.map pl)) = G2 at g2 fin ⊢
  refine ⟨Nat.le_of_ble_eq_true rfl, fun p3 n3 => ?_⟩
  have p3p : p3 ≠ p := ne_new g2 n3
  dsimp only
  refine sseq_cut (fun σ G' => ∃ (rows : List (List Nat)) (y2 y6 y7 : Option D), rows.length ≤ 64 ∧ (∀ r ∈ rows, r ≠ [] ∧ r.length ≤ 65 ∧ ∀ z ∈ r, z < m) ∧ G' = up G2 p3 (.lst (rows.map fun r => D.fl (r.map fun (j : Nat) => D.int j))) ∧ σ = [some (.ref h), some (.tup (ps.map pl)), y2, some (.ref p3), some (.int m), some (.ref p), y6, y7]) (fun M hM => ?_) ?_
  · refine ⟨_, rfl, _, rfl, by omega, by omega, forL_inv (fun k σ G' => ∃ (rows : List (List Nat)) (y2 y6 y7 : Option D), rows.length ≤ k ∧ (∀ r ∈ rows, r ≠ [] ∧ r.length ≤ 65 ∧ ∀ z ∈ r, z < m) ∧ G' = up G2 p3 (.lst (rows.map fun r => D.fl (r.map fun (j : Nat) => D.int j))) ∧ σ = [some (.ref h), some (.tup (ps.map pl)), y2, some (.ref p3), some (.int m), some (.ref p), y6, y7]) ?_ ?_ ⟨[], y2, none, none, Nat.le_refl _, fun r hr => (by cases hr), rfl, rfl⟩⟩
    · rintro k x σ G' N ex ⟨rows, y2, y6, y7, rl, rok, rfl, rfl⟩ hN
      rw [List.getElem?_map] at ex
      have hk : k < m := by
        cases q : (List.range (m : Int).toNat)[k]? with
        | none => rw [q] at ex; cases ex
        | some j =>
          have := (List.getElem?_eq_some_iff.mp q).1
          rw [List.length_range] at this; omega
      rw [List.getElem?_range (by omega)] at ex
      injection ex with ex
      subst ex
      obtain ⟨w, _, wok, pz⟩ := pat k hk
      have g3 : ∀ v, up G2 p3 v p = some (.lst (gs.map pl)) := fun v => by rw [up_ne (Ne.symm p3p)]; exact g2
      have body : ∀ (D0 : Ends3), D0.nx = N → (sseq (sset 6 (tlst true (acons (tv 2) anil)))
          (sseq (sfor (irng1 (acons (tv 4) anil)) (.n 7) (sif (tb3 (t2 (is3 true) (t2 ix3 (tv 5) (t2 ix3 (tv 6) (tneg (tc (.int 1))))) (tc .non))) (sdrop (tmeth isL mAppend (tv 6) (acons (t2 ix3 (tv 5) (t2 ix3 (tv 6) (tneg (tc (.int 1))))) anil))) snext))
          (sdrop (tmeth isL mAppend (tv 3) (acons (tfz (tv 6)) anil))))) D0 [some (.ref h), some (.tup (ps.map pl)), some (.int k), some (.ref p3), some (.int m), some (.ref p), y6, y7] (up G2 p3 (.lst (rows.map fun r => D.fl (r.map fun (j : Nat) => D.int j)))) := fun D0 hD => by
        refine ⟨_, rfl, Nat.le_of_ble_eq_true rfl, fun p4 n4 => ?_⟩
        have p43 : p4 ≠ p3 := ne_new up_same n4
        have p4p : p4 ≠ p := ne_new (g3 _) n4
        have g4 : ∀ u v, up (up G2 p3 v) p4 u p = some (.lst (gs.map pl)) := fun u v => by rw [up_ne (Ne.symm p4p)]; exact g3 _
        dsimp only
        refine sseq_cut (fun σ G' => ∃ (a : List Nat) (z : Nat) (y7 : Option D), a.length ≤ 64 ∧ (∀ j ∈ a ++ [z], j < m) ∧ G' = up (up G2 p3 (.lst (rows.map fun r => D.fl (r.map fun (j : Nat) => D.int j)))) p4 (.lst ((a ++ [z]).map fun (j : Nat) => D.int j)) ∧ σ = [some (.ref h), some (.tup (ps.map pl)), some (.int k), some (.ref p3), some (.int m), some (.ref p), some (.ref p4), y7]) (fun M2 hM2 => ?_) ?_
        · refine ⟨_, rfl, _, rfl, by omega, by omega, forL_inv (fun q σ G' => ∃ (a : List Nat) (z : Nat) (y7 : Option D), a.length ≤ q ∧ (∀ j ∈ a ++ [z], j < m) ∧ G' = up (up G2 p3 (.lst (rows.map fun r => D.fl (r.map fun (j : Nat) => D.int j)))) p4 (.lst ((a ++ [z]).map fun (j : Nat) => D.int j)) ∧ σ = [some (.ref h), some (.tup (ps.map pl)), some (.int k), some (.ref p3), some (.int m), some (.ref p), some (.ref p4), y7]) ?_ ?_ ⟨[], k, y7, Nat.le_refl _, fun j hj => (by rw [List.nil_append, List.mem_singleton] at hj; omega), rfl, rfl⟩⟩
          · rintro q x σ G' N2 exq ⟨a, z, y7, al, am, rfl, rfl⟩ hN2
            have hqm : q < m := by
              have := (List.getElem?_eq_some_iff.mp exq).1
              rw [List.length_map, List.length_range] at this; omega
            have hz : z < m := am z (by simp)
            obtain ⟨o, ook, go⟩ := gat z hz
            have lst : atI ((a ++ [z]).map fun (j : Nat) => D.int j) (-1) = some (.int z) := by rw [List.map_append]; exact last_at _ _
            refine ⟨trivial, _, rfl, _, rfl, _, rfl, _, _, sq_ref up_same, lst, _, _, sq_ref (g4 _ _), go, _, rfl, ite_b (fun z1 => ?_) (fun _ => hN2 _ _ ⟨a, z, _, by omega, am, rfl, rfl⟩)⟩
            cases o with
            | none => cases z1
            | some o =>
              refine ⟨_, rfl, isL_ref up_same, _, rfl, _, rfl, _, rfl, _, _, sq_ref up_same, lst, _, _, sq_ref (g4 _ _), go, _, up_same, (by rw [List.length_map, List.length_append, List.length_singleton]; show _ < 16777216; omega), ?_⟩
              rw [up_up]
              refine hN2 _ _ ⟨a ++ [z], o, _, by rw [List.length_append, List.length_singleton]; omega, fun j hj => ?_, ?_, rfl⟩
              · rcases List.mem_append.mp hj with hj | hj
                · exact am j hj
                · rw [List.mem_singleton] at hj; subst hj; exact ook _ rfl
              · rw [List.map_append (l₂ := [o])]; rfl
          · rintro σ G' ⟨a, z, y7, al, am, rfl, rfl⟩
            rw [List.length_map, List.length_range] at al
            exact ⟨trivial, hM2 _ _ ⟨a, z, y7, by omega, am, rfl, rfl⟩⟩
        rintro σ G' ⟨a, z, y7, al, am, rfl, rfl⟩
        refine ⟨_, rfl, isL_ref (by rw [up_ne (Ne.symm p43), up_same]), _, rfl, fz_lst up_same ?_⟩
        rw [dl_up n4]
        refine ⟨_, up_same, (by rw [List.length_map]; show _ < 16777216; omega), ?_⟩
        rw [up_up, hD]
        refine hN _ _ ⟨rows ++ [a ++ [z]], _, _, _, by rw [List.length_append, List.length_singleton]; omega, fun r hr => ?_, by rw [show (rows ++ [a ++ [z]]).map (fun r => D.fl (r.map fun (j : Nat) => D.int j)) = rows.map (fun r => D.fl (r.map fun (j : Nat) => D.int j)) ++ [D.fl ((a ++ [z]).map fun (j : Nat) => D.int j)] from List.map_append], rfl⟩
        rcases List.mem_append.mp hr with hr | hr
        · exact rok r hr
        · rw [List.mem_singleton] at hr; subst hr
          exact ⟨by simp, by rw [List.length_append, List.length_singleton]; omega, am⟩
      refine ⟨trivial, _, rfl, _, rfl, _, _, rfl, pz, _, rfl, ite_b (fun _ => iteT (body _ rfl)) (fun z1 => ?_)⟩
      cases w with
      | none => cases z1
      | some q =>
        obtain ⟨o, ook, go⟩ := gat q (wok q rfl)
        exact ⟨_, rfl, _, rfl, _, rfl, _, _, rfl, pz, _, _, sq_ref (g3 _), go, _, rfl, (by cases o <;> rfl), _, rfl, ite_b (fun _ => body _ rfl) (fun _ => hN _ _ ⟨rows, _, y6, y7, by omega, rok, rfl, rfl⟩)⟩
    · rintro σ G' ⟨rows, y2, y6, y7, rl, rok, rfl, rfl⟩
      rw [List.length_map, List.length_range] at rl
      exact ⟨trivial, hM _ _ ⟨rows, y2, y6, y7, by omega, rok, rfl, rfl⟩⟩
  rintro σ G' ⟨rows, y2, y6, y7, rl, rok, rfl, rfl⟩
  refine ⟨_, rfl, fz_lst up_same ⟨up G h (hnd cs i c s t), fin rows p3 _ n3, hq rows _ _ _ _ rok rl ok⟩⟩
/-! #### _law_laid -/

def sp__law_laid : Sp3 := fun ds G Q E => match ds with | [.ref h, .tup xs, .tup ys] => ∃ cs i c s t m, ∃ (ps : List (Option Nat)) (ws : List Int), G h = some (hnd cs i c s t) ∧ HOk cs i c ∧ xs = ps.map pl ∧ ys = ws.map D.int ∧ ps.length = m ∧ ws.length = m ∧ 1 ≤ m ∧ m ≤ 64 ∧ (∀ o ∈ ps, okp m o) ∧ ∀ p G', G p = none → PS h p cs m G' → Oth h p G G' → Q (.ref p) G' | _ => False
def t__law_laid : TS3 :=
    (sseq (sset 3 (t2 (mul3 true) (tlst false (acons (tlst false anil) anil)) (tcb bLen (acons (tv 1) anil))))
    (sseq (sfor (iseq (tcall sp__law_rows_of (acons (tv 0) (acons (tv 1) anil)))) (.n 4) (sdrop (tcall (sp__law_planted 66) (acons (tv 0) (acons (tv 4) (acons (t2 ix3 (tv 1) (t2 ix3 (tv 4) (tc (.int 0)))) (acons (tc (.int 0)) (acons (tv 2) (acons (tv 3) anil)))))))))
    (sret (tv 3))))
set_option maxHeartbeats 4000000 in
theorem vc__law_laid (ds : List D) (G : Gp) (Q : QK) (E : EK) (h : sp__law_laid ds G Q E) : t__law_laid (fnEnds Q E) (start3 N__law_laid ds) G := by
  unfold sp__law_laid at h
  split at h
  case h_2 => exact h.elim
  rename_i h xs ys
  obtain ⟨cs, i, c, s, t, m, ps, ws, hG, ok, rfl, rfl, pl_, wl, m1, m2, pok, hq⟩ := h
  have lp : (ps.map pl).length = m := by rw [List.length_map]; exact pl_
  refine ⟨Nat.le_of_ble_eq_true rfl, Nat.le_of_ble_eq_true rfl, _, rfl, _, rfl, _, rfl, ⟨by rw [lp]; omega, by rw [lp]; omega, by rw [lp]; show 1 * _ ≤ 16777216; omega⟩, fun p np => ?_⟩
  have ph : p ≠ h := ne_new hG np
  have e0 : (List.replicate ((((ps.map pl).length : Nat) : Int)).toNat [D.fl []]).flatten = List.replicate m (D.fl []) := by
    rw [Int.toNat_natCast, lp, List.flatten_replicate_singleton]
  rw [e0]
  refine ⟨_, rfl, _, rfl, cs, i, c, s, t, ps, m, (by rw [up_ne (Ne.symm ph)]; exact hG), ok, rfl, pl_, m1, m2, pok, fun rows i c s t rok rl ok => ?_⟩
  rw [up_comm (Ne.symm ph)]
  have a0 : PS h p cs m (up (up G h (hnd cs i c s t)) p (.lst (List.replicate m (D.fl [])))) := ⟨⟨i, c, s, t, by rw [up_ne (Ne.symm ph), up_same], ok⟩, ⟨_, up_same, List.length_replicate, fun y hy => .inl (List.eq_of_mem_replicate hy)⟩⟩
  have o0 : Oth h p G (up (up G h (hnd cs i c s t)) p (.lst (List.replicate m (D.fl [])))) := fun b o n1 n2 e => by rw [up_ne n2, up_ne n1]; exact e
  refine ⟨_, rfl, forL_inv (fun k σ G' => PS h p cs m G' ∧ Oth h p G G' ∧ ∃ y, σ = [some (.ref h), some (.tup (ps.map pl)), some (.tup (ws.map D.int)), some (.ref p), y]) ?_ ?_ ⟨a0, o0, _, rfl⟩⟩
  · rintro k x σ G' N ex ⟨a, o, y, rfl⟩ hN
    rw [List.getElem?_map] at ex
    cases er : rows[k]? with
    | none => rw [er] at ex; cases ex
    | some r =>
      rw [er] at ex
      injection ex with ex
      subst ex
      obtain ⟨r1, r2, r3⟩ := rok r (List.mem_of_getElem? er)
      cases r with
      | nil => exact absurd rfl r1
      | cons z r =>
        have hz : z < m := r3 z List.mem_cons_self
        have pz : atI (ps.map pl) (z : Int) = some (pl (ps[z]'(by omega))) := at_get (by omega) (by simp [show z < ps.length by omega])
        have z0 : atI ((z :: r).map fun (j : Nat) => D.int j) 0 = some (.int z) := at_get (by decide) (by simp)
        refine ⟨trivial, _, rfl, _, rfl, _, rfl, _, rfl, _, .int z, rfl, z0, _, _, rfl, pz, _, rfl, _, rfl, ?_⟩
        exact ⟨cs, m, z :: r, _, ws, a, Ne.symm ph, rfl, r2, r2, r3, rfl, rfl, wl, fun o2 G2 a2 o3 => hN _ _ ⟨a2, o.trans o3, _, rfl⟩⟩
  · rintro σ G' ⟨a, o, y, rfl⟩
    exact ⟨trivial, _, rfl, dn_refl (hq p _ np a o)⟩
/-! #### _law_shape -/

def sp__law_shape : Sp3 := fun ds G Q E => match ds with | [.ref p] => ∃ h cs m, PS h p cs m G ∧ m ≤ 64 ∧ ∀ ys : List D, ys.length = m → (∀ y ∈ ys, Rtu y) → Q (.tup ys) G | _ => False
def t__law_shape : TS3 :=
    (sret (tcb bTup (acons (tlc false (iseq (tv 0)) (.n 1) Tyes (tcb bTup (acons (tv 1) anil)) [1]) anil)))
set_option maxHeartbeats 4000000 in
theorem vc__law_shape (ds : List D) (G : Gp) (Q : QK) (E : EK) (h : sp__law_shape ds G Q E) : t__law_shape (fnEnds Q E) (start3 N__law_shape ds) G := by
  unfold sp__law_shape at h
  split at h
  case h_2 => exact h.elim
  rename_i p
  obtain ⟨h, cs, m, a, m64, hq⟩ := h
  obtain ⟨L, hp, l, cel⟩ := a.pp
  let f : D → Option D := fun y => match y with | .ref a => (match G a with | some (.lst its) => some (.tup its) | _ => some (.tup [])) | _ => some (.tup [])
  have fr : ∀ a r, G a = some (.lst (Row.items r)) → f (.ref a) = some r.d := fun a r e => by
    show (match G a with | some (.lst its) => some (D.tup its) | _ => some (D.tup [])) = _
    rw [e]; rfl
  refine ⟨_, rfl, _, sq_ref hp, lc_pure f (fun y my G' sb R hR => ?_) (fun G' sb => sb _ _ hp) (by show _ ≤ 16777216; omega) ?_⟩
  · rcases cel y my with rfl | ⟨b, r, rfl, _, _, e⟩
    · exact ⟨_, rfl, _, rfl, hR⟩
    · rw [fr b r e] at hR
      exact ⟨_, rfl, _, sq_ref (sb _ _ e), hR⟩
  · have len : ∀ l : List D, (∀ y ∈ l, Cel h p G y) → (l.filterMap f).length = l.length := by
      intro l
      induction l with
      | nil => intro _; rfl
      | cons y l ih =>
        intro k
        have ih := ih fun z hz => k z (List.mem_cons_of_mem _ hz)
        rcases k y List.mem_cons_self with rfl | ⟨b, r, rfl, _, _, e⟩
        · rw [List.filterMap_cons_some (show f (.fl []) = some (.tup []) from rfl), List.length_cons, List.length_cons, ih]
        · rw [List.filterMap_cons_some (fr b r e), List.length_cons, List.length_cons, ih]
    refine ⟨_, rfl, dn_refl (hq _ ((len L cel).trans l) fun y my => ?_)⟩
    obtain ⟨z, mz, ez⟩ := List.mem_filterMap.mp my
    rcases cel z mz with rfl | ⟨b, r, rfl, _, _, e⟩
    · injection ez with ez; exact .inl ez.symm
    · rw [fr b r e] at ez; injection ez with ez; exact .inr ⟨r, ez.symm⟩
/-! #### _law_trees -/

def sp__law_trees : Sp3 := fun ds G Q E => match ds with | [.ref h, .int n] => ∃ cs i c s t, ∃ m : Nat, G h = some (hnd cs i c s t) ∧ HOk cs i c ∧ n = m ∧ 1 ≤ m ∧ m ≤ 64 ∧ ∀ (ps : List (Option Nat)) (ws : List Int) i' c' s' t', ps.length = m → (∀ o ∈ ps, okp m o) → ws.length = m → HOk cs i' c' → Q (.tup [.tup (ps.map pl), .tup (ws.map D.int)]) (up G h (hnd cs i' c' s' t')) | _ => False
def t__law_trees : TS3 :=
    (sseq (spar3 4 5 6 (acons (tcall sp__law_shuffled (acons (tv 0) (acons (tlrg false (tv 1)) anil))) (acons (t2 (mul3 true) (tlst false (acons (tc .non) anil)) (tv 1)) (acons (tcall sp__law_draw (acons (tv 0) (acons (tc (.int 4)) anil))) anil))))
    (sseq (sfor (irng2 (acons (tc (.int 1)) (acons (tv 1) anil))) (.n 2) (sseq (sset 7 (tif (Tor (tb3 (t2 eq3 (tv 6) (tc (.int 0)))) (Tand (tb3 (t2 eq3 (tv 6) (tc (.int 1)))) (tb3 (t2 gt3 (tcall sp__law_draw (acons (tv 0) (acons (tc (.int 3)) anil))) (tc (.int 0)))))) (t2 sub3 (tv 2) (tc (.int 1))) (tcall sp__law_draw (acons (tv 0) (acons (tv 2) anil)))))
    (sif (Tor (tb3 (t2 eq3 (tv 6) (tc (.int 0)))) (tb3 (t2 gt3 (tcall sp__law_draw (acons (tv 0) (acons (tc (.int 6)) anil))) (tc (.int 0))))) (ssub (tv 5) (t2 ix3 (tv 4) (tv 2)) (t2 ix3 (tv 4) (tv 7)) setL3) snext)))
    (sseq (sset 3 (tlc false (irng1 (acons (tv 1) anil)) (.n 8) Tyes (tcall sp__law_some (acons (tv 0) (acons (tlst false (acons (tc (.int 0)) (acons (tc (.int 1)) (acons (tneg (tc (.int 1))) (acons (tc (.int 5)) (acons (tc (.int 7)) (acons (tc (.int 9)) (acons (t2 sub3 (tcall sp__law_draw (acons (tv 0) (acons (tc (.int 100)) anil))) (tc (.int 50))) anil)))))))) anil))) [8]))
    (sret (ttup (acons (tcb bTup (acons (tv 5) anil)) (acons (tcb bTup (acons (tv 3) anil)) anil)))))))
set_option maxHeartbeats 4000000 in
theorem vc__law_trees (ds : List D) (G : Gp) (Q : QK) (E : EK) (h : sp__law_trees ds G Q E) : t__law_trees (fnEnds Q E) (start3 N__law_trees ds) G := by
  unfold sp__law_trees at h
  split at h
  case h_2 => exact h.elim
  rename_i h n
  obtain ⟨cs, i, c, s, t, m, hG, ok, rfl, m1, m2, hq⟩ := h
  have lr : ((List.range m).map fun (j : Nat) => D.int j).length = m := by rw [List.length_map, List.length_range]
  refine ⟨_, rfl, _, rfl, _, rfl, .of_le (by omega) (by omega) (by omega) (by omega), ?_⟩
  rw [Int.toNat_natCast]
  refine ⟨_, _, _, _, _, List.range m, m, hG, ok, rfl, by rw [List.length_range]; omega, fun z hz => List.mem_range.mp hz, fun o i c s t ol om ok => ?_⟩
  rw [List.length_range] at ol
  refine ⟨Nat.le_of_ble_eq_true rfl, _, rfl, _, rfl, ⟨by omega, by omega, by show 1 * _ ≤ 16777216; omega⟩, fun p np => ?_⟩
  have ph : p ≠ h := ne_new up_same np
  have np : G p = none := by rw [up_ne ph] at np; exact np
  refine ⟨_, rfl, _, _, _, _, _, (by rw [up_ne (Ne.symm ph), up_same]), ok, by decide, by decide, fun kd i c s t _ _ ok => ?_⟩
  rw [up_comm (Ne.symm ph), up_up]
  have e0 : (List.replicate (m : Int).toNat [D.non]).flatten = (List.replicate m (none : Option Nat)).map pl := by
    rw [Int.toNat_natCast, List.flatten_replicate_singleton, List.map_replicate]; rfl
  rw [e0]
  refine ⟨_, _, _, rfl, ?_⟩
  dsimp only
  have oget : ∀ q, q < m → ∃ z, o[q]? = some z ∧ z < m ∧ atI (o.map fun (j : Nat) => D.int j) (q : Int) = some (.int (z : Nat)) := fun q hq => by
    have hz : o[q]? = some (o[q]'(by omega)) := by simp [show q < o.length by omega]
    exact ⟨_, hz, om _ (List.getElem_mem _), at_get (by omega) (by simp [show q < o.length by omega])⟩
  have gh : ∀ u w, up (up G h u) p w h = some u := fun u w => by rw [up_ne (Ne.symm ph), up_same]
  have gu : ∀ u u' w, up (up (up G h u) p w) h u' = up (up G h u') p w := fun u u' w => by rw [up_comm (Ne.symm ph), up_up]
  refine sseq_cut (fun σ G' => ∃ (ps : List (Option Nat)) (i c s t : Int) (y2 y7 : Option D), ps.length = m ∧ (∀ o ∈ ps, okp m o) ∧ HOk cs i c ∧ G' = up (up G h (hnd cs i c s t)) p (.lst (ps.map pl)) ∧ σ = [some (.ref h), some (.int m), y2, none, some (.fl (o.map fun (j : Nat) => D.int j)), some (.ref p), some (.int kd), y7, none]) (fun M hM => ?_) ?_
  · refine ⟨_, rfl, 1, m, rfl, ⟨by decide, by decide, by omega, by omega⟩, forL_inv (fun k σ G' => ∃ (ps : List (Option Nat)) (i c s t : Int) (y2 y7 : Option D), ps.length = m ∧ (∀ o ∈ ps, okp m o) ∧ HOk cs i c ∧ G' = up (up G h (hnd cs i c s t)) p (.lst (ps.map pl)) ∧ σ = [some (.ref h), some (.int m), y2, none, some (.fl (o.map fun (j : Nat) => D.int j)), some (.ref p), some (.int kd), y7, none]) ?_ ?_ ⟨List.replicate m none, i, c, s, t, _, _, List.length_replicate, fun x hx => (by rw [List.eq_of_mem_replicate hx]; intro z e; cases e), ok, rfl, rfl⟩⟩
    · rintro k x σ G' N ex ⟨ps, i, c, s, t, y2, y7, pl_, pok, ok, rfl, rfl⟩ hN
      rw [List.getElem?_map] at ex
      have hk : 1 + k < m := by
        cases q : (List.range ((m : Int) - 1).toNat)[k]? with
        | none => rw [q] at ex; cases ex
        | some j =>
          have := (List.getElem?_eq_some_iff.mp q).1
          rw [List.length_range] at this; omega
      rw [List.getElem?_range (by omega)] at ex
      injection ex with ex
      obtain ⟨a, ea, ha⟩ : ∃ a : Nat, (1 : Int) + k = a ∧ a < m := ⟨1 + k, by omega, hk⟩
      have ha1 : 1 ≤ a := by omega
      have ex : D.int ((1 : Int) + k) = x := ex
      rw [ea] at ex
      subst ex
      refine ⟨trivial, ?_⟩
      dsimp only [Tg.b]
      refine sseq_cut (fun σ G' => ∃ (z : Nat) (i c s t : Int), z < m ∧ HOk cs i c ∧ G' = up (up G h (hnd cs i c s t)) p (.lst (ps.map pl)) ∧ σ = [some (.ref h), some (.int m), some (.int a), none, some (.fl (o.map fun (j : Nat) => D.int j)), some (.ref p), some (.int kd), some (.int z), none]) (fun M hM => ?_) ?_
      · have one : M [some (.ref h), some (.int m), some (.int a), none, some (.fl (o.map fun (j : Nat) => D.int j)), some (.ref p), some (.int kd), some (.int ((a : Int) - 1)), none] (up (up G h (hnd cs i c s t)) p (.lst (ps.map pl))) := by
          refine hM _ _ ⟨a - 1, i, c, s, t, by omega, ok, rfl, ?_⟩
          rw [show ((a : Int) - 1) = ((a - 1 : Nat) : Int) by omega]
        have two : ∀ (R : QK) (Er : EK), (∀ d G1, M [some (.ref h), some (.int m), some (.int a), none, some (.fl (o.map fun (j : Nat) => D.int j)), some (.ref p), some (.int kd), some d, none] G1 → R d G1) → ∀ i c s t, HOk cs i c → (tcall sp__law_draw (acons (tv 0) (acons (tv 2) anil))) [some (.ref h), some (.int m), some (.int a), none, some (.fl (o.map fun (j : Nat) => D.int j)), some (.ref p), some (.int kd), y7, none] (up (up G h (hnd cs i c s t)) p (.lst (ps.map pl))) R Er := fun R Er hR i c s t ok => by
          refine ⟨_, rfl, _, rfl, _, _, _, _, _, gh _ _, ok, by omega, by omega, fun r i c s t r0 r1 ok => ?_⟩
          rw [gu]
          exact hR _ _ (hM _ _ ⟨r.toNat, i, c, s, t, by omega, ok, rfl, by rw [Int.toNat_of_nonneg r0]⟩)
        refine ⟨_, rfl, rfl, _, rfl, ite_b (fun _ => ⟨_, rfl, one⟩) (fun _ => ?_)⟩
        refine ⟨_, rfl, rfl, _, rfl, ite_b (fun _ => ?_) (fun _ => two _ _ (fun _ _ z => z) i c s t ok)⟩
        refine ⟨_, rfl, _, _, _, _, _, gh _ _, ok, by decide, by decide, fun r i c s t _ _ ok => ?_⟩
        rw [gu]
        exact ⟨_, rfl, ite_b (fun _ => ⟨_, rfl, by
          exact hM _ _ ⟨a - 1, i, c, s, t, by omega, ok, rfl, by rw [show ((a - 1 : Nat) : Int) = (a : Int) - 1 by omega]; rfl⟩⟩) (fun _ => two _ _ (fun _ _ z => z) i c s t ok)⟩
      rintro σ G' ⟨z, i, c, s, t, hz, ok, rfl, rfl⟩
      obtain ⟨oa, e1, la, ga⟩ := oget a ha
      obtain ⟨oz, e2, lz, gz⟩ := oget z hz
      have set : ∀ (D0 : Ends3), D0.nx = N → ∀ i c s t, HOk cs i c → (ssub (tv 5) (t2 ix3 (tv 4) (tv 2)) (t2 ix3 (tv 4) (tv 7)) setL3) D0 [some (.ref h), some (.int m), some (.int a), none, some (.fl (o.map fun (j : Nat) => D.int j)), some (.ref p), some (.int kd), some (.int z), none] (up (up G h (hnd cs i c s t)) p (.lst (ps.map pl))) := fun D0 hD i c s t ok => by
        refine ⟨_, rfl, _, rfl, _, _, rfl, gz, _, rfl, _, rfl, _, rfl, _, _, rfl, ga, _, oa, up_same, ixn_ok oa (by rw [List.length_map, pl_]; exact la), ?_⟩
        rw [up_up, hD]
        refine hN _ _ ⟨ps.set oa (some oz), i, c, s, t, _, _, by rw [List.length_set]; exact pl_, fun x hx => ?_, ok, by rw [List.map_set]; rfl, rfl⟩
        rcases List.mem_or_eq_of_mem_set hx with hx | rfl
        · exact pok x hx
        · intro y e; injection e with e; omega
      refine ⟨_, rfl, rfl, _, rfl, ite_b (fun _ => iteT (set _ rfl i c s t ok)) (fun _ => ?_)⟩
      refine ⟨_, rfl, _, _, _, _, _, gh _ _, ok, by decide, by decide, fun r i c s t _ _ ok => ?_⟩
      rw [gu]
      exact ⟨_, rfl, ite_b (fun _ => set _ rfl i c s t ok) (fun _ => hN _ _ ⟨ps, i, c, s, t, _, _, pl_, pok, ok, rfl, rfl⟩)⟩
    · rintro σ G' ⟨ps, i, c, s, t, y2, y7, pl_, pok, ok, rfl, rfl⟩
      exact ⟨trivial, hM _ _ ⟨ps, i, c, s, t, y2, y7, pl_, pok, ok, rfl, rfl⟩⟩
  rintro σ G' ⟨ps, i, c, s, t, y2, y7, pl_, pok, ok, rfl, rfl⟩
  refine ⟨_, rfl, _, rfl, by omega, by omega, lc_inv (fun k acc G' => ∃ (ws : List Int) (i c s t : Int), acc = ws.map D.int ∧ ws.length = k ∧ HOk cs i c ∧ G' = up (up G h (hnd cs i c s t)) p (.lst (ps.map pl))) (by rw [List.length_map, List.length_range]; show _ ≤ 16777216; omega) ?_ ?_ ⟨[], i, c, s, t, rfl, rfl, ok, rfl⟩⟩
  · rintro k x acc G' q N N' ex np' ⟨ws, i, c, s, t, rfl, wl, ok, rfl⟩ hN _
    have qp : q ≠ p := ne_new up_same np'
    have qh : q ≠ h := ne_new (gh _ _) np'
    have g1 : ∀ u w v, up (up (up G h u) p w) q v h = some u := fun u w v => by rw [up_ne (Ne.symm qh)]; exact gh _ _
    have g2 : ∀ u u' w v, up (up (up (up G h u) p w) q v) h u' = up (up (up G h u') p w) q v := fun u u' w v => by rw [up_comm (Ne.symm qh), gu]
    refine ⟨trivial, _, rfl, _, rfl, _, rfl, _, _, _, _, _, g1 _ _ _, ok, by decide, by decide, fun r i c s t _ _ ok => ?_⟩
    rw [g2]
    refine ⟨Nat.le_of_ble_eq_true rfl, _, _, _, _, _, [.int 0, .int 1, .int (-1), .int 5, .int 7, .int 9, .int (r - 50)], g1 _ _ _, ok, rfl, (fun z => by cases z), Nat.le_of_ble_eq_true rfl, Nat.le_of_ble_eq_true rfl, fun x i c s t mx ok => ?_⟩
    rw [g2]
    obtain ⟨v, rfl⟩ : ∃ v, x = D.int v := by
      simp only [List.mem_cons, List.not_mem_nil, or_false] at mx
      rcases mx with rfl | rfl | rfl | rfl | rfl | rfl | rfl <;> exact ⟨_, rfl⟩
    refine hN _ _ ?_ ⟨ws ++ [v], i, c, s, t, by rw [List.map_append]; rfl, by rw [List.length_append, wl]; rfl, ok, rfl⟩
    rw [up_ne qp, up_ne qh]
    rw [up_ne qp, up_ne qh] at np'
    exact np'
  · rintro acc G' q np' ⟨ws, i, c, s, t, rfl, wl, ok, rfl⟩
    refine ⟨trivial, _, rfl, _, sq_ref up_same, _, rfl, _, rfl, Nat.le_of_ble_eq_true rfl, up G h (hnd cs i c s t), fun b o eb => ?_, hq ps ws _ _ _ _ pl_ pok (by rw [wl, List.length_map, List.length_range, Int.toNat_natCast]) ok⟩
    have bp : b ≠ p := fun z => by rw [z, up_ne ph, np] at eb; cases eb
    rw [up_ne bp]; exact eb
/-! #### check_within -/

def sp_check_within : Sp3 := fun ds G Q E => match ds with | [x, .int a, .int b] => kn OC x = true ∧ (wiI a b x = true → Q .non G) ∧ (wiI a b x = false → E ⟨Str.ofString "NoNumber", none⟩ G) | _ => False
def t_check_within : TS3 :=
    (sif (Tnot (tb3 (tcall sp_is_within (acons (tv 0) (acons (tv 1) (acons (tv 2) anil)))))) (sraise (Str.ofString "NoNumber")) snext)
set_option maxHeartbeats 4000000 in
theorem vc_check_within (ds : List D) (G : Gp) (Q : QK) (E : EK) (h : sp_check_within ds G Q E) : t_check_within (fnEnds Q E) (start3 N_check_within ds) G := by
  unfold sp_check_within at h
  split at h
  case h_2 => exact h.elim
  obtain ⟨hk, hq, he⟩ := h
  refine ⟨_, rfl, _, rfl, _, rfl, hk, _, rfl, ite_b (fun z => ⟨_, Sub.refl, he (by simpa using z)⟩) (fun z => dn_refl (hq (by simpa using z)))⟩
/-! #### is_number -/

def sp_is_number : Sp3 := fun ds G Q E => match ds with | [_] => False | _ => False
def t_is_number : TS3 :=
    (sret (tand (tcall sp_is_integer (acons (tv 0) anil)) (t2 ge3 (tv 0) (tc (.int 0)))))
set_option maxHeartbeats 4000000 in
theorem vc_is_number (ds : List D) (G : Gp) (Q : QK) (E : EK) (h : sp_is_number ds G Q E) : t_is_number (fnEnds Q E) (start3 N_is_number ds) G := by
  unfold sp_is_number at h
  split at h <;> exact h.elim
/-! #### rank_of -/

def sp_rank_of : Sp3 := fun ds G Q E => match ds with | [.int n] => Q (.int (rk n)) G | _ => False
def t_rank_of : TS3 :=
    (sseq (sset 1 (tc (.int 0)))
    (sseq (swhile (tb3 (t2 gt3 (tv 0) (tc (.int 1)))) (sseq (saug 0 (tc (.int 2)) fdiv3)
    (saug 1 (tc (.int 1)) iadd3)))
    (sret (tv 1))))
set_option maxHeartbeats 4000000 in
theorem vc_rank_of (ds : List D) (G : Gp) (Q : QK) (E : EK) (h : sp_rank_of ds G Q E) : t_rank_of (fnEnds Q E) (start3 N_rank_of ds) G := by
  unfold sp_rank_of at h
  split at h
  case h_2 => exact h.elim
  rename_i n0
  refine whN_inv (fun n σ G' => G' = G ∧ ∃ a f : Int, n = a.toNat ∧ f + rk a = rk n0 ∧ σ = [some (.int a), some (.int f)]) ?_ ⟨rfl, n0, 0, rfl, by omega, rfl⟩
  rintro n σ G' N ⟨rfl, a, f, rfl, e, rfl⟩ hN
  refine ⟨_, rfl, _, rfl, ite_b (fun h1 => ?_) (fun h1 => ?_)⟩
  · have h1 : 1 < a := of_decide_eq_true h1
    have := rk_step2 h1
    exact ⟨_, rfl, by decide, by decide, _, rfl, hN _ _ _ (by omega) ⟨rfl, a / 2, f + 1, rfl, by omega, rfl⟩⟩
  · have h1 : ¬ 1 < a := of_decide_eq_false h1
    refine ⟨_, rfl, dn_refl ?_⟩
    have := rk_low2 h1
    rw [show f = rk n0 by omega]
    exact h
/-! #### most_of -/

def sp_most_of : Sp3 := fun ds G Q E => match ds with | [_] => False | _ => False
def t_most_of : TS3 :=
    (sret (t2 (add3 false) (t2 (mul3 false) (tc (.int 30)) (tcall sp_rank_of (acons (tv 0) anil))) (tc (.int 7))))
set_option maxHeartbeats 4000000 in
theorem vc_most_of (ds : List D) (G : Gp) (Q : QK) (E : EK) (h : sp_most_of ds G Q E) : t_most_of (fnEnds Q E) (start3 N_most_of ds) G := by
  unfold sp_most_of at h
  split at h <;> exact h.elim
/-! #### is_paper -/

def sp_is_paper : Sp3 := fun ds G Q E => match ds with | [x, .non] => kn OC x = true ∧ (wiI 1 64 x = true → ∀ y, Q y G) ∧ (wiI 1 64 x = false → E ⟨Str.ofString "NoNumber", none⟩ G) | _ => False
def t_is_paper : TS3 :=
    (sseq (sdrop (tcall sp_check_within (acons (tv 0) (acons (tc (.int 1)) (acons (tc (.int 64)) anil)))))
    (sseq (sif (Tor (Tnot (tb3 (tcall sp_is_sized (acons (tv 1) (acons (tc (.int 4)) (acons (tc (.int 4)) anil)))))) (Tor (Tnot (tb3 (tcall sp_is_number (acons (t2 ix3 (tv 1) (tc (.int 0))) anil)))) (Tor (Tnot (tb3 (tcall sp_is_number (acons (t2 ix3 (tv 1) (tc (.int 1))) anil)))) (tb3 (t2 lt3 (t2 ix3 (tv 1) (tc (.int 1))) (tc (.int 1))))))) (sret (tc (.bl false))) snext)
    (sseq (sunp [2, 3, 4, 5] (tv 1))
    (sseq (sif (Tor (Tnot (tb3 (tcall sp_is_number (acons (tv 4) anil)))) (Tor (tb3 (t2 ne3 (tv 4) (t2 fdiv3 (tv 3) (tc (.int 2))))) (Tnot (tb3 (tcall sp_is_integer (acons (tv 5) anil)))))) (sret (tc (.bl false))) snext)
    (sret (t2 le3 (t2 (add3 false) (t2 (add3 false) (t2 (add3 false) (tv 2) (tv 3)) (tv 4)) (t2 (mul3 false) (tc (.int 5)) (tv 5))) (tcall sp_most_of (acons (tv 0) anil))))))))
set_option maxHeartbeats 4000000 in
theorem vc_is_paper (ds : List D) (G : Gp) (Q : QK) (E : EK) (h : sp_is_paper ds G Q E) : t_is_paper (fnEnds Q E) (start3 N_is_paper ds) G := by
  unfold sp_is_paper at h
  split at h
  case h_2 => exact h.elim
  rename_i x
  obtain ⟨hk, hq, he⟩ := h
  refine ⟨_, rfl, hk, fun z => ?_, fun z => ⟨_, Sub.refl, he z⟩⟩
  exact ⟨_, rfl, rfl, _, rfl, dn_refl (hq z _)⟩
/-! #### replaced -/

def sp_replaced : Sp3 := fun ds G Q E => match ds with | [.tup xs, .int i, x] => ∃ j : Nat, i = j ∧ j < xs.length ∧ xs.length ≤ 64 ∧ Q (.tup (xs.set j x)) G | _ => False
def t_replaced : TS3 :=
    (sret (t2 (add3 false) (t2 (add3 false) (tsl false (tv 0) onone (osome (tv 1))) (ttup (acons (tv 2) anil))) (tsl false (tv 0) (osome (t2 (add3 false) (tv 1) (tc (.int 1)))) onone)))
set_option maxHeartbeats 4000000 in
theorem vc_replaced (ds : List D) (G : Gp) (Q : QK) (E : EK) (h : sp_replaced ds G Q E) : t_replaced (fnEnds Q E) (start3 N_replaced ds) G := by
  unfold sp_replaced at h
  split at h
  case h_2 => exact h.elim
  rename_i xs i x
  obtain ⟨j, rfl, hj, l1, hq⟩ := h
  have ca : ∀ {A B : List D}, A.length ≤ 100 → B.length ≤ 100 → A.length + B.length ≤ sizeLine := fun {A B} a b => by show _ ≤ 16777216; omega
  have lc : ∀ lo hi, (L3.cutD xs lo hi).length ≤ 64 := fun lo hi => Nat.le_trans cutD_len l1
  refine ⟨_, rfl, _, rfl, _, rfl, _, rfl, Nat.le_of_ble_eq_true rfl, (ca (A := L3.cutD xs none (some (j : Int))) (B := [x]) (by have := lc none (some (j : Int)); omega) (Nat.le_of_ble_eq_true rfl)), _, rfl, _, rfl, _, rfl, (ca (A := L3.cutD xs none (some (j : Int)) ++ [x]) (B := L3.cutD xs (some ((j : Int) + 1)) none) (by have := lc none (some (j : Int)); rw [List.length_append, List.length_singleton]; omega) (by have := lc (some ((j : Int) + 1)) none; omega)), dn_refl ?_⟩
  rw [cut_set xs j x hj]
  exact hq
/-! #### changed -/

def sp_changed : Sp3 := fun ds G Q E => match ds with | [.tup xs, .int i, .int k, x] => ∃ (m : Nat) (f : Nat → Row) (c j : Nat) (r : Row), xs = fD m f ∧ i = c ∧ k = j ∧ c < m ∧ m ≤ 64 ∧ j < 6 ∧ (f c).items.set j x = r.items ∧ Q (.tup (fD m (upf f c r))) G | _ => False
def t_changed : TS3 :=
    (sret (tcall sp_replaced (acons (tv 0) (acons (tv 1) (acons (tcall sp_replaced (acons (t2 ix3 (tv 0) (tv 1)) (acons (tv 2) (acons (tv 3) anil)))) anil)))))
set_option maxHeartbeats 4000000 in
theorem vc_changed (ds : List D) (G : Gp) (Q : QK) (E : EK) (h : sp_changed ds G Q E) : t_changed (fnEnds Q E) (start3 N_changed ds) G := by
  unfold sp_changed at h
  split at h
  case h_2 => exact h.elim
  rename_i xs i k x
  obtain ⟨m, f, c, j, r, rfl, rfl, rfl, hc, l1, hj, e, hq⟩ := h
  refine ⟨_, rfl, _, rfl, _, rfl, _, rfl, _, _, rfl, fD_at f hc, _, rfl, _, rfl, j, rfl, hj, Nat.le_of_ble_eq_true rfl, c, rfl, (by rw [fD_len]; exact hc), (by rw [fD_len]; exact l1), dn_refl ?_⟩
  rw [e, show D.tup r.items = r.d from rfl, fD_set f r hc]
  exact hq
/-! #### sons_of -/

def sp_sons_of : Sp3 := fun ds G Q E => match ds with | [.tup xs, .int i] => ∃ (rs : List Row) (h : Nat) (r : Row), xs = rs.map Row.d ∧ i = h ∧ rs[h]? = some r ∧ Q (.fl (sonsL r)) G | _ => False
def t_sons_of : TS3 :=
    (sret (tlc false (iseq (tsl false (t2 ix3 (tv 0) (tv 1)) (osome (tc (.int 1))) (osome (tc (.int 3))))) (.n 2) (tb3 (t2 (is3 true) (tv 2) (tc .non))) (tv 2) [2]))
set_option maxHeartbeats 4000000 in
theorem vc_sons_of (ds : List D) (G : Gp) (Q : QK) (E : EK) (h : sp_sons_of ds G Q E) : t_sons_of (fnEnds Q E) (start3 N_sons_of ds) G := by
  unfold sp_sons_of at h
  split at h
  case h_2 => exact h.elim
  obtain ⟨rs, h, r, rfl, rfl, e, hq⟩ := h
  refine ⟨_, rfl, _, rfl, _, _, rfl, at_row e, _, rfl, _, rfl, _, rfl, lc_pure (fun x => if isN x then none else some x) (fun x mx G' _ R hR => ?_) (fun _ _ => trivial) (Nat.le_of_ble_eq_true rfl) (dn_refl hq)⟩
  refine ⟨_, rfl, _, rfl, ite_b (fun z => ?_) (fun z => ?_)⟩
  · have z : isN x = false := by cases h : isN x <;> simp [h] at z ⊢
    rw [z] at hR
    exact ⟨_, rfl, hR⟩
  · have z : isN x = true := by cases h : isN x <;> simp [h] at z ⊢
    rw [z] at hR
    exact hR
/-! #### with_more -/

def sp_with_more : Sp3 := fun ds G Q E => match ds with | [.tup xs, .int n] => ∃ r : Row, xs = r.items ∧ Q (Row.d ⟨r.u, r.l, r.r, r.t, r.a + n, r.v + n⟩) G | _ => False
def t_with_more : TS3 :=
    (sret (t2 (add3 false) (tsl false (tv 0) onone (osome (tc (.int 4)))) (ttup (acons (t2 (add3 false) (t2 ix3 (tv 0) (tc (.int 4))) (tv 1)) (acons (t2 (add3 false) (t2 ix3 (tv 0) (tc (.int 5))) (tv 1)) anil)))))
set_option maxHeartbeats 4000000 in
theorem vc_with_more (ds : List D) (G : Gp) (Q : QK) (E : EK) (h : sp_with_more ds G Q E) : t_with_more (fnEnds Q E) (start3 N_with_more ds) G := by
  unfold sp_with_more at h
  split at h
  case h_2 => exact h.elim
  obtain ⟨r, rfl, hq⟩ := h
  exact ⟨_, rfl, _, rfl, _, rfl, _, _, rfl, rfl, _, rfl, _, rfl, _, _, rfl, rfl, _, rfl, Nat.le_of_ble_eq_true rfl, Nat.le_of_ble_eq_true rfl, dn_refl hq⟩
/-! #### after_handing -/

def sp_after_handing : Sp3 := fun ds G Q E => match ds with | [.tup xs, .int i] => ∃ (rs : List Row) (h : Nat), xs = rs.map Row.d ∧ i = h ∧ h < rs.length ∧ ShpR rs ∧ Q (.tup ((handR rs h).map Row.d)) G | _ => False
def t_after_handing : TS3 :=
    (sseq (sunp [4, 5, 6, 7, 8, 9] (t2 ix3 (tv 0) (tv 1)))
    (sseq (sif (Tand (tb3 (t2 eq3 (tv 8) (tc (.int 0)))) (Tnot (tb3 (tv 7)))) (sret (tv 0)) snext)
    (sseq (sset 2 (tv 0))
    (sseq (sfor (iseq (tcall sp_sons_of (acons (tv 0) (acons (tv 1) anil)))) (.n 3) (sseq (sset 2 (tcall sp_replaced (acons (tv 2) (acons (tv 3) (acons (tcall sp_with_more (acons (t2 ix3 (tv 2) (tv 3)) (acons (tv 8) anil))) anil)))))
    (sif (tb3 (tv 7)) (sset 2 (tcall sp_changed (acons (tv 2) (acons (tv 3) (acons (tc (.int 3)) (acons (tnot (t2 ix3 (t2 ix3 (tv 2) (tv 3)) (tc (.int 3)))) anil)))))) snext)))
    (sseq (sif (tb3 (tv 7)) (spar 5 6 (acons (tv 6) (acons (tv 5) anil))) snext)
    (sret (tcall sp_replaced (acons (tv 2) (acons (tv 1) (acons (ttup (acons (tv 4) (acons (tv 5) (acons (tv 6) (acons (tc (.bl false)) (acons (tc (.int 0)) (acons (tv 9) anil))))))) anil))))))))))
set_option maxHeartbeats 4000000 in
theorem vc_after_handing (ds : List D) (G : Gp) (Q : QK) (E : EK) (h : sp_after_handing ds G Q E) : t_after_handing (fnEnds Q E) (start3 N_after_handing ds) G := by
  unfold sp_after_handing at h
  split at h
  case h_2 => exact h.elim
  obtain ⟨rs, h, rfl, rfl, hh, S, hq⟩ := h
  have n64 := S.n64
  obtain ⟨f, ef⟩ := fun_rows (rs := rs)
  generalize hm : rs.length = m at *
  subst ef
  have e := fn_get (f := f) hh
  have nd := sonsN_nd (S.two _ (List.mem_of_getElem? e))
  rw [← fD_rows]
  have fin := hand_fun (f := f) hh
  refine ⟨_, rfl, _, rfl, _, _, rfl, fD_at f hh, (f h).items, rfl, rfl, ?_⟩
  dsimp only
  refine sseq_cut (fun σ G' => G' = G ∧ σ = [some (.tup (fD m f)), some (.int h), none, none, some (pl (f h).u), some (pl (f h).l), some (pl (f h).r), some (.bl (f h).t), some (.int (f h).a), some (.int (f h).v)]) (fun N hN => ?_) ?_
  · refine ⟨_, rfl, rfl, _, rfl, ite_b (fun z => ?_) (fun z => iteF (hN _ _ ⟨rfl, rfl⟩))⟩
    refine ⟨_, rfl, _, rfl, ite_b (fun z2 => ?_) (fun z2 => hN _ _ ⟨rfl, rfl⟩)⟩
    rw [hand_same S e (by simpa [eqD] using z) (by simpa using z2), ← fD_rows] at hq
    exact ⟨_, rfl, dn_refl hq⟩
  rintro σ G ⟨rfl, rfl⟩
  refine ⟨_, rfl, ?_⟩
  dsimp only
  refine sseq_cut (fun σ G' => G' = G ∧ ∃ y, σ = [some (.tup (fD m f)), some (.int h), some (.tup (fD m (apF (hg (f h)) ([(f h).l, (f h).r].filterMap id) f))), y, some (pl (f h).u), some (pl (f h).l), some (pl (f h).r), some (.bl (f h).t), some (.int (f h).a), some (.int (f h).v)]) (fun N hN => ?_) ?_
  · refine ⟨_, rfl, _, rfl, _, h, f h, fD_rows m f, rfl, e, _, rfl, ?_⟩
    rw [sons_nat]
    have LL : ∀ c ∈ [(f h).l, (f h).r].filterMap id, c < m := fun c mc => by
      have := (child_len S e (sg_iff.mp (sonsN_mem.mp mc))).1
      simpa using this
    generalize [(f h).l, (f h).r].filterMap id = L at nd LL hN ⊢
    refine forL_inv (fun k σ G' => G' = G ∧ ∃ y, σ = [some (.tup (fD m f)), some (.int h), some (.tup (fD m (apF (hg (f h)) (L.take k) f))), y, some (pl (f h).u), some (pl (f h).l), some (pl (f h).r), some (.bl (f h).t), some (.int (f h).a), some (.int (f h).v)]) ?_ ?_ ⟨rfl, none, rfl⟩
    · rintro k x σ G' N' ex ⟨rfl, y, rfl⟩ hN'
      obtain ⟨c, ec, rfl⟩ := nat_get ex
      have hc := LL c (List.mem_of_getElem? ec)
      rw [take_snoc ec, apF_snoc] at hN'
      generalize apF (hg (f h)) (L.take k) f = F at hN' ⊢
      refine ⟨trivial, _, rfl, _, rfl, _, rfl, _, rfl, _, _, rfl, fD_at F hc, _, rfl, F c, rfl, c, rfl, (by rw [fD_len]; exact hc), (by rw [fD_len]; exact n64), ?_⟩
      rw [fD_set F _ hc]
      cases ht : (f h).t with
      | false =>
        refine ⟨_, rfl, _, rfl, iteF (hN' _ _ ⟨rfl, some (.int (c : Nat)), ?_⟩)⟩
        unfold hg
        rw [ht, Bool.bne_false]
        rfl
      | true =>
        refine ⟨_, rfl, _, rfl, iteT ⟨_, rfl, _, rfl, _, rfl, _, rfl, _, _, rfl, fD_at _ hc, ?_⟩⟩
        rw [upf_same]
        refine ⟨_, _, rfl, rfl, _, rfl, m, _, c, 3, ⟨(F c).u, (F c).l, (F c).r, !(F c).t, (F c).a + (f h).a, (F c).v + (f h).a⟩, rfl, rfl, rfl, hc, n64, Nat.le_of_ble_eq_true rfl, (by rw [upf_same]; rfl), hN' _ _ ⟨rfl, some (.int (c : Nat)), ?_⟩⟩
        have e1 : upf (upf F c ⟨(F c).u, (F c).l, (F c).r, (F c).t, (F c).a + (f h).a, (F c).v + (f h).a⟩) c ⟨(F c).u, (F c).l, (F c).r, !(F c).t, (F c).a + (f h).a, (F c).v + (f h).a⟩ = upf F c (hg (f h) (F c)) := by
          funext j
          unfold upf hg
          rw [ht]
          by_cases w : j = c
          · simp [w]
          · simp [w]
        rw [e1, ht]
        rfl
    · rintro σ G' ⟨rfl, y, rfl⟩
      rw [List.length_map, List.take_length]
      exact ⟨trivial, hN _ _ ⟨rfl, y, rfl⟩⟩
  rintro σ G ⟨rfl, y, rfl⟩
  refine sseq_cut (fun σ G' => G' = G ∧ σ = [some (.tup (fD m f)), some (.int h), some (.tup (fD m (apF (hg (f h)) ([(f h).l, (f h).r].filterMap id) f))), y, some (pl (f h).u), some (pl (if (f h).t = true then (f h).r else (f h).l)), some (pl (if (f h).t = true then (f h).l else (f h).r)), some (.bl (f h).t), some (.int (f h).a), some (.int (f h).v)]) (fun N hN => ?_) ?_
  · refine ⟨_, rfl, _, rfl, ite_b (fun z => ?_) (fun z => ?_)⟩
    · have z : (f h).t = true := z
      rw [if_pos z, if_pos z] at hN
      exact ⟨_, rfl, _, rfl, _, _, rfl, hN _ _ ⟨rfl, rfl⟩⟩
    · have z : ¬ (f h).t = true := by rw [z]; decide
      rw [if_neg z, if_neg z] at hN
      exact hN _ _ ⟨rfl, rfl⟩
  rintro σ G ⟨rfl, rfl⟩
  refine ⟨_, rfl, _, rfl, _, rfl, _, rfl, _, rfl, _, rfl, Nat.le_of_ble_eq_true rfl, h, rfl, (by rw [fD_len]; exact hh), (by rw [fD_len]; exact n64), dn_refl ?_⟩
  have k1 := fD_set (m := m) (apF (hg (f h)) ([(f h).l, (f h).r].filterMap id) f) (hs (f h)) hh
  have k2 : fD m (upf (apF (hg (f h)) ([(f h).l, (f h).r].filterMap id) f) h (hs (f h))) = (handR ((List.range m).map f) h).map Row.d := by
    rw [fin, List.map_map]
    refine List.map_congr_left fun j hj => ?_
    refine congrArg Row.d (?_ : _ = hOn (f h) h j (f j))
    unfold hOn
    by_cases w : j = h
    · subst w
      rw [upf_same, if_pos rfl]; rfl
    · rw [upf_ne w, if_neg w, apF_get _ _ _ _ nd]
      by_cases g : sg (f h) j = true
      · rw [if_pos g, if_pos (sonsN_mem.mpr g)]; rfl
      · rw [if_neg g, if_neg (fun k => g (sonsN_mem.mp k))]
  rw [← k2, ← k1] at hq
  exact hq
/-! #### is_son -/

def sp_is_son : Sp3 := fun ds G Q E => match ds with | [.tup xs, .int i] => ∃ (rs : List Row) (h : Nat), xs = rs.map Row.d ∧ i = h ∧ h < rs.length ∧ ShpR rs ∧ Q (.bl (isSon rs h)) G | _ => False
def t_is_son : TS3 :=
    (sseq (sset 2 (t2 ix3 (t2 ix3 (tv 0) (tv 1)) (tc (.int 0))))
    (sret (tand (t2 (is3 true) (tv 2) (tc .non)) (t2 (in3 false) (tv 1) (tsl false (t2 ix3 (tv 0) (tv 2)) (osome (tc (.int 1))) (osome (tc (.int 3))))))))
set_option maxHeartbeats 4000000 in
theorem vc_is_son (ds : List D) (G : Gp) (Q : QK) (E : EK) (h : sp_is_son ds G Q E) : t_is_son (fnEnds Q E) (start3 N_is_son ds) G := by
  unfold sp_is_son at h
  split at h
  case h_2 => exact h.elim
  obtain ⟨rs, h, rfl, rfl, hh, S, hq⟩ := h
  obtain ⟨r, e⟩ := row_get hh
  refine ⟨_, rfl, _, rfl, _, _, rfl, at_row e, _, pl r.u, rfl, rfl, _, rfl, _, rfl, ?_⟩
  cases eu : r.u with
  | none =>
    rw [isSon_none e eu] at hq
    exact ite_b (fun z => by cases z) (fun _ => dn_refl hq)
  | some p =>
    have hp : p < rs.length := (S.ok r (List.mem_of_getElem? e)).u p eu
    obtain ⟨q, ep⟩ := row_get hp
    rw [isSon_eq e eu ep] at hq
    refine ite_b (fun _ => ?_) (fun z => by cases z)
    refine ⟨_, rfl, _, rfl, _, rfl, _, _, rfl, at_row ep, _, rfl, _, rfl, [pl q.l, pl q.r], rfl, rfl, by simp [fl_pl], dn_refl ?_⟩
    have ei : inD (.int (h : Nat)) [pl q.l, pl q.r] = (decide (q.l = some h) || decide (q.r = some h)) := by
      unfold inD
      simp [eq_pl]
    show Q (.bl (inD (.int (h : Nat)) [pl q.l, pl q.r])) G
    rw [ei]; exact hq
/-! #### side_of -/

def sp_side_of : Sp3 := fun ds G Q E => match ds with | [.tup xs, .int i] => ∃ (rs : List Row) (h p : Nat) (r q : Row), xs = rs.map Row.d ∧ i = h ∧ rs[h]? = some r ∧ r.u = some p ∧ rs[p]? = some q ∧ Q (.int (if q.l = some h then 1 else 2)) G | _ => False
def t_side_of : TS3 :=
    (sret (tif (tb3 (t2 eq3 (t2 ix3 (t2 ix3 (tv 0) (t2 ix3 (t2 ix3 (tv 0) (tv 1)) (tc (.int 0)))) (tc (.int 1))) (tv 1))) (tc (.int 1)) (tc (.int 2))))
set_option maxHeartbeats 4000000 in
theorem vc_side_of (ds : List D) (G : Gp) (Q : QK) (E : EK) (h : sp_side_of ds G Q E) : t_side_of (fnEnds Q E) (start3 N_side_of ds) G := by
  unfold sp_side_of at h
  split at h
  case h_2 => exact h.elim
  obtain ⟨rs, h, p, r, q, rfl, rfl, e, eu, ep, hq⟩ := h
  refine ⟨_, rfl, _, rfl, _, rfl, _, _, rfl, at_row e, _, .int (p : Nat), rfl, (by show atI r.items 0 = some (pl (some p)); rw [← eu]; rfl), _, _, rfl, at_row ep, _, _, rfl, rfl, _, rfl, (by cases q.l <;> rfl), _, rfl, ite_b (fun z => dn_refl ?_) (fun z => dn_refl ?_)⟩
  · have z : eqD (pl q.l) (.int h) = true := z
    rw [eq_pl, decide_eq_true_eq] at z
    rw [if_pos z] at hq; exact hq
  · have z : eqD (pl q.l) (.int h) = false := z
    rw [eq_pl, decide_eq_false_iff_not] at z
    rw [if_neg z] at hq; exact hq
/-! #### after_turn -/

def sp_after_turn : Sp3 := fun ds G Q E => match ds with | [.tup xs, .int i] => ∃ (rs : List Row) (h : Nat), xs = rs.map Row.d ∧ i = h ∧ h < rs.length ∧ ShpR rs ∧ isSon rs h = true ∧ Q (.tup ((turnR rs h).map Row.d)) G | _ => False
def t_after_turn : TS3 :=
    (sseq (sset 2 (t2 ix3 (t2 ix3 (tv 0) (tv 1)) (tc (.int 0))))
    (sseq (sset 3 (tcall sp_after_handing (acons (tcall sp_after_handing (acons (tv 0) (acons (tv 2) anil))) (acons (tv 1) anil))))
    (sseq (sset 4 (tcall sp_side_of (acons (tv 3) (acons (tv 1) anil))))
    (sseq (sset 5 (t2 sub3 (t2 (add3 false) (tc (.int 1)) (tc (.int 2))) (tv 4)))
    (sseq (sset 6 (t2 ix3 (t2 ix3 (tv 3) (tv 2)) (tc (.int 0))))
    (sseq (sif (tb3 (tcall sp_is_son (acons (tv 3) (acons (tv 2) anil)))) (sset 3 (tcall sp_changed (acons (tv 3) (acons (tv 6) (acons (tcall sp_side_of (acons (tv 3) (acons (tv 2) anil))) (acons (tv 1) anil)))))) snext)
    (sseq (sset 7 (t2 ix3 (t2 ix3 (tv 3) (tv 1)) (tv 5)))
    (sseq (sset 3 (tcall sp_changed (acons (tv 3) (acons (tv 2) (acons (tv 4) (acons (tv 7) anil))))))
    (sseq (sif (tb3 (t2 (is3 true) (tv 7) (tc .non))) (sset 3 (tcall sp_changed (acons (tv 3) (acons (tv 7) (acons (tc (.int 0)) (acons (tv 2) anil)))))) snext)
    (sseq (sset 3 (tcall sp_changed (acons (tv 3) (acons (tv 1) (acons (tv 5) (acons (tv 2) anil))))))
    (sret (tcall sp_changed (acons (tcall sp_changed (acons (tv 3) (acons (tv 2) (acons (tc (.int 0)) (acons (tv 1) anil))))) (acons (tv 1) (acons (tc (.int 0)) (acons (tv 6) anil))))))))))))))))
set_option maxHeartbeats 4000000 in
theorem vc_after_turn (ds : List D) (G : Gp) (Q : QK) (E : EK) (h : sp_after_turn ds G Q E) : t_after_turn (fnEnds Q E) (start3 N_after_turn ds) G := by
  unfold sp_after_turn at h
  split at h
  case h_2 => exact h.elim
  obtain ⟨rs, h, rfl, rfl, hh0, S, z, hq⟩ := h
  obtain ⟨p, x, y, u, hp0, T, et⟩ := turn_get S hh0 z
  rw [et] at hq
  obtain ⟨r, e⟩ := row_get hh0
  rw [rowU_get e] at u
  obtain ⟨yr, e0⟩ := row_get hp0
  have l1 := hand_len e0
  obtain ⟨xr, e1⟩ := row_get (rs := handR rs p) (h := h) (by omega)
  have l2 := hand_len e1
  have S1 := hand_shp S e0
  refine ⟨_, rfl, _, rfl, _, _, rfl, at_row e, _, .int (p : Nat), rfl, (by show atI r.items 0 = some (pl (some p)); rw [← u]; rfl), ?_⟩
  refine ⟨_, rfl, _, rfl, rs, p, rfl, rfl, hp0, S, _, rfl, handR rs p, h, rfl, rfl, (by omega), S1, ?_⟩
  generalize handR (handR rs p) h = rs2 at T hq l2 ⊢
  obtain ⟨f, ef⟩ := fun_rows (rs := rs2)
  generalize hm : rs2.length = m at *
  subst ef
  obtain ⟨hh, ex⟩ := fn_row T.ex
  obtain ⟨hp, ey⟩ := fn_row T.ey
  subst ex ey
  have n64 : m ≤ 64 := by have := T.S.n64; omega
  have hph := t_hp T
  have fin : fD m (fun j => tOn h p (f h) (f p) j (f j)) = (rotR ((List.range m).map f) h p (f h) (f p)).map Row.d := by rw [rot_fun, List.map_map]; rfl
  rw [← fD_rows]
  refine ⟨_, rfl, _, rfl, _, h, p, f h, f p, fD_rows m f, rfl, T.ex, T.eu, T.ey, _, rfl, _, rfl, _, rfl, _, _, rfl, fD_at f hp, _, pl (f p).u, rfl, rfl, ?_⟩
  dsimp only
  refine sseq_cut (fun σ G' => G' = G ∧ ∃ f1, P1 m f h p f1 ∧ σ = [some (.tup (rs.map Row.d)), some (.int h), some (.int p), some (.tup (fD m f1)), some (.int (if (f p).l = some h then 1 else 2)), some (.int (1 + 2 - (if (f p).l = some h then 1 else 2))), some (pl (f p).u), none]) (fun N hN => ?_) ?_
  · refine ⟨_, rfl, _, rfl, _, p, fD_rows m f, rfl, (by simpa using hp), T.S, _, rfl, ?_⟩
    cases zs : isSon ((List.range m).map f) p with
    | false => exact iteF (hN _ _ ⟨rfl, f, p1_no T zs, rfl⟩)
    | true =>
      obtain ⟨g, eg⟩ : ∃ g, (sL ((List.range m).map f))[p]? = some (some g) := by
        have g := sL_get (rs := (List.range m).map f) (h := p) (by simpa using hp)
        cases q : (sL ((List.range m).map f))[p]? with
        | none => rw [g] at q; cases q
        | some o =>
          cases o with
          | none => rw [(root_iff_son T.S (by simpa using hp)).mp q] at zs; cases zs
          | some g => exact ⟨g, rfl⟩
      obtain ⟨q, gq, k⟩ := edge_son T.S eg
      obtain ⟨hg, rfl⟩ := fn_row gq
      have ug : (f p).u = some g := by
        obtain ⟨w, g2, u2⟩ := son_row T.S gq k
        obtain ⟨_, rfl⟩ := fn_row g2
        exact u2
      have P := p1_set T hg k
      refine iteT ⟨_, rfl, .int (g : Nat), (by show some (pl (f p).u) = _; rw [ug]; rfl), _, rfl, _, rfl, _, p, g, f p, f g, fD_rows m f, rfl, T.ey, ug, gq, _, rfl, ?_⟩
      by_cases sd : (f g).l = some p
      · rw [if_pos sd] at P
        refine ⟨m, f, g, 1, _, rfl, rfl, (by rw [if_pos sd]; rfl), hg, n64, Nat.le_of_ble_eq_true rfl, ?_, hN _ _ ⟨rfl, _, P, rfl⟩⟩
        rfl
      · rw [if_neg sd] at P
        refine ⟨m, f, g, 2, _, rfl, rfl, (by rw [if_neg sd]; rfl), hg, n64, Nat.le_of_ble_eq_true rfl, ?_, hN _ _ ⟨rfl, _, P, rfl⟩⟩
        rfl
  rintro σ G ⟨rfl, f1, P, rfl⟩
  by_cases s : (f p).l = some h
  · rw [if_pos s]
    refine ⟨_, rfl, _, rfl, _, _, rfl, fD_at f1 hh, _, rfl, _, pl (f h).r, rfl, (by rw [P.1]; rfl), ?_⟩
    refine ⟨_, rfl, _, rfl, _, rfl, _, rfl, m, f1, p, 1, ⟨(f p).u, (f h).r, (f p).r, (f p).t, (f p).a, (f p).v⟩, rfl, rfl, rfl, hp, n64, Nat.le_of_ble_eq_true rfl, (by rw [P.2.1]; rfl), ?_⟩
    have eb : (f h).r = none ∨ ∃ b, (f h).r = some b := by cases (f h).r <;> simp
    rcases eb with eb | ⟨b, eb⟩
    · have tb : tB h (f h) (f p) = none := by unfold tB; rw [if_pos s]; exact eb
      refine ⟨_, rfl, _, rfl, iteF' (by rw [eb]; rfl) ?_⟩
      refine ⟨_, rfl, _, rfl, _, rfl, _, rfl, m, _, h, 2, ⟨(f h).u, (f h).l, some p, (f h).t, (f h).a, (f h).v⟩, rfl, rfl, rfl, hh, n64, Nat.le_of_ble_eq_true rfl, (by rw [show (upf f1 p ⟨(f p).u, (f h).r, (f p).r, (f p).t, (f p).a, (f p).v⟩) h = f h from (by rw [upf_ne hph]; exact P.1)]; rfl), ?_⟩
      refine ⟨_, rfl, _, rfl, _, rfl, m, _, p, 0, ⟨some h, (f h).r, (f p).r, (f p).t, (f p).a, (f p).v⟩, rfl, rfl, rfl, hp, n64, Nat.le_of_ble_eq_true rfl, (by rw [upf_ne hph.symm, show (upf f1 p ⟨(f p).u, (f h).r, (f p).r, (f p).t, (f p).a, (f p).v⟩) p = ⟨(f p).u, (f h).r, (f p).r, (f p).t, (f p).a, (f p).v⟩ from upf_same]; rfl), ?_⟩
      refine ⟨_, rfl, _, rfl, m, _, h, 0, ⟨(f p).u, (f h).l, some p, (f h).t, (f h).a, (f h).v⟩, rfl, rfl, rfl, hh, n64, Nat.le_of_ble_eq_true rfl, (by rw [upf_ne hph, upf_same]; rfl), dn_refl ?_⟩
      rw [fD_congr (t_fin T P (by rw [upf_same, if_pos s]) (by rw [upf_ne hph.symm, upf_same, if_pos s]) fun j hj n1 n2 => ?_), fin]
      · exact hq
      · rw [upf_ne n1, upf_ne n2, upf_ne n1]
        rw [upf_ne n2, tb]; simp
    · have tb : tB h (f h) (f p) = some b := by unfold tB; rw [if_pos s]; exact eb
      have hb : b < m := by
        obtain ⟨w, g2, _⟩ := son_row T.S T.ex (tb_son T tb)
        exact (fn_row g2).1
      refine ⟨_, rfl, _, rfl, iteT' (by rw [eb]; rfl) ?_⟩
      refine ⟨_, rfl, .int (b : Nat), (by show some (pl (f h).r) = _; rw [eb]; rfl), _, rfl, m, _, b, 0, ⟨some p, (f1 b).l, (f1 b).r, (f1 b).t, (f1 b).a, (f1 b).v⟩, rfl, rfl, rfl, hb, n64, Nat.le_of_ble_eq_true rfl, (by rw [upf_ne (tb_p T tb)]; rfl), ?_⟩
      refine ⟨_, rfl, _, rfl, _, rfl, _, rfl, m, _, h, 2, ⟨(f h).u, (f h).l, some p, (f h).t, (f h).a, (f h).v⟩, rfl, rfl, rfl, hh, n64, Nat.le_of_ble_eq_true rfl, (by rw [show (upf (upf f1 p ⟨(f p).u, (f h).r, (f p).r, (f p).t, (f p).a, (f p).v⟩) b ⟨some p, (f1 b).l, (f1 b).r, (f1 b).t, (f1 b).a, (f1 b).v⟩) h = f h from (by rw [upf_ne (tb_h T tb).symm, upf_ne hph]; exact P.1)]; rfl), ?_⟩
      refine ⟨_, rfl, _, rfl, _, rfl, m, _, p, 0, ⟨some h, (f h).r, (f p).r, (f p).t, (f p).a, (f p).v⟩, rfl, rfl, rfl, hp, n64, Nat.le_of_ble_eq_true rfl, (by rw [upf_ne hph.symm, show (upf (upf f1 p ⟨(f p).u, (f h).r, (f p).r, (f p).t, (f p).a, (f p).v⟩) b ⟨some p, (f1 b).l, (f1 b).r, (f1 b).t, (f1 b).a, (f1 b).v⟩) p = ⟨(f p).u, (f h).r, (f p).r, (f p).t, (f p).a, (f p).v⟩ from (by rw [upf_ne (tb_p T tb).symm, upf_same])]; rfl), ?_⟩
      refine ⟨_, rfl, _, rfl, m, _, h, 0, ⟨(f p).u, (f h).l, some p, (f h).t, (f h).a, (f h).v⟩, rfl, rfl, rfl, hh, n64, Nat.le_of_ble_eq_true rfl, (by rw [upf_ne hph, upf_same]; rfl), dn_refl ?_⟩
      rw [fD_congr (t_fin T P (by rw [upf_same, if_pos s]) (by rw [upf_ne hph.symm, upf_same, if_pos s]) fun j hj n1 n2 => ?_), fin]
      · exact hq
      · rw [upf_ne n1, upf_ne n2, upf_ne n1]
        by_cases w : j = b
        · rw [w, upf_same, tb]; simp
        · rw [upf_ne w, upf_ne n2, tb]; simp [Ne.symm w]
  
  · rw [if_neg s]
    refine ⟨_, rfl, _, rfl, _, _, rfl, fD_at f1 hh, _, rfl, _, pl (f h).l, rfl, (by rw [P.1]; rfl), ?_⟩
    refine ⟨_, rfl, _, rfl, _, rfl, _, rfl, m, f1, p, 2, ⟨(f p).u, (f p).l, (f h).l, (f p).t, (f p).a, (f p).v⟩, rfl, rfl, rfl, hp, n64, Nat.le_of_ble_eq_true rfl, (by rw [P.2.1]; rfl), ?_⟩
    have eb : (f h).l = none ∨ ∃ b, (f h).l = some b := by cases (f h).l <;> simp
    rcases eb with eb | ⟨b, eb⟩
    · have tb : tB h (f h) (f p) = none := by unfold tB; rw [if_neg s]; exact eb
      refine ⟨_, rfl, _, rfl, iteF' (by rw [eb]; rfl) ?_⟩
      refine ⟨_, rfl, _, rfl, _, rfl, _, rfl, m, _, h, 1, ⟨(f h).u, some p, (f h).r, (f h).t, (f h).a, (f h).v⟩, rfl, rfl, rfl, hh, n64, Nat.le_of_ble_eq_true rfl, (by rw [show (upf f1 p ⟨(f p).u, (f p).l, (f h).l, (f p).t, (f p).a, (f p).v⟩) h = f h from (by rw [upf_ne hph]; exact P.1)]; rfl), ?_⟩
      refine ⟨_, rfl, _, rfl, _, rfl, m, _, p, 0, ⟨some h, (f p).l, (f h).l, (f p).t, (f p).a, (f p).v⟩, rfl, rfl, rfl, hp, n64, Nat.le_of_ble_eq_true rfl, (by rw [upf_ne hph.symm, show (upf f1 p ⟨(f p).u, (f p).l, (f h).l, (f p).t, (f p).a, (f p).v⟩) p = ⟨(f p).u, (f p).l, (f h).l, (f p).t, (f p).a, (f p).v⟩ from upf_same]; rfl), ?_⟩
      refine ⟨_, rfl, _, rfl, m, _, h, 0, ⟨(f p).u, some p, (f h).r, (f h).t, (f h).a, (f h).v⟩, rfl, rfl, rfl, hh, n64, Nat.le_of_ble_eq_true rfl, (by rw [upf_ne hph, upf_same]; rfl), dn_refl ?_⟩
      rw [fD_congr (t_fin T P (by rw [upf_same, if_neg s]) (by rw [upf_ne hph.symm, upf_same, if_neg s]) fun j hj n1 n2 => ?_), fin]
      · exact hq
      · rw [upf_ne n1, upf_ne n2, upf_ne n1]
        rw [upf_ne n2, tb]; simp
    · have tb : tB h (f h) (f p) = some b := by unfold tB; rw [if_neg s]; exact eb
      have hb : b < m := by
        obtain ⟨w, g2, _⟩ := son_row T.S T.ex (tb_son T tb)
        exact (fn_row g2).1
      refine ⟨_, rfl, _, rfl, iteT' (by rw [eb]; rfl) ?_⟩
      refine ⟨_, rfl, .int (b : Nat), (by show some (pl (f h).l) = _; rw [eb]; rfl), _, rfl, m, _, b, 0, ⟨some p, (f1 b).l, (f1 b).r, (f1 b).t, (f1 b).a, (f1 b).v⟩, rfl, rfl, rfl, hb, n64, Nat.le_of_ble_eq_true rfl, (by rw [upf_ne (tb_p T tb)]; rfl), ?_⟩
      refine ⟨_, rfl, _, rfl, _, rfl, _, rfl, m, _, h, 1, ⟨(f h).u, some p, (f h).r, (f h).t, (f h).a, (f h).v⟩, rfl, rfl, rfl, hh, n64, Nat.le_of_ble_eq_true rfl, (by rw [show (upf (upf f1 p ⟨(f p).u, (f p).l, (f h).l, (f p).t, (f p).a, (f p).v⟩) b ⟨some p, (f1 b).l, (f1 b).r, (f1 b).t, (f1 b).a, (f1 b).v⟩) h = f h from (by rw [upf_ne (tb_h T tb).symm, upf_ne hph]; exact P.1)]; rfl), ?_⟩
      refine ⟨_, rfl, _, rfl, _, rfl, m, _, p, 0, ⟨some h, (f p).l, (f h).l, (f p).t, (f p).a, (f p).v⟩, rfl, rfl, rfl, hp, n64, Nat.le_of_ble_eq_true rfl, (by rw [upf_ne hph.symm, show (upf (upf f1 p ⟨(f p).u, (f p).l, (f h).l, (f p).t, (f p).a, (f p).v⟩) b ⟨some p, (f1 b).l, (f1 b).r, (f1 b).t, (f1 b).a, (f1 b).v⟩) p = ⟨(f p).u, (f p).l, (f h).l, (f p).t, (f p).a, (f p).v⟩ from (by rw [upf_ne (tb_p T tb).symm, upf_same])]; rfl), ?_⟩
      refine ⟨_, rfl, _, rfl, m, _, h, 0, ⟨(f p).u, some p, (f h).r, (f h).t, (f h).a, (f h).v⟩, rfl, rfl, rfl, hh, n64, Nat.le_of_ble_eq_true rfl, (by rw [upf_ne hph, upf_same]; rfl), dn_refl ?_⟩
      rw [fD_congr (t_fin T P (by rw [upf_same, if_neg s]) (by rw [upf_ne hph.symm, upf_same, if_neg s]) fun j hj n1 n2 => ?_), fin]
      · exact hq
      · rw [upf_ne n1, upf_ne n2, upf_ne n1]
        by_cases w : j = b
        · rw [w, upf_same, tb]; simp
        · rw [upf_ne w, upf_ne n2, tb]; simp [Ne.symm w]
/-! #### after_step -/

def sp_after_step : Sp3 := fun ds G Q E => match ds with | [.tup xs, .int i] => ∃ (rs : List Row) (h : Nat), xs = rs.map Row.d ∧ i = h ∧ h < rs.length ∧ ShpR rs ∧ isSon rs h = true ∧ Q (.tup ((stepR rs h).map Row.d)) G | _ => False
def t_after_step : TS3 :=
    (sseq (sset 2 (t2 ix3 (t2 ix3 (tv 0) (tv 1)) (tc (.int 0))))
    (sseq (sif (Tnot (tb3 (tcall sp_is_son (acons (tv 0) (acons (tv 2) anil))))) (sret (tcall sp_after_turn (acons (tv 0) (acons (tv 1) anil)))) snext)
    (sseq (sset 3 (tif (tb3 (t2 eq3 (tcall sp_side_of (acons (tv 0) (acons (tv 1) anil))) (tcall sp_side_of (acons (tv 0) (acons (tv 2) anil))))) (tv 2) (tv 1)))
    (sret (tcall sp_after_turn (acons (tcall sp_after_turn (acons (tv 0) (acons (tv 3) anil))) (acons (tv 1) anil)))))))
set_option maxHeartbeats 4000000 in
theorem vc_after_step (ds : List D) (G : Gp) (Q : QK) (E : EK) (h : sp_after_step ds G Q E) : t_after_step (fnEnds Q E) (start3 N_after_step ds) G := by
  unfold sp_after_step at h
  split at h
  case h_2 => exact h.elim
  obtain ⟨rs, h, rfl, rfl, hh, S, z, hq⟩ := h
  have P := sL_par S
  obtain ⟨p, g⟩ := sL_some hh z S
  obtain ⟨r, er⟩ := row_get hh
  have u := rowU_some (sL_u g)
  have eu := sL_u g
  rw [uL_get er] at eu
  injection eu with eu
  have hp : p < rs.length := by have := P.ok _ (List.mem_of_getElem? g) p rfl; rw [sL_len] at this; exact this
  obtain ⟨rp, ep⟩ := row_get hp
  unfold stepR at hq
  rw [u] at hq
  dsimp only at hq
  refine ⟨_, rfl, _, rfl, _, _, rfl, par_get er, _, _, rfl, up_at r, ?_⟩
  rw [eu]
  refine ⟨_, rfl, _, rfl, rs, p, rfl, rfl, hp, S, _, rfl, ite_b (fun w => ?_) (fun w => ?_)⟩
  · have w : isSon rs p = false := by simpa using w
    rw [if_neg (by rw [w]; exact Bool.false_ne_true)] at hq
    exact ⟨_, rfl, _, rfl, rs, h, rfl, rfl, hh, S, z, dn_refl hq⟩
  · have w : isSon rs p = true := by simpa using w
    rw [if_pos w] at hq
    obtain ⟨gg, g2⟩ := sL_some hp w S
    have eu2 := sL_u g2
    have u2 := rowU_some eu2
    rw [uL_get ep] at eu2
    injection eu2 with eu2
    have hg : gg < rs.length := by have := P.ok _ (List.mem_of_getElem? g2) gg rfl; rw [sL_len] at this; exact this
    obtain ⟨rg, eg⟩ := row_get hg
    have s1 : sideB rs h = decide (rp.l = some h) := by unfold sideB; rw [u]; dsimp only; rw [ep]
    have s2 : sideB rs p = decide (rg.l = some p) := by unfold sideB; rw [u2]; dsimp only; rw [eg]
    rw [s1, s2] at hq
    have go : ∀ f : Nat, isSon rs f = true → f < rs.length → isSon (turnR rs f) h = true → (f = p → decide (rp.l = some h) = decide (rg.l = some p)) → (f = h → decide (rp.l = some h) ≠ decide (rg.l = some p)) → (f = p ∨ f = h) → dn Q (.tup ((turnR (turnR rs f) h).map Row.d)) G := fun f _ _ _ e1 e2 e3 => by
      refine dn_refl ?_
      rcases e3 with rfl | rfl
      · rw [if_pos (e1 rfl)] at hq; exact hq
      · rw [if_neg (e2 rfl)] at hq; exact hq
    refine ⟨_, rfl, _, rfl, rs, h, p, r, rp, rfl, rfl, er, eu, ep, _, rfl, _, rfl, rs, p, gg, rp, rg, rfl, rfl, ep, eu2, eg, rfl, _, rfl, ite_b (fun q => ?_) (fun q => ?_)⟩
    · have o := turn_up1 S g w
      obtain ⟨O, is, _⟩ := o
      have q2 : decide (rp.l = some h) = decide (rg.l = some p) := by
        by_cases a : rp.l = some h <;> by_cases b : rg.l = some p <;> simp [a, b] at q ⊢ <;> (simp [eqD] at q)
      exact ⟨_, rfl, _, rfl, _, rfl, rs, p, rfl, rfl, hp, S, w, _, rfl, _, h, rfl, rfl, (by rw [O.len]; exact hh), O.S, is, go p w hp is (fun _ => q2) (fun e => by subst e; exact absurd (dS_edge S g) (by omega)) (.inl rfl)⟩
    · obtain ⟨O, d⟩ := op_turn S hh z
      have d1 : dS (turnR rs h) h + 1 = dS rs h := d
      have d2 := dS_edge S g
      have two := (dS_son S hp).mp w
      have is : isSon (turnR rs h) h = true := (dS_son O.S (by rw [O.len]; exact hh)).mpr (by omega)
      have q2 : decide (rp.l = some h) ≠ decide (rg.l = some p) := by
        by_cases a : rp.l = some h <;> by_cases b : rg.l = some p <;> simp [a, b] at q ⊢ <;> (simp [eqD] at q)
      exact ⟨_, rfl, _, rfl, _, rfl, rs, h, rfl, rfl, hh, S, z, _, rfl, _, h, rfl, rfl, (by rw [O.len]; exact hh), O.S, is, go h z hh is (fun e => by subst e; exact absurd (dS_edge S g) (by omega)) (fun _ => q2) (.inr rfl)⟩
/-! #### down_to -/

def sp_down_to : Sp3 := fun ds G Q E => match ds with | [.tup xs, .int i] => ∃ (rs : List Row) (h : Nat), xs = rs.map Row.d ∧ i = h ∧ h < rs.length ∧ ShpR rs ∧ Q (.tup ((hnT rs h).map Row.d)) G | _ => False
def t_down_to : TS3 :=
    (sseq (sset 2 (tlst true (acons (tv 1) anil)))
    (sseq (swhile (tb3 (tcall sp_is_son (acons (tv 0) (acons (t2 ix3 (tv 2) (tneg (tc (.int 1)))) anil)))) (sdrop (tmeth isL mAppend (tv 2) (acons (t2 ix3 (t2 ix3 (tv 0) (t2 ix3 (tv 2) (tneg (tc (.int 1))))) (tc (.int 0))) anil))))
    (sseq (sset 3 (tv 0))
    (sseq (sfor (iseq (trev false (tv 2))) (.n 4) (sset 3 (tcall sp_after_handing (acons (tv 3) (acons (tv 4) anil)))))
    (sret (tv 3))))))
set_option maxHeartbeats 4000000 in
theorem vc_down_to (ds : List D) (G : Gp) (Q : QK) (E : EK) (h : sp_down_to ds G Q E) : t_down_to (fnEnds Q E) (start3 N_down_to ds) G := by
  unfold sp_down_to at h
  split at h
  case h_2 => exact h.elim
  obtain ⟨rs, h, rfl, rfl, hh, S, hq⟩ := h
  have n64 := S.n64
  have P := sL_par S
  have P' : ∀ {c}, c < rs.length → c < (sL rs).length := fun {c} h => by rw [sL_len]; exact h
  refine ⟨_, rfl, Nat.le_of_ble_eq_true rfl, fun p np => ?_⟩
  dsimp only
  refine sseq_cut (fun σ G' => G' = up G p (.lst ((U (sL rs) h).map fun (j : Nat) => D.int j)) ∧ σ = [some (.tup (rs.map Row.d)), some (.int h), some (.ref p), none, none]) (fun M hM => ?_) ?_
  · refine whN_inv (fun n σ G' => ∃ (acc : List Nat) (q : Nat), q < rs.length ∧ n = (U (sL rs) q).length ∧ acc.length + n ≤ 65 ∧ acc ++ U (sL rs) q = U (sL rs) h ∧ G' = up G p (.lst ((acc ++ [q]).map fun (j : Nat) => D.int j)) ∧ σ = [some (.tup (rs.map Row.d)), some (.int h), some (.ref p), none, none]) ?_ ⟨[], h, hh, rfl, by have := (U_le S h hh).2; show 0 + _ ≤ 65; omega, rfl, rfl, rfl⟩
    rintro n σ G' N ⟨acc, q, hq', rfl, hacc, e, rfl, rfl⟩ hN
    have lst : atI ((acc ++ [q]).map fun (j : Nat) => D.int j) (-1) = some (.int q) := by rw [List.map_append]; exact last_at _ _
    refine ⟨_, rfl, _, rfl, _, rfl, _, _, sq_ref up_same, lst, rs, q, rfl, rfl, hq', S, _, rfl, ite_b (fun z => ?_) (fun z => ?_)⟩
    · obtain ⟨r, g⟩ := sL_some hq' z S
      obtain ⟨rw_, er⟩ := row_get hq'
      have eu := sL_u g
      rw [uL_get er] at eu
      injection eu with eu
      have hr : r < rs.length := by have := P.ok _ (List.mem_of_getElem? g) r rfl; rw [sL_len] at this; exact this
      have uc := U_cons P (P' hq') g
      have ul : (U (sL rs) q).length = (U (sL rs) r).length + 1 := by rw [uc]; rfl
      refine ⟨_, rfl, isL_ref up_same, _, rfl, _, rfl, _, rfl, _, _, sq_ref up_same, lst, _, _, rfl, par_get er, _, _, rfl, up_at rw_, _, up_same, (by rw [List.length_map, List.length_append, List.length_singleton]; show _ < 16777216; omega), ?_⟩
      rw [up_up, eu]
      refine hN _ _ _ (by omega) ⟨acc ++ [q], r, hr, rfl, by rw [List.length_append, List.length_singleton]; omega, ?_, ?_, rfl⟩
      · rw [← e, uc, List.append_assoc]; rfl
      · congr 2
        simp [pl]
    · refine hM _ _ ⟨?_, rfl⟩
      rw [← e, U_nil P ((root_iff_son S hq').mpr z)]
  rintro σ G' ⟨rfl, rfl⟩
  refine ⟨_, rfl, _, rfl, _, lq_ref up_same, _, rfl, ?_⟩
  have lr : ((U (sL rs) h).map fun (j : Nat) => D.int j).reverse = (U (sL rs) h).reverse.map fun (j : Nat) => D.int j := by rw [List.map_reverse]
  rw [lr]
  have hlt : ∀ z ∈ (U (sL rs) h).reverse, z < rs.length := fun z m => by
    have := U_lt P h (P' hh) z (List.mem_reverse.mp m)
    rw [sL_len] at this; exact this
  have eT := hnT_eq rs h
  rw [eT] at hq
  generalize (U (sL rs) h).reverse = L at hlt hq ⊢
  refine forL_inv (fun k σ G' => G' = up G p (.lst ((U (sL rs) h).map fun (j : Nat) => D.int j)) ∧ ∃ y4, σ = [some (.tup (rs.map Row.d)), some (.int h), some (.ref p), some (.tup ((hnL rs (L.take k)).map Row.d)), y4]) ?_ ?_ ⟨rfl, none, rfl⟩
  · rintro k x σ G' N ex ⟨rfl, y4, rfl⟩ hN
    rw [List.getElem?_map] at ex
    cases el : L[k]? with
    | none => rw [el] at ex; cases ex
    | some z =>
      rw [el] at ex
      injection ex with ex
      subst ex
      have o := hn_op (h := h) (L.take k) S fun w hw => hlt w (List.mem_of_mem_take hw)
      have zl : z < (hnL rs (L.take k)).length := by rw [o.len]; exact hlt z (List.mem_of_getElem? el)
      refine ⟨trivial, _, rfl, _, rfl, hnL rs (L.take k), z, rfl, rfl, zl, o.S, ?_⟩
      rw [← hnL_snoc]
      have tk : L.take k ++ [z] = L.take (k + 1) := by rw [List.take_add_one, el]; rfl
      rw [tk]
      exact hN _ _ ⟨rfl, _, rfl⟩
  · rintro σ G' ⟨rfl, y4, rfl⟩
    rw [List.length_map, List.take_length]
    exact ⟨trivial, _, rfl, _, Sub.up np, hq⟩
/-! #### to_top -/

def sp_to_top : Sp3 := fun ds G Q E => match ds with | [.tup xs, .int i] => ∃ (rs : List Row) (h : Nat), xs = rs.map Row.d ∧ i = h ∧ h < rs.length ∧ ShpR rs ∧ Q (.tup [.tup ((toR rs h).map Row.d), .int (stN h (fu rs) (hnT rs h) : Nat)]) G | _ => False
def t_to_top : TS3 :=
    (sseq (sset 2 (tcall sp_down_to (acons (tv 0) (acons (tv 1) anil))))
    (sseq (sset 3 (tc (.int 0)))
    (sseq (swhile (tb3 (tcall sp_is_son (acons (tv 2) (acons (tv 1) anil)))) (sseq (sset 2 (tcall sp_after_step (acons (tv 2) (acons (tv 1) anil))))
    (saug 3 (tc (.int 1)) iadd3)))
    (sret (ttup (acons (tv 2) (acons (tv 3) anil)))))))
set_option maxHeartbeats 4000000 in
theorem vc_to_top (ds : List D) (G : Gp) (Q : QK) (E : EK) (h : sp_to_top ds G Q E) : t_to_top (fnEnds Q E) (start3 N_to_top ds) G := by
  unfold sp_to_top at h
  split at h
  case h_2 => exact h.elim
  obtain ⟨rs, h, rfl, rfl, hh, S, hq⟩ := h
  have o0 := hnT_op S hh
  have hh0 : h < (hnT rs h).length := by rw [o0.len]; exact hh
  refine ⟨_, rfl, _, rfl, rs, h, rfl, rfl, hh, S, ?_⟩
  refine whN_inv (fun n σ G' => ∃ k : Nat, n = dS (itR h k (hnT rs h)) h ∧ k + n ≤ 66 ∧ (∀ j, j < k → isSon (itR h j (hnT rs h)) h = true) ∧ G' = G ∧ σ = [some (.tup (rs.map Row.d)), some (.int h), some (.tup ((itR h k (hnT rs h)).map Row.d)), some (.int k)]) ?_ ⟨0, rfl, by have := (U_le o0.S h hh0).2; rw [itR_zero]; unfold dS; omega, fun j hj => by omega, rfl, by rw [itR_zero]; rfl⟩
  rintro n σ G' N ⟨k, rfl, hk, f, rfl, rfl⟩ hN
  have o := it_op k o0.S hh0
  have hh' : h < (itR h k (hnT rs h)).length := by rw [o.len]; exact hh0
  refine ⟨_, rfl, _, rfl, _, h, rfl, rfl, hh', o.S, _, rfl, ite_b (fun z => ?_) (fun z => ?_)⟩
  · refine ⟨_, rfl, _, rfl, _, h, rfl, rfl, hh', o.S, z, _, rfl, ?_⟩
    have d := (st_ok o.S hh' z).2
    have e : stepR (itR h k (hnT rs h)) h = itR h (k + 1) (hnT rs h) := by
      rw [itR_succ]; unfold stR; rw [if_pos z]
    rw [e] at d ⊢
    refine hN _ _ _ d ⟨k + 1, rfl, by omega, fun j hj => ?_, rfl, rfl⟩
    by_cases e : j = k
    · subst e; exact z
    · exact f j (by omega)
  · have one := (U_le o.S h hh').1
    obtain ⟨a, b⟩ := stN_at k (fu rs) o0.S hh0 (by unfold dS at hk; unfold fu; omega) z f
    refine ⟨_, rfl, _, rfl, Nat.le_of_ble_eq_true rfl, dn_refl ?_⟩
    have e := (toR_eq rs h).trans b
    rw [← e, ← a]; exact hq
/-! #### met_from -/

def sp_met_from : Sp3 := fun ds G Q E => match ds with | [.tup xs, .int i] => ∃ (rs : List Row) (h : Nat), xs = rs.map Row.d ∧ i = h ∧ h < rs.length ∧ ShpR rs ∧ ∀ p, G p = none → Q (.tup [.tup ((mtF rs h).1.map Row.d), .ref p, .int ((mtF rs h).2.2 : Nat)]) (up G p (.lst ((mtF rs h).2.1.map fun (j : Nat) => D.int j))) | _ => False
def t_met_from : TS3 :=
    (sseq (sset 2 (tv 0))
    (sseq (sset 3 (tlst true anil))
    (sseq (sset 4 (tc (.int 0)))
    (sseq (sset 5 (tv 1))
    (sseq (swhile (tb3 (t2 (is3 true) (tv 5) (tc .non))) (sseq (sunp [2, 6] (tcall sp_to_top (acons (tv 2) (acons (tv 5) anil))))
    (sseq (saug 4 (tv 6) iadd3)
    (sseq (sdrop (tmeth isL mAppend (tv 3) (acons (tv 5) anil)))
    (sset 5 (t2 ix3 (t2 ix3 (tv 2) (tv 5)) (tc (.int 0))))))))
    (sret (ttup (acons (tv 2) (acons (tv 3) (acons (tv 4) anil))))))))))
set_option maxHeartbeats 4000000 in
theorem vc_met_from (ds : List D) (G : Gp) (Q : QK) (E : EK) (h : sp_met_from ds G Q E) : t_met_from (fnEnds Q E) (start3 N_met_from ds) G := by
  unfold sp_met_from at h
  split at h
  case h_2 => exact h.elim
  obtain ⟨rs, h, rfl, rfl, hh, S, hq⟩ := h
  refine ⟨_, rfl, Nat.le_of_ble_eq_true rfl, fun p np => ?_⟩
  refine ⟨_, rfl, ?_⟩
  refine whN_inv (fun n σ G' => ∃ (qs : List Row) (met : List Nat) (o : Option Nat) (k : Nat) (y6 : Option D) (f : Nat), MI rs qs met o ∧ n = 66 - met.length ∧ 66 ≤ f + met.length ∧ mtF rs h = mtR f qs met o k ∧ G' = up G p (.lst (met.map fun (j : Nat) => D.int j)) ∧ σ = [some (.tup (rs.map Row.d)), some (.int h), some (.tup (qs.map Row.d)), some (.ref p), some (.int (k : Nat)), some (pl o), y6]) ?_ ⟨rs, [], some h, 0, none, fu rs, mi_start S hh, rfl, by unfold fu; omega, mtF_eq rs h, rfl, rfl⟩
  rintro n σ G' N ⟨qs, met, o, k, y6, f, I, rfl, hf, e, rfl, rfl⟩ hN
  have ml := mi_len I
  cases o with
  | none =>
    refine ⟨_, rfl, _, rfl, ite_b (fun z => by cases z) (fun _ => ?_)⟩
    refine ⟨_, rfl, _, rfl, _, rfl, Nat.le_of_ble_eq_true rfl, dn_refl ?_⟩
    rw [mtR_none] at e
    have := hq p np
    rw [e] at this
    exact this
  | some z =>
    have hz := I.lt z rfl
    obtain ⟨I', gu⟩ := mi_step I
    have S' := I'.S
    obtain ⟨rz, ez⟩ := row_get (rs := toR qs z) (h := z) (by rw [(to_op I.S hz).1.len]; exact hz)
    refine ⟨_, rfl, _, rfl, ite_b (fun _ => ?_) (fun w => by cases w)⟩
    refine ⟨_, rfl, _, rfl, qs, z, rfl, rfl, hz, I.S, _, rfl, rfl, ?_⟩
    refine ⟨_, rfl, _, rfl, ?_⟩
    refine ⟨_, rfl, isL_ref up_same, _, rfl, _, up_same, (by rw [List.length_map]; show _ < 16777216; omega), ?_⟩
    refine ⟨_, rfl, _, rfl, _, _, rfl, par_get ez, _, _, rfl, up_at rz, ?_⟩
    rw [up_up, ← row_up ez]
    refine hN _ _ _ ?_ ⟨toR qs z, met ++ [z], _, k + stN z (fu qs) (hnT qs z), _, f - 1, I', rfl, ?_, ?_, ?_, rfl⟩
    · rw [List.length_append, List.length_singleton]; omega
    · rw [List.length_append, List.length_singleton]; omega
    · rw [e, show f = f - 1 + 1 by omega, mtR_some]; rfl
    · rw [List.map_append]; rfl
/-! #### spliced -/

def sp_spliced : Sp3 := fun ds G Q E => match ds with | [.tup xs, .ref p] => ∃ (rs : List Row) (met : List Nat) (o : Option Nat), xs = rs.map Row.d ∧ G p = some (.lst (met.map fun (j : Nat) => D.int j)) ∧ ShpR rs ∧ (∀ m ∈ met, (sL rs)[m]? = some none) ∧ Chn rs met o ∧ Q (.tup ((splL rs none met).map Row.d)) G | _ => False
def t_spliced : TS3 :=
    (sseq (sset 2 (tv 0))
    (sseq (sset 3 (tc .non))
    (sseq (sfor (iseq (tv 1)) (.n 4) (sseq (sset 2 (tcall sp_changed (acons (tv 2) (acons (tv 4) (acons (tc (.int 2)) (acons (tv 3) anil))))))
    (sset 3 (tv 4))))
    (sret (tv 2)))))
set_option maxHeartbeats 4000000 in
theorem vc_spliced (ds : List D) (G : Gp) (Q : QK) (E : EK) (h : sp_spliced ds G Q E) : t_spliced (fnEnds Q E) (start3 N_spliced ds) G := by
  unfold sp_spliced at h
  split at h
  case h_2 => exact h.elim
  obtain ⟨rs, met, o, rfl, hp, S, non, way, hq⟩ := h
  rename_i p
  have n64 := S.n64
  have hlt : ∀ z ∈ met, z < rs.length := fun z m => sL_lt (non z m)
  refine ⟨_, rfl, ?_⟩
  refine ⟨_, rfl, _, sq_ref hp, forL_inv (fun k σ G' => G' = G ∧ ∃ y4, σ = [some (.tup (rs.map Row.d)), some (.ref p), some (.tup ((splL rs none (met.take k)).map Row.d)), some (pl (aft none (met.take k))), y4]) ?_ ?_ ⟨rfl, none, rfl⟩⟩
  · rintro k x σ G' N ex ⟨rfl, y4, rfl⟩ hN
    rw [List.getElem?_map] at ex
    cases el : met[k]? with
    | none => rw [el] at ex; cases ex
    | some z =>
      rw [el] at ex
      injection ex with ex
      subst ex
      have ll := splL_len (met.take k) rs none
      have hz : z < (splL rs none (met.take k)).length := by rw [ll]; exact hlt z (List.mem_of_getElem? el)
      obtain ⟨f, ef, ff⟩ := rows_fD (splL rs none (met.take k))
      obtain ⟨r, er⟩ := row_get hz
      refine ⟨hp, _, rfl, _, rfl, _, rfl, _, f, z, 2, ⟨r.u, r.l, aft none (met.take k), r.t, r.a, r.v⟩, ef, rfl, rfl, hz, (by rw [ll]; omega), (by decide), (by rw [ff z r er]; rfl), ?_⟩
      rw [spl_rows ef er, ← splL_snoc]
      have tk : met.take k ++ [z] = met.take (k + 1) := by rw [List.take_add_one, el]; rfl
      rw [tk]
      refine ⟨_, rfl, hN _ _ ⟨rfl, some (.int z), ?_⟩⟩
      rw [← tk, aft_snoc]; rfl
  · rintro σ G' ⟨rfl, y4, rfl⟩
    rw [List.length_map, List.take_length]
    exact ⟨hp, _, rfl, dn_refl hq⟩
/-! #### all_weights -/

def sp_all_weights : Sp3 := fun ds G Q E => match ds with | [.tup xs] => ∃ (rs : List Row), xs = rs.map Row.d ∧ ShpR rs ∧ Q (.fl (nL rs.length (wt rs))) G | _ => False
def t_all_weights : TS3 :=
    (sseq (sset 1 (t2 (mul3 true) (tlst false (acons (tc (.int 1)) anil)) (tcb bLen (acons (tv 0) anil))))
    (sseq (sset 2 (t2 (mul3 true) (tlst false (acons (tc (.int 0)) anil)) (tcb bLen (acons (tv 0) anil))))
    (sseq (sfor (iseq (tv 0)) (.n 3) (sif (tb3 (t2 (is3 true) (t2 ix3 (tv 3) (tc (.int 0))) (tc .non))) (saugS (tv 2) (t2 ix3 (tv 3) (tc (.int 0))) (tc (.int 1)) iadd3) snext))
    (sseq (sset 4 (tlc true (ienum (acons (tv 2) anil)) (.t [7, 8]) (tb3 (t2 eq3 (tv 8) (tc (.int 0)))) (tv 7) [7, 8]))
    (sseq (swhile (tb3 (t2 gt3 (tcb bLen (acons (tv 4) anil)) (tc (.int 0)))) (sseq (sset 5 (tmeth0 isL mPop (tv 4)))
    (sseq (sset 6 (t2 ix3 (t2 ix3 (tv 0) (tv 5)) (tc (.int 0))))
    (sif (tb3 (t2 (is3 true) (tv 6) (tc .non))) (sseq (saugS (tv 1) (tv 6) (t2 ix3 (tv 1) (tv 5)) iadd3)
    (sseq (saugS (tv 2) (tv 6) (tc (.int 1)) sub3)
    (sif (tb3 (t2 eq3 (t2 ix3 (tv 2) (tv 6)) (tc (.int 0)))) (sdrop (tmeth isL mAppend (tv 4) (acons (tv 6) anil))) snext))) snext))))
    (sret (tfz (tv 1))))))))
set_option maxHeartbeats 4000000 in
theorem vc_all_weights (ds : List D) (G : Gp) (Q : QK) (E : EK) (h : sp_all_weights ds G Q E) : t_all_weights (fnEnds Q E) (start3 N_all_weights ds) G := by
  unfold sp_all_weights at h
  split at h
  case h_2 => exact h.elim
  obtain ⟨rs, rfl, S, hq⟩ := h
  have n64 := S.n64
  generalize hm : rs.length = m at *
  have ml : (rs.map Row.d).length = m := by rw [List.length_map]; exact hm
  have gx : ∀ {k : Nat} {x : D}, (rs.map Row.d)[k]? = some x → ∃ r, rs[k]? = some r ∧ x = r.d := fun {k x} e => by
    rw [List.getElem?_map] at e
    cases z : rs[k]? with
    | none => rw [z] at e; cases e
    | some r => rw [z] at e; exact ⟨r, rfl, (Option.some.inj e).symm⟩
  refine ⟨Nat.le_of_ble_eq_true rfl, _, rfl, _, rfl, _, rfl, ⟨by omega, by omega, by rw [List.length_singleton]; show 1 * _ ≤ 16777216; omega⟩, fun p1 np1 => ?_⟩
  refine ⟨Nat.le_of_ble_eq_true rfl, _, rfl, _, rfl, _, rfl, ⟨by omega, by omega, by rw [List.length_singleton]; show 1 * _ ≤ 16777216; omega⟩, fun p2 np2 => ?_⟩
  have p21 : p2 ≠ p1 := fun z => by rw [z, up_same] at np2; cases np2
  rw [up_ne p21] at np2
  rw [ml, rep_nL1, rep_nL0]
  dsimp only
  refine sseq_cut (fun σ G' => G' = up (up G p1 (.lst (nL m fun _ => 1))) p2 (.lst (nL m (lft rs dn0))) ∧ ∃ y3, σ = [some (.tup (rs.map Row.d)), some (.ref p1), some (.ref p2), y3, none, none, none, none, none]) (fun N hN => ?_) ?_
  · refine ⟨_, rfl, _, rfl, forL_inv (fun k σ G' => k ≤ m ∧ G' = up (up G p1 (.lst (nL m fun _ => 1))) p2 (.lst (nL m fun z => sm k fun c => if ch (uL rs) z c = true then 1 else 0)) ∧ ∃ y3, σ = [some (.tup (rs.map Row.d)), some (.ref p1), some (.ref p2), y3, none, none, none, none, none]) ?_ ?_ ⟨by omega, rfl, none, rfl⟩⟩
    · rintro k x σ G' N' ex ⟨hk, rfl, y3, rfl⟩ hN'
      obtain ⟨r, er, rfl⟩ := gx ex
      have hk : k < m := by have := (List.getElem?_eq_some_iff.mp er).1; omega
      have eu := uL_get er
      have cu : r.u = none ∨ ∃ p, r.u = some p := by cases r.u <;> simp
      refine ⟨trivial, _, rfl, _, pl r.u, rfl, rfl, _, rfl, ?_⟩
      rcases cu with cu | ⟨p, cu⟩
      · refine iteF' (by rw [cu]; rfl) (hN' _ _ ⟨by omega, ?_, _, rfl⟩)
        congr 2
        refine nL_congr fun z _ => ?_
        show _ = sm k _ + (if ch (uL rs) z k = true then 1 else 0)
        rw [if_neg fun w => by rw [ch_iff.mp w, cu] at eu; cases eu]
        rfl
      · have hp : p < m := by have := (S.ok r (List.mem_of_getElem? er)).u p cu; omega
        refine iteT' (by rw [cu]; rfl) ?_
        refine ⟨_, rfl, _, rfl, _, .int (p : Nat), rfl, (by show atI r.items 0 = some (pl (some p)); rw [← cu]; rfl), ?_⟩
        refine ⟨_, p, .int ((sm k fun c => if ch (uL rs) p c = true then 1 else 0 : Nat) : Int), lq_ref up_same, rfl, by omega, (by rw [Int.toNat_natCast]; exact nL_get _ hp), _, p, up_same, (by rw [nL_len]; exact ixn_ok p hp), ?_⟩
        rw [up_up]
        refine hN' _ _ ⟨by omega, ?_, _, rfl⟩
        congr 2
        refine nL_set ?_ fun z hz nz => ?_
        · show _ = ((sm k _ + (if ch (uL rs) p k = true then 1 else 0) : Nat) : Int)
          rw [if_pos (ch_iff.mpr (by rw [eu, cu]))]
          omega
        · show sm k _ + (if ch (uL rs) z k = true then 1 else 0) = _
          rw [if_neg fun w => by
            rw [ch_iff.mp w, cu] at eu
            exact nz (Option.some.inj (Option.some.inj eu))]
          rfl
    · rintro σ G' ⟨_, rfl, y3, rfl⟩
      refine ⟨trivial, hN _ _ ⟨?_, y3, rfl⟩⟩
      rw [ml]
      congr 2
      exact nL_congr fun z _ => by rw [lft0, hm]
  rintro σ G1 ⟨rfl, y3, rfl⟩
  let f : D → Option D := fun y => match y with | .tup [.int i, .int v] => if decide (v = 0) = true then some (.int i) else none | _ => none
  have hf : ∀ z : Nat, f (.tup [.int (z : Nat), .int (lft rs dn0 z : Nat)]) = if decide (lft rs dn0 z = 0) = true then some (.int (z : Nat)) else none := fun z => by
    show (if decide (((lft rs dn0 z : Nat) : Int) = 0) = true then _ else _) = _
    by_cases w : lft rs dn0 z = 0
    · simp [w]
    · have : ¬ ((lft rs dn0 z : Nat) : Int) = 0 := by omega
      simp [w]
  have ee : (enD (nL m (lft rs dn0))).filterMap f = ((List.range m).filter fun z => decide (lft rs dn0 z = 0)).map fun (j : Nat) => D.int j := by
    rw [enD_nL]
    exact fm_gen (q := fun z => decide (lft rs dn0 z = 0)) hf (List.range m)
  refine ⟨_, rfl, _, _, rfl, sq_ref up_same, lc_pure f (fun y my G' _ R hR => ?_) (fun G' sb => ?_) (by rw [enD_len, nL_len]; show _ ≤ 16777216; omega) ?_⟩
  · rw [enD_nL] at my
    obtain ⟨z, mz, rfl⟩ := List.mem_map.mp my
    rw [hf] at hR
    refine ⟨_, rfl, rfl, _, rfl, rfl, _, rfl, ite_b (fun w => ?_) (fun w => ?_)⟩
    · have w : decide (((lft rs dn0 z : Nat) : Int) = 0) = true := by simpa [eqD] using w
      have w : lft rs dn0 z = 0 := by have := of_decide_eq_true w; omega
      rw [if_pos (decide_eq_true w)] at hR
      exact ⟨_, rfl, hR⟩
    · have w : ¬ ((lft rs dn0 z : Nat) : Int) = 0 := by simpa [eqD] using w
      have w : ¬ lft rs dn0 z = 0 := by omega
      rw [if_neg (by simpa using w)] at hR
      exact hR
  · exact sb _ _ up_same
  intro p4 np4
  rw [ee]
  dsimp only
  have p42 : p4 ≠ p2 := fun z => by rw [z, up_same] at np4; cases np4
  rw [up_ne p42] at np4
  have p41 : p4 ≠ p1 := fun z => by rw [z, up_same] at np4; cases np4
  rw [up_ne p41] at np4
  have KK : K3s G p1 p2 p4 (nL m (fnd rs dn0)) (nL m (lft rs dn0)) (((List.range m).filter fun z => decide (lft rs dn0 z = 0)).map fun (j : Nat) => D.int j) (up (up (up G p1 (.lst (nL m fun _ => 1))) p2 (.lst (nL m (lft rs dn0)))) p4 (.lst (((List.range m).filter fun z => decide (lft rs dn0 z = 0)).map fun (j : Nat) => D.int j))) := by
    refine ⟨?_, by rw [up_ne p42.symm, up_same], up_same, p21.symm, p41.symm, p42.symm, fun c h1 h2 h3 => by rw [up_ne h3, up_ne h2, up_ne h1]⟩
    rw [up_ne p41.symm, up_ne p21.symm, up_same]
    congr 2
    exact nL_congr fun z _ => (fnd0 rs z).symm
  have KN := kn0 rs
  rw [hm] at KN
  refine sseq_cut (fun σ G' => ∃ dn, (∀ z, z < m → dn z = true) ∧ Kn rs dn [] ∧ K3s G p1 p2 p4 (nL m (fnd rs dn)) (nL m (lft rs dn)) [] G' ∧ ∃ y5 y6, σ = [some (.tup (rs.map Row.d)), some (.ref p1), some (.ref p2), y3, some (.ref p4), y5, y6, none, none]) (fun N hN => ?_) ?_
  · refine whN_inv (fun n σ G' => ∃ dn rd, n = udn rs dn ∧ Kn rs dn rd ∧ K3s G p1 p2 p4 (nL m (fnd rs dn)) (nL m (lft rs dn)) (rd.map fun (j : Nat) => D.int j) G' ∧ ∃ y5 y6, σ = [some (.tup (rs.map Row.d)), some (.ref p1), some (.ref p2), y3, some (.ref p4), y5, y6, none, none]) ?_ ⟨dn0, _, rfl, KN, KK, none, none, rfl⟩
    clear KK KN
    rintro n σ G' N' ⟨dn, rd, rfl, KN, KK, y5, y6, rfl⟩ hN'
    refine ⟨_, rfl, _, sq_ref KK.r, _, rfl, ?_⟩
    cases hr : rd.getLast? with
    | none =>
      rw [List.getLast?_eq_none_iff] at hr
      subst hr
      refine iteF (hN _ _ ⟨dn, fun z hz => kn_end S KN z (by omega), KN, KK, _, _, rfl⟩)
    | some x =>
      obtain ⟨A, rfl⟩ := List.getLast?_eq_some_iff.mp hr
      obtain ⟨hx, dx, lx, hnone, hsome⟩ := kn_pop S KN
      have rl := KK.r
      have um := udn_set (rs := rs) hx dx
      obtain ⟨r, er⟩ := row_get hx
      refine iteT' (by rw [List.length_map, List.length_append, List.length_singleton]; exact decide_eq_true (by omega)) ?_
      refine ⟨_, rfl, ⟨_, lq_ref rl⟩, _, .int (x : Nat), rl, (by rw [List.map_append]; exact ix_last _ _), ?_⟩
      rw [show ((A ++ [x]).map fun (j : Nat) => D.int j).dropLast = A.map fun (j : Nat) => D.int j by rw [List.map_append]; exact List.dropLast_concat]
      have K1 := KK.setR (A.map fun (j : Nat) => D.int j)
      refine ⟨_, rfl, _, rfl, _, _, rfl, at_row er, _, pl r.u, rfl, rfl, ?_⟩
      refine ⟨_, rfl, _, rfl, ?_⟩
      have ru := rowU_get er
      have cu : r.u = none ∨ ∃ p, r.u = some p := by cases r.u <;> simp
      rcases cu with cu | ⟨p, cu⟩
      · obtain ⟨k1, k2, k3⟩ := hnone (ru.trans cu)
        refine iteF' (by rw [cu]; rfl) (hN' _ _ _ (by omega) ⟨dset dn x, A, rfl, k1, ?_, _, _, rfl⟩)
        rw [nL_congr (F := fnd rs (dset dn x)) fun z _ => k2 z, nL_congr (F := lft rs (dset dn x)) fun z _ => k3 z]
        exact K1
      · obtain ⟨hp, px, kf, kl, ko, ky, kn⟩ := hsome p (ru.trans cu)
        rw [hm] at hp hx
        have fx := fnd_all S (by omega) lx
        have iu : gt (List.set (List.set [some (.tup (rs.map Row.d)), some (.ref p1), some (.ref p2), y3, some (.ref p4), y5, y6, none, none] 5 (some (.int (x : Nat)))) 6 (some (pl r.u))) 6 = some (.int (p : Nat)) := by
          show some (pl r.u) = _
          rw [cu]; rfl
        refine iteT' (by rw [cu]; rfl) ?_
        refine ⟨_, rfl, _, iu, _, p, .int ((fnd rs dn p : Nat) : Int), lq_ref K1.a, rfl, by omega, (by rw [Int.toNat_natCast]; exact nL_get _ hp), _, rfl, _, rfl, _, .int ((fnd rs dn x : Nat) : Int), sq_ref K1.a, nL_at _ hx, _, p, K1.a, (by rw [nL_len]; exact ixn_ok p hp), ?_⟩
        have K2 := K1.setA (nL m (fnd rs (dset dn x)))
        have e2 := nL_set (n := m) (p := p) (F := fnd rs dn) (H := fnd rs (dset dn x)) (v := ((fnd rs dn p : Nat) : Int) + ((fnd rs dn x : Nat) : Int)) (by rw [kf, fx]; omega) fun z _ nz => (ko z nz).1
        rw [e2]
        refine ⟨_, rfl, _, iu, _, p, .int ((lft rs dn p : Nat) : Int), lq_ref K2.b, rfl, by omega, (by rw [Int.toNat_natCast]; exact nL_get _ hp), _, p, K2.b, (by rw [nL_len]; exact ixn_ok p hp), ?_⟩
        have K3 := K2.setB (nL m (lft rs (dset dn x)))
        have e3 := nL_set (n := m) (p := p) (F := lft rs dn) (H := lft rs (dset dn x)) (v := ((lft rs dn p : Nat) : Int) - 1) (by rw [kl]; omega) fun z _ nz => (ko z nz).2
        rw [e3]
        refine ⟨_, rfl, _, iu, _, .int ((lft rs (dset dn x) p : Nat) : Int), sq_ref K3.b, nL_at _ hp, rfl, _, rfl, ite_b (fun w => ?_) (fun w => ?_)⟩
        · have w : lft rs (dset dn x) p = 0 := by
            have w : ((lft rs (dset dn x) p : Nat) : Int) = 0 := by simpa [eqD] using w
            omega
          refine ⟨_, rfl, ⟨_, lq_ref K3.r⟩, _, iu, _, K3.r, (by rw [List.length_map]; have := KN.nd; have l := nodup_len this (n := m) (fun y hy => by have := ((KN.inn y).mp hy).1; omega); rw [List.length_append] at l; show _ < 16777216; omega), ?_⟩
          refine hN' _ _ _ (by omega) ⟨dset dn x, A ++ [p], rfl, ky w, ?_, _, _, rfl⟩
          have K4 := K3.setR ((A ++ [p]).map fun (j : Nat) => D.int j)
          rw [List.map_append] at K4 ⊢
          exact K4
        · have w : lft rs (dset dn x) p ≠ 0 := by
            have w : ¬ ((lft rs (dset dn x) p : Nat) : Int) = 0 := by simpa [eqD] using w
            omega
          exact hN' _ _ _ (by omega) ⟨dset dn x, A, rfl, kn w, K3, _, _, rfl⟩
  rintro σ G2 ⟨dn, all, KN, KE, y5, y6, rfl⟩
  refine ⟨_, rfl, fz_lst KE.a ⟨G, fun b o eb => ?_, ?_⟩⟩
  · have b1 : b ≠ p1 := fun z => by rw [z, np1] at eb; cases eb
    have b2 : b ≠ p2 := fun z => by rw [z, np2] at eb; cases eb
    have b4 : b ≠ p4 := fun z => by rw [z, np4] at eb; cases eb
    rw [dl_ne b1, KE.keep b b1 b2 b4]; exact eb
  · rw [nL_congr (F := fnd rs dn) (H := wt rs) fun z hz => fnd_all S (by omega) (KN.dz z (by omega) (all z hz))]
    exact hq
/-! #### sum_of_ranks -/

def sp_sum_of_ranks : Sp3 := fun ds G Q E => match ds with | [.tup xs] => ∃ (rs : List Row), xs = rs.map Row.d ∧ ShpR rs ∧ Q (.int (rkS rs)) G | _ => False
def t_sum_of_ranks : TS3 :=
    (sret (tcb bSum (acons (tlc false (iseq (tcall sp_all_weights (acons (tv 0) anil))) (.n 1) Tyes (tcall sp_rank_of (acons (tv 1) anil)) [1]) anil)))
set_option maxHeartbeats 4000000 in
theorem vc_sum_of_ranks (ds : List D) (G : Gp) (Q : QK) (E : EK) (h : sp_sum_of_ranks ds G Q E) : t_sum_of_ranks (fnEnds Q E) (start3 N_sum_of_ranks ds) G := by
  unfold sp_sum_of_ranks at h
  split at h
  case h_2 => exact h.elim
  obtain ⟨rs, rfl, S, hq⟩ := h
  have n64 := S.n64
  refine ⟨_, rfl, rs, rfl, S, _, rfl, lc_pure (fun y => match y with | .int i => some (.int (rk i)) | _ => none) (fun y my G' _ R hR => ?_) (fun _ _ => trivial) (by rw [nL_len]; show _ ≤ 16777216; omega) ?_⟩
  · obtain ⟨z, _, rfl⟩ := List.mem_map.mp my
    exact ⟨_, rfl, hR⟩
  · have e : (nL rs.length (wt rs)).filterMap (fun y => match y with | .int i => some (.int (rk i)) | _ => none) = nL rs.length fun z => (wt rs z).log2 := fm_all (fun z => by show some (D.int (rk ((wt rs z : Nat) : Int))) = _; unfold rk; rw [Int.toNat_natCast]) _
    rw [e]
    exact ⟨_, _, rfl, ints_nL _ _, dn_refl hq⟩
/-! #### after_reaching -/

def sp_after_reaching : Sp3 := fun ds G Q E => match ds with | [.tup xs, .int i, .int b] => ∃ (rs : List Row) (h : Nat), xs = rs.map Row.d ∧ i = h ∧ h < rs.length ∧ ShpR rs ∧ ∀ p, G p = none → Q (.tup [.tup ((toR (spF rs h) h).map Row.d), .ref p, .tup [.int ((mtF rs h).2.2 : Nat), .int ((mtF rs h).2.1.length : Nat), .int (stN h (fu (spF rs h)) (hnT (spF rs h) h) : Nat), .int (rkS (toR (spF rs h) h) - b)]]) (up G p (.lst ((mtF rs h).2.1.map fun (j : Nat) => D.int j))) | _ => False
def t_after_reaching : TS3 :=
    (sseq (sunp [4, 5, 6] (tcall sp_met_from (acons (tv 0) (acons (tv 1) anil))))
    (sseq (sunp [7, 8] (tcall sp_to_top (acons (tcall sp_spliced (acons (tv 4) (acons (tv 5) anil))) (acons (tv 1) anil))))
    (sseq (sset 3 (t2 sub3 (tcall sp_sum_of_ranks (acons (tv 7) anil)) (tv 2)))
    (sret (ttup (acons (tv 7) (acons (tv 5) (acons (ttup (acons (tv 6) (acons (tcb bLen (acons (tv 5) anil)) (acons (tv 8) (acons (tv 3) anil))))) anil))))))))
set_option maxHeartbeats 4000000 in
theorem vc_after_reaching (ds : List D) (G : Gp) (Q : QK) (E : EK) (h : sp_after_reaching ds G Q E) : t_after_reaching (fnEnds Q E) (start3 N_after_reaching ds) G := by
  unfold sp_after_reaching at h
  split at h
  case h_2 => exact h.elim
  obtain ⟨rs, h, rfl, rfl, hh, S, hq⟩ := h
  obtain ⟨I, hd⟩ := mtF_ok S hh
  obtain ⟨Sp, lp⟩ := spF_ok S hh
  have hp : h < (spF rs h).length := by rw [lp]; exact hh
  obtain ⟨O, _⟩ := to_op Sp hp
  refine ⟨_, rfl, _, rfl, rs, h, rfl, rfl, hh, S, fun p np => ⟨_, rfl, rfl, ?_⟩⟩
  refine ⟨_, rfl, _, rfl, _, _, none, rfl, up_same, I.S, I.non, I.way, ?_⟩
  rw [← spF_eq]
  refine ⟨_, rfl, spF rs h, h, rfl, rfl, hp, Sp, _, rfl, rfl, ?_⟩
  refine ⟨_, rfl, _, rfl, O.S, _, rfl, ?_⟩
  refine ⟨_, rfl, _, rfl, _, rfl, _, rfl, _, sq_ref up_same, _, rfl, _, rfl, Nat.le_of_ble_eq_true rfl, Nat.le_of_ble_eq_true rfl, dn_refl ?_⟩
  rw [List.length_map]
  exact hq p np
/-! #### check_house -/

def sp_check_house : Sp3 := fun ds G Q E => match ds with | [.int n, x] => kn OC x = true ∧ (wiI 0 (n - 1) x = true → Q .non G) ∧ (wiI 0 (n - 1) x = false → E ⟨Str.ofString "NoHouse", none⟩ G) | _ => False
def t_check_house : TS3 :=
    (sif (Tnot (tb3 (tcall sp_is_below (acons (tv 1) (acons (tv 0) anil))))) (sraise (Str.ofString "NoHouse")) snext)
set_option maxHeartbeats 4000000 in
theorem vc_check_house (ds : List D) (G : Gp) (Q : QK) (E : EK) (h : sp_check_house ds G Q E) : t_check_house (fnEnds Q E) (start3 N_check_house ds) G := by
  unfold sp_check_house at h
  split at h
  case h_2 => exact h.elim
  obtain ⟨hk, hq, he⟩ := h
  refine ⟨_, rfl, _, rfl, hk, _, rfl, ite_b (fun z => ⟨_, Sub.refl, he (by simpa using z)⟩) (fun z => dn_refl (hq (by simpa using z)))⟩
/-! #### comes_out -/

def sp_comes_out : Sp3 := fun ds G Q E => match ds with | [.tup xs, .int i] => ∃ (rs : List Row) (h : Nat), xs = rs.map Row.d ∧ i = h ∧ h < rs.length ∧ rs.length ≤ 64 ∧ (∀ r ∈ rs, r.ok rs.length) ∧ Q (.bl (go rs rs.length h)) G | _ => False
def t_comes_out : TS3 :=
    (sseq (sset 2 (tv 1))
    (sseq (sfor (irng1 (acons (tcb bLen (acons (tv 0) anil)) anil)) (.n 3) (sseq (sset 2 (t2 ix3 (t2 ix3 (tv 0) (tv 2)) (tc (.int 0))))
    (sif (tb3 (t2 (is3 false) (tv 2) (tc .non))) (sret (tc (.bl true))) snext)))
    (sret (tc (.bl false)))))
set_option maxHeartbeats 4000000 in
theorem vc_comes_out (ds : List D) (G : Gp) (Q : QK) (E : EK) (h : sp_comes_out ds G Q E) : t_comes_out (fnEnds Q E) (start3 N_comes_out ds) G := by
  unfold sp_comes_out at h
  split at h
  case h_2 => exact h.elim
  obtain ⟨rs, h, rfl, rfl, hl, l64, ok, hq⟩ := h
  refine ⟨_, rfl, _, rfl, _, rfl, _, rfl, (by rw [List.length_map]; omega), (by rw [List.length_map]; omega), ?_⟩
  rw [List.length_map]
  refine forL_inv (fun k σ G' => G' = G ∧ ∃ (i : Nat) (y : Option D), i < rs.length ∧ k ≤ rs.length ∧ go rs (rs.length - k) i = go rs rs.length h ∧ σ = [some (.tup (rs.map Row.d)), some (.int h), some (.int i), y]) ?_ ?_ ⟨rfl, h, none, hl, by omega, by simp, rfl⟩
  · rintro k x σ G' N ex ⟨rfl, i, y, hi, hk, e, rfl⟩ hN
    have hk2 : k < rs.length := by
      obtain ⟨h3, _⟩ := List.getElem?_eq_some_iff.mp ex
      simpa using h3
    obtain ⟨r, er⟩ : ∃ r, rs[i]? = some r := ⟨rs[i], by simp [hi]⟩
    have okr := ok r (List.mem_of_getElem? er)
    have eu : atI r.items 0 = some (pl r.u) := rfl
    have e2 : go rs (rs.length - k) i = match r.u with | none => true | some p => go rs (rs.length - (k + 1)) p := by
      rw [show rs.length - k = (rs.length - (k + 1)) + 1 by omega]
      show (match rs[i]? with | some r => (match r.u with | none => true | some p => go rs (rs.length - (k + 1)) p) | none => false) = _
      rw [er]
    cases hu : r.u with
    | none =>
      rw [hu] at e2
      rw [hu] at eu
      refine ⟨trivial, _, rfl, _, rfl, _, _, rfl, at_row er, _, _, rfl, eu, _, rfl, _, rfl, ite_b (fun z => dn_refl ?_) (fun z => ?_)⟩
      · rw [← e, e2] at hq; exact hq
      · cases z
    | some p =>
      rw [hu] at e2
      rw [hu] at eu
      refine ⟨trivial, _, rfl, _, rfl, _, _, rfl, at_row er, _, _, rfl, eu, _, rfl, _, rfl, ite_b (fun z => ?_) (fun z => ?_)⟩
      · cases z
      · exact hN _ _ ⟨rfl, p, _, okr.u p hu, by omega, e2.symm.trans e, rfl⟩
  · rintro σ G' ⟨rfl, i, y, hi, hk, e, rfl⟩
    refine ⟨trivial, dn_refl ?_⟩
    have e : go rs (rs.length - (((List.range (rs.length : Int).toNat).map fun (i : Nat) => D.int i).length)) i = go rs rs.length h := e
    rw [List.length_map, List.length_range, Int.toNat_natCast, Nat.sub_self] at e
    rw [← e] at hq
    exact hq
/-! #### is_place -/

def sp_is_place : Sp3 := fun ds G Q E => match ds with | [.int n, x] => kn OC x = true ∧ Q (.bl (plB n x)) G | _ => False
def t_is_place : TS3 :=
    (sret (tor (t2 (is3 false) (tv 1) (tc .non)) (tcall sp_is_below (acons (tv 1) (acons (tv 0) anil)))))
set_option maxHeartbeats 4000000 in
theorem vc_is_place (ds : List D) (G : Gp) (Q : QK) (E : EK) (h : sp_is_place ds G Q E) : t_is_place (fnEnds Q E) (start3 N_is_place ds) G := by
  unfold sp_is_place at h
  split at h
  case h_2 => exact h.elim
  rename_i n x
  refine ⟨_, rfl, _, rfl, ite_b (fun z => ?_) (fun z => ?_)⟩
  · have e : x = .non := by cases x <;> first | rfl | cases z
    subst e
    exact dn_refl h.2
  · refine ⟨_, rfl, _, rfl, h.1, dn_refl ?_⟩
    have e : plB n x = wiI 0 (n - 1) x := by cases x <;> first | rfl | cases z
    rw [← e]; exact h.2
/-! #### is_part -/

def sp_is_part : Sp3 := fun ds G Q E => match ds with | [.int n, x] => ∃ m : Nat, n = m ∧ wkr x = true ∧ ∀ b, (b = true ↔ ∃ r : Row, x = r.d ∧ r.ok m ∧ r.two) → Q (.bl b) G | _ => False
def t_is_part : TS3 :=
    (sseq (sif (Tor (Tnot (tb3 (tcall sp_is_sized (acons (tv 1) (acons (tc (.int 6)) (acons (tc (.int 6)) anil)))))) (Tnot (tb3 (tcb bAll (acons (tlc false (iseq (tsl false (tv 1) onone (osome (tc (.int 3))))) (.n 2) Tyes (tcall sp_is_place (acons (tv 0) (acons (tv 2) anil))) [2]) anil))))) (sret (tc (.bl false))) snext)
    (sseq (sif (Tand (tb3 (t2 (is3 true) (t2 ix3 (tv 1) (tc (.int 1))) (tc .non))) (tb3 (t2 eq3 (t2 ix3 (tv 1) (tc (.int 1))) (t2 ix3 (tv 1) (tc (.int 2)))))) (sret (tc (.bl false))) snext)
    (sret (tand (tisi (isT OC .bl) (t2 ix3 (tv 1) (tc (.int 3)))) (tand (tcall sp_is_integer (acons (t2 ix3 (tv 1) (tc (.int 4))) anil)) (tcall sp_is_integer (acons (t2 ix3 (tv 1) (tc (.int 5))) anil)))))))
set_option maxHeartbeats 4000000 in
theorem vc_is_part (ds : List D) (G : Gp) (Q : QK) (E : EK) (h : sp_is_part ds G Q E) : t_is_part (fnEnds Q E) (start3 N_is_part ds) G := by
  unfold sp_is_part at h
  split at h
  case h_2 => exact h.elim
  rename_i n x
  obtain ⟨m, rfl, hk, hq⟩ := h
  refine ⟨_, rfl, wkr_kn hk, _, rfl, ite_b (fun z => iteT (dn_refl (hq false ?_))) (fun z => ?_)⟩
  · refine ⟨nof, fun ⟨r, e, _⟩ => ?_⟩
    subst e
    cases z
  obtain ⟨xs, rfl, l1, l2⟩ := siI_of (x := x) (by simpa using z)
  obtain ⟨u, l, r, t, a, v, rfl⟩ := six (xs := xs) (by omega)
  have hk : kn OC u = true ∧ kn OC l = true ∧ kn OC r = true ∧ kn OC t = true ∧ kn OC a = true ∧ kn OC v = true := by simpa [wkr] using hk
  refine ⟨_, rfl, _, rfl, _, rfl, lc_pure (fun y => some (.bl (plB m y))) (fun y my G' _ R hR => ?_) (fun _ _ => trivial) (Nat.le_of_ble_eq_true rfl) ?_⟩
  · have ky : kn OC y = true := by
      have my : y ∈ [u, l, r] := my
      simp only [List.mem_cons, List.not_mem_nil, or_false] at my
      rcases my with rfl | rfl | rfl
      · exact hk.1
      · exact hk.2.1
      · exact hk.2.2.1
    exact ⟨_, rfl, _, rfl, ky, hR⟩
  refine ⟨_, _, rfl, bls_map _ _, _, rfl, ite_b (fun z => dn_refl (hq false ?_)) (fun z => ?_)⟩
  · refine ⟨nof, fun ⟨q, e, ok, _⟩ => ?_⟩
    injection e with e
    injection e with e1 e; injection e with e2 e; injection e with e3 e
    have z : (!([u, l, r].map (plB m)).all id) = true := z
    simp [e1, e2, e3, plB_ok.mpr ⟨_, rfl, ok.u⟩, plB_ok.mpr ⟨_, rfl, ok.l⟩, plB_ok.mpr ⟨_, rfl, ok.r⟩] at z
  have z : (!([u, l, r].map (plB m)).all id) = false := z
  have z : plB m u = true ∧ plB m l = true ∧ plB m r = true := by simpa using z
  obtain ⟨u, rfl, ou⟩ := plB_ok.mp z.1
  obtain ⟨l, rfl, ol⟩ := plB_ok.mp z.2.1
  obtain ⟨r, rfl, or⟩ := plB_ok.mp z.2.2
  refine snext_eq ?_
  dsimp only
  refine sseq_cut (fun σ G' => σ = [some (.int m), some (.tup [pl u, pl l, pl r, t, a, v]), none] ∧ G' = G ∧ (l = none ∨ l ≠ r)) (fun N hN => ?_) ?_
  · refine ⟨_, rfl, _, _, rfl, rfl, _, rfl, ite_b (fun z1 => ?_) (fun z1 => ?_)⟩
    · refine ⟨_, rfl, _, _, rfl, rfl, _, rfl, _, _, rfl, rfl, pl_eqOk, _, rfl, ite_b (fun z2 => ?_) (fun z2 => ?_)⟩
      · have e := pl_eqD.mp z2
        refine dn_refl (hq false ⟨nof, fun ⟨q, e0, _, tw⟩ => ?_⟩)
        injection e0 with e0
        injection e0 with e1 e0; injection e0 with e2 e0; injection e0 with e3 e0
        have e2 := pl_inj e2; have e3 := pl_inj e3
        rcases tw with tw | tw
        · rw [e2, tw] at z1; cases z1
        · exact (tw (e2.symm.trans (e.trans e3))).elim
      · refine hN _ _ ⟨rfl, rfl, .inr fun e => ?_⟩
        rw [pl_eqD.mpr e] at z2; cases z2
    · refine hN _ _ ⟨rfl, rfl, .inl ?_⟩
      cases l with
      | none => rfl
      | some i => cases z1
  · rintro σ G' ⟨rfl, rfl, tw⟩
    have no : (∀ q : Row, D.tup [pl u, pl l, pl r, t, a, v] ≠ q.d) → dn Q (.bl false) G' := fun h => dn_refl (hq false ⟨nof, fun ⟨q, e, _⟩ => absurd e (h q)⟩)
    refine ⟨_, rfl, _, _, rfl, rfl, isi_use (P := fun b => _) hk.2.2.2.1 ⟨_, rfl, ite_b (fun z1 => ?_) (fun z1 => no fun q e => ?_)⟩⟩
    · refine ⟨_, rfl, _, _, rfl, rfl, hk.2.2.2.2.1, _, rfl, ite_b (fun z2 => ?_) (fun z2 => no fun q e => ?_)⟩
      · refine ⟨_, rfl, _, _, rfl, rfl, hk.2.2.2.2.2, ?_⟩
        cases hv : isI v with
        | false =>
          refine no fun q e => ?_
          injection e with e
          injection e with e1 e; injection e with e2 e; injection e with e3 e; injection e with e4 e; injection e with e5 e; injection e with e6 e
          rw [e6] at hv; cases hv
        | true =>
          obtain ⟨a, rfl⟩ := isI_of z2
          obtain ⟨v, rfl⟩ := isI_of hv
          obtain ⟨t, rfl⟩ : ∃ b, t = .bl b := by cases t <;> first | exact ⟨_, rfl⟩ | (simp [isiD] at z1)
          exact dn_refl (hq true ⟨fun _ => ⟨⟨u, l, r, t, a, v⟩, rfl, ⟨ou, ol, or⟩, tw⟩, fun _ => rfl⟩)
      · injection e with e
        injection e with e1 e; injection e with e2 e; injection e with e3 e; injection e with e4 e; injection e with e5 e
        rw [e5] at z2; cases z2
    · injection e with e
      injection e with e1 e; injection e with e2 e; injection e with e3 e; injection e with e4 e
      rw [e4] at z1; cases z1
/-! #### is_right_shape -/

def sp_is_right_shape : Sp3 := fun ds G Q E => match ds with | [x] => wks x = true ∧ ∀ b, (b = true ↔ Shp x) → Q (.bl b) G | _ => False
def t_is_right_shape : TS3 :=
    (sseq (sif (Tor (Tnot (tb3 (tcall sp_is_sized (acons (tv 0) (acons (tc (.int 1)) (acons (tc (.int 64)) anil)))))) (Tnot (tb3 (tcb bAll (acons (tlc false (iseq (tv 0)) (.n 2) Tyes (tcall sp_is_part (acons (tcb bLen (acons (tv 0) anil)) (acons (tv 2) anil))) [2]) anil))))) (sret (tc (.bl false))) snext)
    (sseq (sfor (irng1 (acons (tcb bLen (acons (tv 0) anil)) anil)) (.n 1) (sif (Tnot (tb3 (tcb bAll (acons (tlc false (iseq (tcall sp_sons_of (acons (tv 0) (acons (tv 1) anil)))) (.n 3) Tyes (t2 eq3 (t2 ix3 (t2 ix3 (tv 0) (tv 3)) (tc (.int 0))) (tv 1)) [3]) anil)))) (sret (tc (.bl false))) snext))
    (sret (tcb bAll (acons (tlc false (irng1 (acons (tcb bLen (acons (tv 0) anil)) anil)) (.n 1) Tyes (tcall sp_comes_out (acons (tv 0) (acons (tv 1) anil))) [1]) anil)))))
set_option maxHeartbeats 4000000 in
theorem vc_is_right_shape (ds : List D) (G : Gp) (Q : QK) (E : EK) (h : sp_is_right_shape ds G Q E) : t_is_right_shape (fnEnds Q E) (start3 N_is_right_shape ds) G := by
  unfold sp_is_right_shape at h
  split at h
  case h_2 => exact h.elim
  rename_i x
  obtain ⟨hk, hq⟩ := h
  have no : ¬ Shp x → dn Q (.bl false) G := fun h => dn_refl (hq false ⟨nof, fun z => absurd z h⟩)
  refine ⟨_, rfl, wks_kn hk, _, rfl, ite_b (fun z => iteT (no ?_)) (fun z => ?_)⟩
  · rintro ⟨rs, rfl, h⟩
    have := siI_tup.mpr (show (1 : Int) ≤ ((rs.map Row.d).length : Int) ∧ ((rs.map Row.d).length : Int) ≤ 64 by rw [List.length_map]; have := h.n1; have := h.n64; omega)
    rw [this] at z; cases z
  obtain ⟨xs, rfl, l1, l2⟩ := siI_of (x := x) (by simpa using z)
  have hk : ∀ y ∈ xs, wkr y = true := List.all_eq_true.mp hk
  let g : D → Bool := fun y => @decide (∃ r : Row, y = r.d ∧ r.ok xs.length ∧ r.two) (Classical.propDecidable _)
  refine ⟨_, rfl, xs, rfl, lc_pure (fun y => some (.bl (g y))) (fun y my G' _ R hR => ?_) (fun _ _ => trivial) (by show _ ≤ 16777216; omega) ?_⟩
  · refine ⟨_, rfl, xs, rfl, _, rfl, xs.length, rfl, hk y my, fun b hb => ?_⟩
    have : b = g y := Bool.eq_iff_iff.mpr (hb.trans (@decide_eq_true_iff (∃ r : Row, y = r.d ∧ r.ok xs.length ∧ r.two) (Classical.propDecidable _)).symm)
    rw [this]; exact hR
  have gm : ∀ {y}, g y = true ↔ ∃ r : Row, y = r.d ∧ r.ok xs.length ∧ r.two := fun {y} => @decide_eq_true_iff _ (Classical.propDecidable _)
  refine ⟨_, _, rfl, bls_map _ _, _, rfl, ite_b (fun z => no ?_) (fun z => ?_)⟩
  · rintro ⟨rs, e, h⟩
    injection e with e
    subst e
    have : ((rs.map Row.d).map g).all id = true := by
      rw [List.all_eq_true]
      intro b hb
      obtain ⟨y, hy, rfl⟩ := List.mem_map.mp hb
      obtain ⟨r, hr, rfl⟩ := List.mem_map.mp hy
      exact gm.mpr ⟨r, rfl, by rw [List.length_map]; exact h.ok r hr, h.two r hr⟩
    rw [this] at z; cases z
  have z : (xs.map g).all id = true := by cases h : (xs.map g).all id <;> simp [h] at z ⊢
  obtain ⟨rs, rfl, ok⟩ := rows_all (n := xs.length) (xs := xs) fun y hy => by
    obtain ⟨r, e, ok, _⟩ := gm.mp (List.all_eq_true.mp z (g y) (List.mem_map_of_mem hy))
    exact ⟨r, e, ok⟩
  have tw : ∀ r ∈ rs, r.two := fun r hr => by
    obtain ⟨q, e, _, tw⟩ := gm.mp (List.all_eq_true.mp z (g r.d) (List.mem_map_of_mem (List.mem_map_of_mem hr)))
    rw [Row.d_inj e]; exact tw
  rw [List.length_map] at ok l1 l2
  have no : ¬ ShpR rs → dn Q (.bl false) G := fun h => no fun z => h (shp_rows.mp z)
  have hq : ∀ b, (b = true ↔ ShpR rs) → dn Q (.bl b) G := fun b h => dn_refl (hq b (h.trans shp_rows.symm))
  refine ⟨_, rfl, _, rfl, _, rfl, (by rw [List.length_map]; omega), (by rw [List.length_map]; omega), ?_⟩
  rw [List.length_map]
  refine forL_inv (fun k σ G' => G' = G ∧ ∃ (y : Option D), (∀ h r, h < k → rs[h]? = some r → sonIs rs h r.l ∧ sonIs rs h r.r) ∧ σ = [some (.tup (rs.map Row.d)), y, none, none]) ?_ ?_ ⟨rfl, none, fun h r z => by omega, rfl⟩
  · rintro k x σ G' N ex ⟨rfl, y, hs, rfl⟩ hN
    obtain ⟨hk, ex⟩ := List.getElem?_eq_some_iff.mp ex
    have hk : k < rs.length := by simpa using hk
    have ex : x = .int k := by simpa using ex.symm
    subst ex
    obtain ⟨r, er⟩ : ∃ r, rs[k]? = some r := ⟨rs[k], by simp [hk]⟩
    have okr := ok r (List.mem_of_getElem? er)
    have sl : ∀ y ∈ sonsL r, ∃ (s : Nat) (q : Row), y = .int s ∧ rs[s]? = some q := fun y hy => by
      obtain ⟨s, e, h⟩ := sonsL_mem hy
      have : s < rs.length := by rcases h with h | h; exact okr.l s h; exact okr.r s h
      exact ⟨s, rs[s], e, by simp [this]⟩
    let f : D → Bool := fun y => match y with
      | .int s => (match rs[s.toNat]? with
        | some q => eqD (pl q.u) (.int k)
        | none => false)
      | _ => false
    refine ⟨trivial, _, rfl, _, rfl, rs, k, r, rfl, rfl, er, ?_⟩
    refine ⟨_, rfl, lc_pure (fun y => some (.bl (f y))) (fun y my G'' _ R hR => ?_) (fun _ _ => trivial) (Nat.le_trans (List.length_filterMap_le _ _) (Nat.le_of_ble_eq_true rfl)) ?_⟩
    · obtain ⟨s, q, rfl, eq⟩ := sl y my
      have e1 : f (.int s) = eqD (pl q.u) (.int k) := by
        show (match rs[(s : Int).toNat]? with | some q => eqD (pl q.u) (.int k) | none => false) = _
        rw [Int.toNat_natCast, eq]
      rw [e1] at hR
      exact ⟨_, rfl, _, rfl, _, _, rfl, at_row eq, _, _, rfl, rfl, _, rfl, (by cases q.u <;> rfl), hR⟩
    have fm : ((sonsL r).map f).all id = true ↔ sonIs rs k r.l ∧ sonIs rs k r.r := by
      rw [List.all_eq_true]
      have fs : ∀ s : Nat, f (.int s) = true ↔ ∃ q, rs[s]? = some q ∧ q.u = some k := fun s => by
        show (match rs[(s : Int).toNat]? with | some q => eqD (pl q.u) (.int k) | none => false) = true ↔ _
        rw [Int.toNat_natCast]
        cases e : rs[s]? with
        | none => simp
        | some q =>
          have : D.int (k : Int) = pl (some k) := rfl
          simp only [this, pl_eqD]
          simp
      constructor
      · intro h
        exact ⟨fun s e => (fs s).mp (h _ (List.mem_map_of_mem (sonsL_in (.inl e)))), fun s e => (fs s).mp (h _ (List.mem_map_of_mem (sonsL_in (.inr e))))⟩
      · rintro ⟨h1, h2⟩ b hb
        obtain ⟨y, hy, rfl⟩ := List.mem_map.mp hb
        obtain ⟨s, rfl, e⟩ := sonsL_mem hy
        rcases e with e | e
        · exact (fs s).mpr (h1 s e)
        · exact (fs s).mpr (h2 s e)
    refine ⟨_, _, rfl, bls_map _ _, _, rfl, ite_b (fun z => no ?_) (fun z => hN _ _ ⟨rfl, _, ?_, rfl⟩)⟩
    · intro h
      have := fm.mpr (h.sons k r er)
      rw [this] at z; cases z
    · have z : ((sonsL r).map f).all id = true := by cases h : ((sonsL r).map f).all id <;> simp [h] at z ⊢
      intro h q hh eq
      by_cases e : h = k
      · subst e
        rw [er] at eq; cases eq
        exact fm.mp z
      · exact hs h q (by omega) eq
  · rintro σ G' ⟨rfl, y, hs, rfl⟩
    have hs : ∀ h r, rs[h]? = some r → sonIs rs h r.l ∧ sonIs rs h r.r := fun h r e => hs h r (by
      have := (List.getElem?_eq_some_iff.mp e).1
      simpa using this) e
    refine ⟨trivial, _, rfl, _, rfl, _, rfl, (by rw [List.length_map]; omega), (by rw [List.length_map]; omega), lc_pure (fun y => match y with | .int i => some (.bl (go rs rs.length i.toNat)) | _ => none) (fun y my G'' _ R hR => ?_) (fun _ _ => trivial) (by rw [List.length_map, List.length_range, List.length_map]; show _ ≤ 16777216; omega) ?_⟩
    · obtain ⟨i, hi, rfl⟩ := List.mem_map.mp my
      rw [List.mem_range, List.length_map] at hi
      have hi : i < rs.length := by omega
      refine ⟨_, rfl, _, rfl, rs, i, rfl, rfl, hi, by omega, ok, ?_⟩
      have hR : R (some (.bl (go rs rs.length (i : Int).toNat))) G'' := hR
      rw [Int.toNat_natCast] at hR
      exact hR
    have e1 : ∀ n : Nat, blsD (((List.range n).map fun (i : Nat) => D.int i).filterMap fun y => match y with | .int i => some (.bl (go rs rs.length i.toNat)) | _ => none) = some ((List.range n).map fun i => go rs rs.length i) := fun n => by
      rw [List.filterMap_map]
      exact bls_map (List.range n) fun i => go rs rs.length i
    refine ⟨_, _, rfl, e1 _, hq _ ?_⟩
    rw [List.all_eq_true]
    constructor
    · intro h
      refine ⟨by omega, by omega, ok, tw, hs, fun i hi => ?_⟩
      exact h _ (List.mem_map.mpr ⟨i, by rw [List.mem_range, List.length_map]; omega, rfl⟩)
    · rintro h b hb
      obtain ⟨i, hi, rfl⟩ := List.mem_map.mp hb
      rw [List.mem_range, List.length_map] at hi
      exact h.go i (by omega)
/-! #### check_shape -/

def sp_check_shape : Sp3 := fun ds G Q E => match ds with | [x] => wks x = true ∧ (∀ rs : List Row, x = .tup (rs.map Row.d) → ShpR rs → Q .non G) ∧ (¬ Shp x → E ⟨Str.ofString "NoShape", none⟩ G) | _ => False
def t_check_shape : TS3 :=
    (sif (Tnot (tb3 (tcall sp_is_right_shape (acons (tv 0) anil)))) (sraise (Str.ofString "NoShape")) snext)
set_option maxHeartbeats 4000000 in
theorem vc_check_shape (ds : List D) (G : Gp) (Q : QK) (E : EK) (h : sp_check_shape ds G Q E) : t_check_shape (fnEnds Q E) (start3 N_check_shape ds) G := by
  unfold sp_check_shape at h
  split at h
  case h_2 => exact h.elim
  obtain ⟨hk, hq, he⟩ := h
  refine ⟨_, rfl, hk, fun b hb => ⟨_, rfl, ite_b (fun z => ⟨_, Sub.refl, he fun s => ?_⟩) (fun z => dn_refl ?_)⟩⟩
  · rw [hb.mpr s] at z; cases z
  · obtain ⟨rs, e, S⟩ := hb.mp (by simpa using z)
    exact hq rs e S
/-! #### reached -/

def sp_reached : Sp3 := fun ds G Q E => match ds with | [x, i] => wks x = true ∧ kn OC i = true ∧ (¬ Shp x → E ⟨Str.ofString "NoShape", none⟩ G) ∧ (∀ rs : List Row, x = .tup (rs.map Row.d) → ShpR rs → (wiI 0 (((rs.length : Nat) : Int) - 1) i = true → ∀ y, Q y G) ∧ (wiI 0 (((rs.length : Nat) : Int) - 1) i = false → E ⟨Str.ofString "NoHouse", none⟩ G)) | _ => False
def t_reached : TS3 :=
    (sseq (sdrop (tcall sp_check_shape (acons (tv 0) anil)))
    (sseq (sdrop (tcall sp_check_house (acons (tcb bLen (acons (tv 0) anil)) (acons (tv 1) anil))))
    (sseq (sunp [2, 3, 4] (tcall sp_after_reaching (acons (tv 0) (acons (tv 1) (acons (tcall sp_sum_of_ranks (acons (tv 0) anil)) anil)))))
    (sret (ttup (acons (tv 2) (acons (tv 4) anil)))))))
set_option maxHeartbeats 4000000 in
theorem vc_reached (ds : List D) (G : Gp) (Q : QK) (E : EK) (h : sp_reached ds G Q E) : t_reached (fnEnds Q E) (start3 N_reached ds) G := by
  unfold sp_reached at h
  split at h
  case h_2 => exact h.elim
  rename_i x i
  obtain ⟨hk, ki, he, hq⟩ := h
  refine ⟨_, rfl, hk, fun rs e S => ?_, fun no => ⟨_, Sub.refl, he no⟩⟩
  subst e
  obtain ⟨h1, h2⟩ := hq rs rfl S
  have el : (((rs.map Row.d).length : Nat) : Int) = ((rs.length : Nat) : Int) := by rw [List.length_map]
  refine ⟨_, rfl, _, rfl, _, rfl, ki, fun z => ?_, fun z => ⟨_, Sub.refl, h2 (by rw [← el]; exact z)⟩⟩
  rw [el] at z
  obtain ⟨n, rfl, n1, n2⟩ := wi_of z
  obtain ⟨h, rfl⟩ : ∃ h : Nat, n = h := ⟨n.toNat, by omega⟩
  refine ⟨_, rfl, _, rfl, _, rfl, rs, rfl, S, rs, h, rfl, rfl, (by omega), S, fun p np => ⟨_, rfl, rfl, ?_⟩⟩
  exact ⟨_, rfl, _, rfl, Nat.le_of_ble_eq_true rfl, _, Sub.up np, h1 z _⟩
/-! #### _law_word -/

def sp__law_word : SpW := fun tl G Q E => ∀ (R : QK) (ER : EK), (∀ d G1, Q (.str (Str.ofString "let")) G1 → R d G1) → (∀ c w G1, lwe c = some w → Q (.str w) G1 → ER ⟨c, none⟩ G1) → tl G R ER
def t__law_word (L : D) (tl : Gp → QK → EK → Prop) : TS3 :=
    (sseq (sset 1 (tc (.str (Str.ofString "let"))))
    (sseq (stry (exmOf EXM) (sdrop (tcl 0 L tl)) [⟨(Str.ofString "ForestError"), some 2, fun _ => (sseq (sset 3 (tlst false (acons (tise EXI false (Str.ofString "NoShape") (tv 2)) (acons (tise EXI false (Str.ofString "NoHouse") (tv 2)) (acons (tise EXI false (Str.ofString "NoNumber") (tv 2)) anil)))))
    (sseq (sset 1 (tc (.str (Str.ofString "other"))))
    (sif (Tand (tb3 (t2 eqs3 (tmeth isL mCount (tv 3) (acons (tc (.bl true)) anil)) (tc (.int 1)))) (tb3 (tise EXI true (Str.ofString "ValueError") (tv 2)))) (sset 1 (t2 ix3 (tlst false (acons (tc (.str (Str.ofString "shape"))) (acons (tc (.str (Str.ofString "house"))) (acons (tc (.str (Str.ofString "number"))) anil)))) (tmeth isL mIndex (tv 3) (acons (tc (.bl true)) anil)))) snext)))⟩])
    (sret (tv 1))))
theorem vc__law_word (L : D) (tl : Gp → QK → EK → Prop) (G : Gp) (Q : QK) (E : EK) (h : sp__law_word tl G Q E) : t__law_word L tl (fnEnds Q E) (start3 N__law_word [L]) G := by
  refine ⟨rfl, h _ _ (fun d G1 hq => ?_) (fun c w G1 hw hq => ?_)⟩
  · exact ⟨_, rfl, dn_refl hq⟩
  · rcases lwe_cases hw with ⟨rfl, rfl⟩ | ⟨rfl, rfl⟩ | ⟨rfl, rfl⟩
    · refine ⟨true, rfl, ?_⟩
      rw [if_pos rfl]
      intro gx sx
      refine ⟨_, rfl, _, _, rfl, rfl, _, rfl, _, _, rfl, rfl, _, rfl, _, _, rfl, rfl, Nat.le_of_ble_eq_true rfl, ?_⟩
      refine ⟨_, rfl, ⟨_, rfl⟩, [true, false, false], rfl, rfl, _, rfl, ite_b (fun _ => ?_) (fun z => absurd z (by decide))⟩
      refine ⟨_, rfl, _, _, rfl, rfl, _, rfl, ite_b (fun _ => ?_) (fun z => absurd z (by decide))⟩
      refine ⟨Nat.le_of_ble_eq_true rfl, _, rfl, ⟨_, rfl⟩, _, 0, .bl true, rfl, rfl, rfl, rfl, rfl, ?_, _, _, rfl, rfl, gx, ?_, _, rfl, dn_refl hq⟩
      · intro m z' hm hz
        exact absurd hm (Nat.not_lt_zero _)
      · have hL : xf L = true := sx L (by simp [start3])
        intro d hd
        have hd : some d ∈ [some L, some _, none, some (D.fl _)] := hd
        simp only [List.mem_cons, List.not_mem_nil, or_false] at hd
        rcases hd with e | e | e | e
        · injection e with e; subst e; exact hL
        · injection e with e; subst e; rfl
        · cases e
        · injection e with e; subst e; rfl
    · refine ⟨true, rfl, ?_⟩
      rw [if_pos rfl]
      intro gx sx
      refine ⟨_, rfl, _, _, rfl, rfl, _, rfl, _, _, rfl, rfl, _, rfl, _, _, rfl, rfl, Nat.le_of_ble_eq_true rfl, ?_⟩
      refine ⟨_, rfl, ⟨_, rfl⟩, [false, true, false], rfl, rfl, _, rfl, ite_b (fun _ => ?_) (fun z => absurd z (by decide))⟩
      refine ⟨_, rfl, _, _, rfl, rfl, _, rfl, ite_b (fun _ => ?_) (fun z => absurd z (by decide))⟩
      refine ⟨Nat.le_of_ble_eq_true rfl, _, rfl, ⟨_, rfl⟩, _, 1, .bl true, rfl, rfl, rfl, rfl, rfl, ?_, _, _, rfl, rfl, gx, ?_, _, rfl, dn_refl hq⟩
      · intro m z' hm hz
        match m, hm with
        | 0, _ => injection hz with hz; subst hz; rfl
      · have hL : xf L = true := sx L (by simp [start3])
        intro d hd
        have hd : some d ∈ [some L, some _, none, some (D.fl _)] := hd
        simp only [List.mem_cons, List.not_mem_nil, or_false] at hd
        rcases hd with e | e | e | e
        · injection e with e; subst e; exact hL
        · injection e with e; subst e; rfl
        · cases e
        · injection e with e; subst e; rfl
    · refine ⟨true, rfl, ?_⟩
      rw [if_pos rfl]
      intro gx sx
      refine ⟨_, rfl, _, _, rfl, rfl, _, rfl, _, _, rfl, rfl, _, rfl, _, _, rfl, rfl, Nat.le_of_ble_eq_true rfl, ?_⟩
      refine ⟨_, rfl, ⟨_, rfl⟩, [false, false, true], rfl, rfl, _, rfl, ite_b (fun _ => ?_) (fun z => absurd z (by decide))⟩
      refine ⟨_, rfl, _, _, rfl, rfl, _, rfl, ite_b (fun _ => ?_) (fun z => absurd z (by decide))⟩
      refine ⟨Nat.le_of_ble_eq_true rfl, _, rfl, ⟨_, rfl⟩, _, 2, .bl true, rfl, rfl, rfl, rfl, rfl, ?_, _, _, rfl, rfl, gx, ?_, _, rfl, dn_refl hq⟩
      · intro m z' hm hz
        match m, hm with
        | 0, _ => injection hz with hz; subst hz; rfl
        | 1, _ => injection hz with hz; subst hz; rfl
      · have hL : xf L = true := sx L (by simp [start3])
        intro d hd
        have hd : some d ∈ [some L, some _, none, some (D.fl _)] := hd
        simp only [List.mem_cons, List.not_mem_nil, or_false] at hd
        rcases hd with e | e | e | e
        · injection e with e; subst e; exact hL
        · injection e with e; subst e; rfl
        · cases e
        · injection e with e; subst e; rfl
/-! #### law -/

def sp_law (Pt : Addr) : Sp3 := fun ds G Q E => match ds with
  | [.sl xs] => (∀ x ∈ xs, ∃ n : Int, x = .int n) ∧ xs.length ≤ 63 ∧ G Pt = some (.tb (Str.ofString "law" ++ (".<locals>." : Str) ++ ("<lambda>" : Str))) ∧ ∀ G', Q (.bl true) G'
  | _ => False
def t_law (Pt : Addr) : TS3 :=
    (sseq (sset 1 (tcall sp__law_hand (acons (tv 0) anil)))
    (sseq (sfor (irng1 (acons (tc (.int 3)) anil)) (.n 2) (sseq (sunp [5, 6] (tcall sp__law_trees (acons (tv 1) (acons (t2 (add3 false) (tc (.int 1)) (tcall sp__law_draw (acons (tv 1) (acons (tc (.int 9)) anil)))) anil))))
    (sseq (sset 3 (tcall sp__law_shape (acons (tcall sp__law_laid (acons (tv 1) (acons (tv 5) (acons (tv 6) anil)))) anil)))
    (sfor (irng1 (acons (tc (.int 5)) anil)) (.n 4) (sseq (sset 7 (tv 3))
    (sseq (sif (tb3 (t2 gt3 (tcall sp__law_draw (acons (tv 1) (acons (tc (.int 3)) anil))) (tc (.int 0)))) (sset 7 (tcall sp__law_bent (acons (tv 1) (acons (tv 3) (acons (tfz (tmk (Str.ofString "Forest") sp_Forest___init__ (acons (ttup (acons (tc .non) anil)) (acons (ttup (acons (tc (.int 0)) anil)) anil)))) anil))))) snext)
    (sseq (sset 8 (tlst true (acons (tcb bLen (acons (tv 3) anil)) (acons (tneg (tc (.int 1))) (acons (tc (.bl true)) (acons (tc .non) (acons (tc (.str (Str.ofString "0"))) (acons (ttup (acons (tc (.int 0)) anil)) (acons (t2 pow3 (tc (.int 10)) (tc (.int 19))) (acons (tcall sp__law_deep (acons (tc (.int 0)) anil)) (acons (tcall sp__law_deep (acons (tc (.int 1)) anil)) (acons (tc .emp) anil))))))))))))
    (sseq (sdrop (tmeth isL mAppend (tv 8) (acons (tfz (tmk (Str.ofString "Forest") sp_Forest___init__ (acons (ttup (acons (tc .non) anil)) (acons (ttup (acons (tc (.int 0)) anil)) anil)))) anil)))
    (sseq (sset 9 (tcall sp__law_some (acons (tv 1) (acons (t2 (add3 false) (t2 (mul3 false) (tlst false (acons (tcall sp__law_draw (acons (tv 1) (acons (tcb bLen (acons (tv 3) anil)) anil))) anil)) (tc (.int 6))) (tv 8)) anil))))
    (sseq (sset 10 (tc (.str (Str.ofString "let"))))
    (sseq (sif (Tnot (tb3 (tcall sp__law_is_shape (acons (tv 7) anil)))) (sset 10 (tc (.str (Str.ofString "shape")))) (sif (Tnot (tb3 (tcall sp__law_is_number (acons (tv 9) (acons (tcb bLen (acons (tv 7) anil)) anil))))) (sset 10 (tc (.str (Str.ofString "house")))) snext))
    (sseq (sif (tb3 (t2 ne3 (tlam Pt (Str.ofString "law" ++ (".<locals>." : Str) ++ ("<lambda>" : Str)) sp__law_word (tcall sp_reached (acons (tv 7) (acons (tv 9) anil)))) (tv 10))) (sret (tc (.bl false))) snext)
    (sseq (sset 11 (tcall sp__law_some (acons (tv 1) (acons (tlst false (acons (tc (.int 1)) (acons (tc (.int 64)) (acons (tc (.int 65)) (acons (tc (.int 0)) (acons (tneg (tc (.int 1))) (acons (tc (.bl true)) (acons (tc .non) (acons (tc (.str (Str.ofString "1"))) (acons (ttup (acons (tc (.int 1)) anil)) (acons (tcall sp__law_deep (acons (tc (.int 0)) anil)) (acons (tfz (tmk (Str.ofString "Forest") sp_Forest___init__ (acons (ttup (acons (tc .non) anil)) (acons (ttup (acons (tc (.int 0)) anil)) anil)))) anil)))))))))))) anil))))
    (sseq (sset 10 (tif (Tand (tb3 (tcall sp__law_is_number (acons (tv 11) (acons (tc (.int 65)) anil)))) (tb3 (t2 gt3 (tv 11) (tc (.int 0))))) (tc (.str (Str.ofString "let"))) (tc (.str (Str.ofString "number")))))
    (sif (tb3 (t2 ne3 (tlam Pt (Str.ofString "law" ++ (".<locals>." : Str) ++ ("<lambda>" : Str)) sp__law_word (tcall sp_is_paper (acons (tv 11) (acons (tc .non) anil)))) (tv 10))) (sret (tc (.bl false))) snext)))))))))))))))
    (sret (tc (.bl true)))))
set_option maxHeartbeats 4000000 in
theorem vc_law (Pt : Addr) (ds : List D) (G : Gp) (Q : QK) (E : EK) (h : sp_law Pt ds G Q E) : t_law Pt (fnEnds Q E) (start3 N_law ds) G := by
  unfold sp_law at h
  split at h
  case h_2 => exact h.elim
  rename_i xs
  obtain ⟨hx, hl, hP, hq⟩ := h
  refine ⟨_, rfl, hx, hl, fun p cs i c s t np ok => ?_⟩
  have pP : Pt ≠ p := fun z => by rw [← z, hP] at np; cases np
  have hPt : ∀ o, up G p o Pt = some (.tb (Str.ofString "law" ++ (".<locals>." : Str) ++ ("<lambda>" : Str))) := fun o => by rw [up_ne pP]; exact hP
  refine ⟨3, rfl, by decide, by decide, forL_inv (fun _ σ G' => ∃ i c s t y2 y3 y4 y5 y6 y7 y8 y9 y10 y11, G' p = some (hnd cs i c s t) ∧ G' Pt = some (.tb (Str.ofString "law" ++ (".<locals>." : Str) ++ ("<lambda>" : Str))) ∧ HOk cs i c ∧ σ = [some (.sl xs), some (.ref p), y2, y3, y4, y5, y6, y7, y8, y9, y10, y11]) ?_ ?_ ⟨i, c, s, t, _, _, _, _, _, _, _, _, _, _, up_same, hPt _, ok, rfl⟩⟩
  · clear hP hPt np ok
    rintro k x0 σ G' N ex ⟨i, c, s, t, y2, y3, y4, y5, y6, y7, y8, y9, y10, y11, hG, hP, ok, rfl⟩ hN
    refine ⟨trivial, _, rfl, _, rfl, cs, i, c, s, t, hG, ok, by decide, by decide, fun r i c s t r0 r1 ok => ?_⟩
    dsimp only [add3]
    obtain ⟨m, em⟩ : ∃ m : Nat, 1 + r = m := ⟨(1 + r).toNat, by omega⟩
    rw [em]
    refine ⟨cs, i, c, s, t, m, up_same, ok, rfl, by omega, by omega, fun ps ws i c s t pl_ pok wl ok => ?_⟩
    rw [up_up]
    refine ⟨_, rfl, rfl, ?_⟩
    refine ⟨_, rfl, _, rfl, _, rfl, cs, i, c, s, t, m, ps, ws, up_same, ok, rfl, rfl, pl_, wl, by omega, by omega, pok, fun q G2 nq a2 o2 => ?_⟩
    have pPt : Pt ≠ q := fun z => by rw [← z, up_ne pP, hP] at nq; cases nq
    refine ⟨p, cs, m, a2, by omega, fun ys yl yr => ?_⟩
    obtain ⟨i, c, s, t, hG2, ok⟩ := a2.hh
    have hP2 : G2 Pt = some (.tb (Str.ofString "law" ++ (".<locals>." : Str) ++ ("<lambda>" : Str))) := o2 Pt _ pP pPt (by rw [up_ne pP]; exact hP)
    clear a2 o2 hP hG
    dsimp only
    have same : ∀ w : Str, (!eqD (.str w) (.str w)) = true → False := fun w z => by simp [eqD] at z
    have wy : wks (.tup ys) = true := List.all_eq_true.mpr fun y hy => by
      rcases yr y hy with rfl | ⟨r, rfl⟩
      · rfl
      · refine List.all_eq_true.mpr fun z hz => ?_
        simp only [Row.items, List.mem_cons, List.not_mem_nil, or_false] at hz
        have kp : ∀ o, kn OC (pl o) = true := fun o => by cases o <;> rfl
        rcases hz with rfl | rfl | rfl | rfl | rfl | rfl
        · exact kp _
        · exact kp _
        · exact kp _
        · rfl
        · rfl
        · rfl
    refine ⟨5, rfl, by decide, by decide, forL_inv (fun _ σ G' => ∃ i c s t y4 y7 y8 y9 y10 y11, G' p = some (hnd cs i c s t) ∧ G' Pt = some (.tb (Str.ofString "law" ++ (".<locals>." : Str) ++ ("<lambda>" : Str))) ∧ HOk cs i c ∧ σ = [some (.sl xs), some (.ref p), some x0, some (.tup ys), y4, some (.tup (ps.map pl)), some (.tup (ws.map D.int)), y7, y8, y9, y10, y11]) ?_ ?_ ⟨i, c, s, t, _, _, _, _, _, _, hG2, hP2, ok, rfl⟩⟩
    · clear hG2 hP2 ok hN
      rintro k2 x2 σ G3 N2 ex2 ⟨i, c, s, t, y4, y7, y8, y9, y10, y11, hG, hP, ok, rfl⟩ hN2
      refine ⟨trivial, _, rfl, ?_⟩
      dsimp only
      refine sseq_cut (fun σ G' => ∃ x i c s t, G' p = some (hnd cs i c s t) ∧ G' Pt = some (.tb (Str.ofString "law" ++ (".<locals>." : Str) ++ ("<lambda>" : Str))) ∧ HOk cs i c ∧ wks x = true ∧ σ = [some (.sl xs), some (.ref p), some x0, some (.tup ys), some x2, some (.tup (ps.map pl)), some (.tup (ws.map D.int)), some x, y8, y9, y10, y11]) (fun M hM => ?_) ?_
      · refine ⟨_, rfl, cs, i, c, s, t, hG, ok, by decide, by decide, fun r i c s t _ _ ok => ?_⟩
        refine ⟨_, rfl, ite_b (fun _ => ?_) (fun _ => hM _ _ ⟨.tup ys, i, c, s, t, up_same, by rw [up_ne pP]; exact hP, ok, wy, rfl⟩)⟩
        refine ⟨_, rfl, _, rfl, Nat.le_of_ble_eq_true rfl, Nat.le_of_ble_eq_true rfl, fun f nf => ⟨[none], [0], rfl, par1, rfl, rfl, up_same, rfl, fz_ins up_same ?_⟩⟩
        rw [up_up, dl_up nf]
        refine ⟨cs, i, c, s, t, up_same, ok, by omega, by omega, yr, ⟨rfl, rfl, rfl⟩, (fun z => by cases z), fun x i c s t wx ok => ?_⟩
        rw [up_up]
        exact hM _ _ ⟨x, i, c, s, t, up_same, by rw [up_ne pP]; exact hP, ok, wx, rfl⟩
      clear hG hP ok
      rintro σ G4 ⟨x, i, c, s, t, hG, hP, ok, wx, rfl⟩
      refine ⟨_, rfl, _, rfl, _, rfl, Nat.le_of_ble_eq_true rfl, ⟨by decide, by decide, by decide⟩, fun d0 u1 u2 u3 => ?_⟩
      refine fun d1 v1 v2 v3 => ⟨Nat.le_of_ble_eq_true rfl, fun q nq => ?_⟩
      have qp : q ≠ p := ne_new hG nq
      have qPt : q ≠ Pt := ne_new hP nq
      refine ⟨_, rfl, isL_ref up_same, Nat.le_of_ble_eq_true rfl, Nat.le_of_ble_eq_true rfl, fun f nf => ⟨[none], [0], rfl, par1, rfl, rfl, up_same, rfl, fz_ins up_same ?_⟩⟩
      rw [up_up, dl_up nf]
      refine ⟨_, up_same, Nat.le_of_ble_eq_true rfl, ?_⟩
      rw [up_up]
      have nh : ∀ {l : List D}, D.fl l ≠ .ref p := fun {l} z => by cases z
      refine ⟨_, rfl, _, rfl, _, rfl, _, rfl, cs, i, c, s, t, (by rw [up_ne (Ne.symm qp)]; exact hG), ok, by omega, by omega, fun r i c s t _ _ ok => ?_⟩
      refine ⟨Nat.le_of_ble_eq_true rfl, _, rfl, ⟨by decide, by decide, Nat.le_of_ble_eq_true rfl⟩, _, rfl, _, _, rfl, mq_ref (by rw [up_ne qp, up_same]), Nat.le_of_ble_eq_true rfl, cs, i, c, s, t, _, up_same, ok, rfl, nh, Nat.le_of_ble_eq_true rfl, Nat.le_of_ble_eq_true rfl, fun x9 i c s t mx ok => ?_⟩
      rw [up_up]
      have k9 : kn OC x9 = true := by
        have mx : x9 ∈ [D.int r, .int r, .int r, .int r, .int r, .int r] ++ ([D.int (ys.length : Nat), .int (-1), .bl true, .non, .str (Str.ofString "0"), .tup [.int 0], .int (10 ^ (19 : Int).toNat), d0, d1, .emp] ++ [fo [none] [0]]) := mx
        rcases List.mem_append.mp mx with mx | mx
        · simp only [List.mem_cons, List.not_mem_nil, or_false, or_self] at mx
          rw [mx]; rfl
        · rcases List.mem_append.mp mx with mx | mx
          · simp only [List.mem_cons, List.not_mem_nil, or_false] at mx
            rcases mx with rfl | rfl | rfl | rfl | rfl | rfl | rfl | rfl | rfl | rfl
            all_goals first | rfl | exact u3 | exact v3
          · rw [List.mem_singleton] at mx; subst mx; rfl
      have hP5 : ∀ o v, up (up G4 q v) p o Pt = some (.tb (Str.ofString "law" ++ (".<locals>." : Str) ++ ("<lambda>" : Str))) := fun o v => by rw [up_ne pP, up_ne (Ne.symm qPt)]; exact hP
      dsimp only
      refine sseq_cut (fun σ G' => ∃ y8, G' p = some (hnd cs i c s t) ∧ G' Pt = some (.tb (Str.ofString "law" ++ (".<locals>." : Str) ++ ("<lambda>" : Str))) ∧ σ = [some (.sl xs), some (.ref p), some x0, some (.tup ys), some x2, some (.tup (ps.map pl)), some (.tup (ws.map D.int)), some x, y8, some x9, some (.str (Str.ofString "let")), y11]) (fun M hM => hM _ _ ⟨_, up_same, hP5 _ _, rfl⟩) ?_
      clear hP5 hG hP nq
      rintro σ G5 ⟨y8, hG, hP, rfl⟩
      refine sseq_cut (fun σ G' => ∃ w : Str, G' = G5 ∧ (¬ Shp x → w = (Str.ofString "shape")) ∧ (∀ rs : List Row, x = .tup (rs.map Row.d) → ShpR rs → (wiI 0 (((rs.length : Nat) : Int) - 1) x9 = true → w = (Str.ofString "let")) ∧ (wiI 0 (((rs.length : Nat) : Int) - 1) x9 = false → w = (Str.ofString "house"))) ∧ σ = [some (.sl xs), some (.ref p), some x0, some (.tup ys), some x2, some (.tup (ps.map pl)), some (.tup (ws.map D.int)), some x, y8, some x9, some (.str w), y11]) (fun M hM => ?_) ?_
      · refine ⟨_, rfl, wx, fun b hb => ⟨_, rfl, ite_b (fun z => ?_) (fun z => ?_)⟩⟩
        · refine hM _ _ ⟨_, rfl, fun _ => rfl, fun rs e S => ?_, rfl⟩
          rw [hb.mpr ⟨rs, e, S⟩] at z; cases z
        · obtain ⟨rs, rfl, S⟩ := hb.mp (by simpa using z)
          have el : (((rs.map Row.d).length : Nat) : Int) = ((rs.length : Nat) : Int) := by rw [List.length_map]
          have inj : ∀ qs : List Row, D.tup (rs.map Row.d) = .tup (qs.map Row.d) → qs = rs := fun qs e => by
            injection e with e
            exact (rows_inj e).symm
          refine ⟨_, rfl, _, rfl, _, rfl, k9, _, rfl, ite_b (fun z2 => hM _ _ ⟨_, rfl, fun no => absurd ⟨rs, rfl, S⟩ no, fun qs e _ => ?_, rfl⟩) (fun z2 => hM _ _ ⟨_, rfl, fun no => absurd ⟨rs, rfl, S⟩ no, fun qs e _ => ?_, rfl⟩)⟩
          · have := inj qs e
            subst this
            rw [el] at z2
            exact ⟨fun z3 => (by rw [z3] at z2; cases z2), fun _ => rfl⟩
          · have := inj qs e
            subst this
            rw [el] at z2
            exact ⟨fun _ => rfl, fun z3 => (by rw [z3] at z2; cases z2)⟩
      rintro σ G' ⟨w, e0, w1, w2, rfl⟩
      subst e0
      refine sseq_cut (fun σ G2 => G2 = G' ∧ σ = [some (.sl xs), some (.ref p), some x0, some (.tup ys), some x2, some (.tup (ps.map pl)), some (.tup (ws.map D.int)), some x, y8, some x9, some (.str w), y11]) (fun M hM => ?_) ?_
      · refine ⟨hP, fun R ER hR hE => ⟨_, rfl, _, rfl, wx, k9, fun no => hE _ _ _ rfl ?_, fun qs e1 S => ⟨fun z y => hR _ _ ?_, fun z => hE _ _ _ rfl ?_⟩⟩⟩
        · have e := w1 no
          subst e
          exact ⟨_, rfl, rfl, _, rfl, ite_b (fun z => (same _ z).elim) (fun _ => hM _ _ ⟨rfl, rfl⟩)⟩
        · have e := (w2 qs e1 S).1 z
          subst e
          exact ⟨_, rfl, rfl, _, rfl, ite_b (fun z => (same _ z).elim) (fun _ => hM _ _ ⟨rfl, rfl⟩)⟩
        · have e := (w2 qs e1 S).2 z
          subst e
          exact ⟨_, rfl, rfl, _, rfl, ite_b (fun z => (same _ z).elim) (fun _ => hM _ _ ⟨rfl, rfl⟩)⟩
      rintro σ G2 ⟨e0, rfl⟩
      subst e0
      refine ⟨_, rfl, _, rfl, Nat.le_of_ble_eq_true rfl, fun d4 u1 u2 u3 => ⟨Nat.le_of_ble_eq_true rfl, Nat.le_of_ble_eq_true rfl, fun f nf => ⟨[none], [0], rfl, par1, rfl, rfl, up_same, rfl, fz_ins up_same ?_⟩⟩⟩
      rw [up_up, dl_up nf]
      refine ⟨Nat.le_of_ble_eq_true rfl, cs, i, c, s, t, [.int 1, .int 64, .int 65, .int 0, .int (-1), .bl true, .non, .str (Str.ofString "1"), .tup [.int 1], d4, fo [none] [0]], hG, ok, rfl, nh, Nat.le_of_ble_eq_true rfl, Nat.le_of_ble_eq_true rfl, fun v i c s t mx ok => ?_⟩
      have kv : kn OC v = true := by
        simp only [List.mem_cons, List.not_mem_nil, or_false] at mx
        rcases mx with rfl | rfl | rfl | rfl | rfl | rfl | rfl | rfl | rfl | rfl | rfl
        all_goals first | rfl | exact u3
      have hP6 : up G2 p (hnd cs i c s t) Pt = some (.tb (Str.ofString "law" ++ (".<locals>." : Str) ++ ("<lambda>" : Str))) := by rw [up_ne pP]; exact hP
      have hG6 : up G2 p (hnd cs i c s t) p = some (hnd cs i c s t) := up_same
      generalize up G2 p (hnd cs i c s t) = G6 at hP6 hG6 ⊢
      dsimp only
      refine sseq_cut (fun σ G' => ∃ w4 : Str, G' = G6 ∧ (wiI 1 64 v = true → w4 = (Str.ofString "let")) ∧ (wiI 1 64 v = false → w4 = (Str.ofString "number")) ∧ σ = [some (.sl xs), some (.ref p), some x0, some (.tup ys), some x2, some (.tup (ps.map pl)), some (.tup (ws.map D.int)), some x, y8, some x9, some (.str w4), some v]) (fun M hM => ?_) ?_
      · refine ⟨_, rfl, kv, _, rfl, ite_b (fun z => ?_) (fun z => hM _ _ ⟨_, rfl, fun z2 => ?_, fun _ => rfl, rfl⟩)⟩
        · obtain ⟨n, rfl, n1, n2⟩ := wi_of z
          refine ⟨_, rfl, _, rfl, ite_b (fun z2 => hM _ _ ⟨_, rfl, fun _ => rfl, fun z3 => ?_, rfl⟩) (fun z2 => hM _ _ ⟨_, rfl, fun z3 => ?_, fun _ => rfl, rfl⟩)⟩
          · have z2 := of_decide_eq_true z2
            have : wiI 1 64 (.int n) = true := by
              show (decide (1 ≤ n) && decide (n ≤ 64)) = true
              rw [decide_eq_true (show (1 : Int) ≤ n by omega), decide_eq_true (show n ≤ 64 by omega)]; rfl
            rw [this] at z3; cases z3
          · have z2 := of_decide_eq_false z2
            obtain ⟨n', e, h1, _⟩ := wi_of z3
            injection e with e
            omega
        · obtain ⟨n, rfl, h1, h2⟩ := wi_of z2
          have : wiI 0 (65 - 1) (.int n) = true := by
            show (decide (0 ≤ n) && decide (n ≤ 65 - 1)) = true
            rw [decide_eq_true (show (0 : Int) ≤ n by omega), decide_eq_true (show n ≤ 65 - 1 by omega)]; rfl
          rw [this] at z; cases z
      rintro σ G' ⟨w4, e0, v1', v2', rfl⟩
      subst e0
      refine ⟨hP6, fun R ER hR hE => ⟨_, rfl, kv, fun z y => hR _ _ ?_, fun z => hE _ _ _ rfl ?_⟩⟩
      · have e := v1' z
        subst e
        exact ⟨_, rfl, rfl, _, rfl, ite_b (fun z => (same _ z).elim) (fun _ => hN2 _ _ ⟨i, c, s, t, _, _, _, _, _, _, hG6, hP6, ok, rfl⟩)⟩
      · have e := v2' z
        subst e
        exact ⟨_, rfl, rfl, _, rfl, ite_b (fun z => (same _ z).elim) (fun _ => hN2 _ _ ⟨i, c, s, t, _, _, _, _, _, _, hG6, hP6, ok, rfl⟩)⟩
    · rintro σ G' ⟨i, c, s, t, y4, y7, y8, y9, y10, y11, hG, hP, ok, rfl⟩
      exact ⟨trivial, hN _ _ ⟨i, c, s, t, _, _, _, _, _, _, _, _, _, _, hG, hP, ok, rfl⟩⟩
  · rintro σ G' ⟨i, c, s, t, y2, y3, y4, y5, y6, y7, y8, y9, y10, y11, _, _, _, rfl⟩
    exact ⟨trivial, dn_refl (hq _)⟩
/-! ### the walk -/
section
variable {P : Program} {w : World} {K : PySem.W.Frag} {mg : Str → Option Value} {base : Heap}
set_option maxHeartbeats 4000000 in
theorem sc_comes_to_none : FnScope N_comes_to_none [(Str.ofString "parents"), (Str.ofString "house")] (defScope s_comes_to_none) := ⟨rfl, rfl, rfl, by decide +kernel, rfl, by decide +kernel, by decide +kernel⟩
theorem F_comes_to_none (T : Tx w K mg) : Fn3 P w K mg base (Str.ofString "comes_to_none") 1 sp_comes_to_none := by
  obtain ⟨fd, F⟩ := T.d_comes_to_none
  refine fn3 T.g_comes_to_none F sc_comes_to_none (FunD.bindsN F fun _ _ _ _ _ _ us hl => match us, hl with | [_, _], _ => rfl) (fun ds G Q E h => by unfold sp_comes_to_none at h; split at h <;> first | rfl | exact h.elim) ⟨t_comes_to_none, fun cdv A outer s H E hr => ?_, vc_comes_to_none⟩
  have nd := (sc_comes_to_none).nd
  have pas := pas_of (P := P) (w := w) (K := K) (mg := mg) (base := base) (N := N_comes_to_none) (qual := (Str.ofString "comes_to_none")) (scope := defScope s_comes_to_none) (f := (He.fAd K ((Str.ofString "comes_to_none"), none))) (cdv := cdv) (A := A) (outer := outer) (s := s) (H := H) (E := E)
  exact (scons_ (set_ 2 (v_ 1) nd)
    (scons_ (for_ (.n 3) pas rfl (irng1_ T.f_range (cons_ (bf_ b_len T.f_len (by decide +kernel) (cons_ (v_ 0) nil_)) nil_)) (tg1_ 3 nd) (scons_ (set_ 2 (ix_ (v_ 0) (v_ 2) (fun _ _ => rfl)) nd)
    (sone_ (sif_ (tcm_ o_is (v_ 2) cn_ (nomark _)) (sone_ (ret_ cb_)) snil_))))
    (sone_ (ret_ cb_))))
set_option maxHeartbeats 4000000 in
theorem sc_is_integer : FnScope N_is_integer [(Str.ofString "thing")] (defScope s_is_integer) := ⟨rfl, rfl, rfl, by decide +kernel, rfl, by decide +kernel, by decide +kernel⟩
theorem F_is_integer (T : Tx w K mg) : Fn3 P w K mg base (Str.ofString "is_integer") 1 sp_is_integer := by
  obtain ⟨fd, F⟩ := T.d_is_integer
  refine fn3 T.g_is_integer F sc_is_integer (FunD.bindsN F fun _ _ _ _ _ _ us hl => match us, hl with | [_], _ => rfl) (fun ds G Q E h => by unfold sp_is_integer at h; split at h <;> first | rfl | exact h.elim) ⟨t_is_integer, fun cdv A outer s H E hr => ?_, vc_is_integer⟩
  have nd := (sc_is_integer).nd
  exact (sone_ (ret_ (and_ (isi_ T.f_isinstance (isc_b .int T.f_int) (tb_b T.isf .int) (v_ 0)) (one_ (not_ (isi_ T.f_isinstance (isc_b .bl T.f_bool) (tb_b T.isf .bl) (v_ 0)))))))
set_option maxHeartbeats 4000000 in
theorem sc_is_within : FnScope N_is_within [(Str.ofString "thing"), (Str.ofString "least"), (Str.ofString "most")] (defScope s_is_within) := ⟨rfl, rfl, rfl, by decide +kernel, rfl, by decide +kernel, by decide +kernel⟩
theorem F_is_within (T : Tx w K mg) : Fn3 P w K mg base (Str.ofString "is_within") 2 sp_is_within := by
  obtain ⟨fd, F⟩ := T.d_is_within
  refine fn3 T.g_is_within F sc_is_within (FunD.bindsN F fun _ _ _ _ _ _ us hl => match us, hl with | [_, _, _], _ => rfl) (fun ds G Q E h => by unfold sp_is_within at h; split at h <;> first | rfl | exact h.elim) ⟨t_is_within, fun cdv A outer s H E hr => ?_, vc_is_within⟩
  have nd := (sc_is_within).nd
  have tk := tk_of (P := P) (w := w) (K := K) (mg := mg) (base := base) (N := N_is_within) (qual := (Str.ofString "is_within")) (scope := defScope s_is_within) (f := (He.fAd K ((Str.ofString "is_within"), none))) (cdv := cdv) (A := A) (outer := outer) (s := s) (H := H) (E := E)
  exact (sone_ (ret_ (and_ (call_ (F_is_integer T) hr (by decide) tk (cons_ (v_ 0) nil_)) (one_ (ch_ o_le o_le (v_ 1) (v_ 0) (v_ 2))))))
set_option maxHeartbeats 4000000 in
theorem sc_is_below : FnScope N_is_below [(Str.ofString "thing"), (Str.ofString "many")] (defScope s_is_below) := ⟨rfl, rfl, rfl, by decide +kernel, rfl, by decide +kernel, by decide +kernel⟩
theorem F_is_below (T : Tx w K mg) : Fn3 P w K mg base (Str.ofString "is_below") 3 sp_is_below := by
  obtain ⟨fd, F⟩ := T.d_is_below
  refine fn3 T.g_is_below F sc_is_below (FunD.bindsN F fun _ _ _ _ _ _ us hl => match us, hl with | [_, _], _ => rfl) (fun ds G Q E h => by unfold sp_is_below at h; split at h <;> first | rfl | exact h.elim) ⟨t_is_below, fun cdv A outer s H E hr => ?_, vc_is_below⟩
  have nd := (sc_is_below).nd
  have tk := tk_of (P := P) (w := w) (K := K) (mg := mg) (base := base) (N := N_is_below) (qual := (Str.ofString "is_below")) (scope := defScope s_is_below) (f := (He.fAd K ((Str.ofString "is_below"), none))) (cdv := cdv) (A := A) (outer := outer) (s := s) (H := H) (E := E)
  exact (sone_ (ret_ (call_ (F_is_within T) hr (by decide) tk (cons_ (v_ 0) (cons_ ci_ (cons_ (op_ o_sub (v_ 1) ci_) nil_))))))
set_option maxHeartbeats 4000000 in
theorem sc_is_sized : FnScope N_is_sized [(Str.ofString "thing"), (Str.ofString "least"), (Str.ofString "most")] (defScope s_is_sized) := ⟨rfl, rfl, rfl, by decide +kernel, rfl, by decide +kernel, by decide +kernel⟩
theorem F_is_sized (T : Tx w K mg) : Fn3 P w K mg base (Str.ofString "is_sized") 1 sp_is_sized := by
  obtain ⟨fd, F⟩ := T.d_is_sized
  refine fn3 T.g_is_sized F sc_is_sized (FunD.bindsN F fun _ _ _ _ _ _ us hl => match us, hl with | [_, _, _], _ => rfl) (fun ds G Q E h => by unfold sp_is_sized at h; split at h <;> first | rfl | exact h.elim) ⟨t_is_sized, fun cdv A outer s H E hr => ?_, vc_is_sized⟩
  have nd := (sc_is_sized).nd
  exact (sone_ (ret_ (and_ (isi_ T.f_isinstance (isc_b .tup T.f_tuple) (tb_b T.isf .tup) (v_ 0)) (one_ (ch_ o_le o_le (v_ 1) (bf_ b_len T.f_len (by decide +kernel) (cons_ (v_ 0) nil_)) (v_ 2))))))
set_option maxHeartbeats 4000000 in
theorem sc_are_parents : FnScope N_are_parents [(Str.ofString "thing")] (defScope s_are_parents) := ⟨rfl, rfl, rfl, by decide +kernel, rfl, by decide +kernel, by decide +kernel⟩
theorem F_are_parents (T : Tx w K mg) : Fn3 P w K mg base (Str.ofString "are_parents") 4 sp_are_parents := by
  obtain ⟨fd, F⟩ := T.d_are_parents
  refine fn3 T.g_are_parents F sc_are_parents (FunD.bindsN F fun _ _ _ _ _ _ us hl => match us, hl with | [_], _ => rfl) (fun ds G Q E h => by unfold sp_are_parents at h; split at h <;> first | rfl | exact h.elim) ⟨t_are_parents, fun cdv A outer s H E hr => ?_, vc_are_parents⟩
  have nd := (sc_are_parents).nd
  have tk := tk_of (P := P) (w := w) (K := K) (mg := mg) (base := base) (N := N_are_parents) (qual := (Str.ofString "are_parents")) (scope := defScope s_are_parents) (f := (He.fAd K ((Str.ofString "are_parents"), none))) (cdv := cdv) (A := A) (outer := outer) (s := s) (H := H) (E := E)
  exact (scons_ (sif_ (tnot_ (tv_ (call_ (F_is_sized T) hr (by decide) tk (cons_ (v_ 0) (cons_ ci_ (cons_ (cgi_ T.i_MOST_HOUSES) nil_)))))) (sone_ (ret_ cb_)) snil_)
    (scons_ (sif_ (tnot_ (tv_ (bf_ (b_all rfl) T.f_all (by decide +kernel) (cons_ (lc_ (own := [((Str.ofString "item"), 2)]) false (.n 2) rfl nd (iseq_ (v_ 0)) (blkOk_by (N := N_are_parents) (sc := (defScope s_are_parents)) (by decide +kernel)) (by decide) (fun _ _ _ _ _ => (tg1_ 2 nd)) (fun _ _ _ _ _ => no_if) (fun _ _ _ _ _ => (or_ (cm_ o_is (v_ 2) cn_ (nomark _)) (one_ (call_ (F_is_below T) hr (by decide) takes_none5 (cons_ (v_ 2) (cons_ (bf_ b_len T.f_len (by decide +kernel) (cons_ (v_ 0) nil_)) nil_))))))) nil_)))) (sone_ (ret_ cb_)) snil_)
    (sone_ (ret_ (bf_ (b_all rfl) T.f_all (by decide +kernel) (cons_ (lc_ (own := [((Str.ofString "house"), 1)]) false (.n 1) rfl nd (irng1_ T.f_range (cons_ (bf_ b_len T.f_len (by decide +kernel) (cons_ (v_ 0) nil_)) nil_)) (blkOk_by (N := N_are_parents) (sc := (defScope s_are_parents)) (by decide +kernel)) (by decide) (fun _ _ _ _ _ => (tg1_ 1 nd)) (fun _ _ _ _ _ => no_if) (fun _ _ _ _ _ => (call_ (F_comes_to_none T) hr (by decide) takes_none5 (cons_ (v_ 0) (cons_ (v_ 1) nil_))))) nil_))))))
set_option maxHeartbeats 4000000 in
theorem sc_Forest___init__ : FnScope N_Forest___init__ [(Str.ofString "self"), (Str.ofString "parents"), (Str.ofString "worths")] (defScope s_Forest___init__) := ⟨rfl, rfl, rfl, by decide +kernel, rfl, by decide +kernel, by decide +kernel⟩
theorem F_Forest___init__ (T : Tx w K mg) : Mn3 P w K mg base (He.fAd K ((Str.ofString "Forest"), some (Str.ofString "__init__"))) 5 sp_Forest___init__ := by
  obtain ⟨fd, F⟩ := T.d_Forest___init__
  refine ⟨fd, _, (FunD.bindsN F fun _ _ _ _ _ _ us hl => match us, hl with | [_, _, _], _ => rfl), fn3_of F sc_Forest___init__ (fun ds G Q E h => by unfold sp_Forest___init__ at h; split at h <;> first | rfl | exact h.elim) ⟨t_Forest___init__, fun cdv A outer s H E hr => ?_, vc_Forest___init__⟩⟩
  have nd := (sc_Forest___init__).nd
  have tk := tk_of (P := P) (w := w) (K := K) (mg := mg) (base := base) (N := N_Forest___init__) (qual := (Str.ofString "Forest.__init__")) (scope := defScope s_Forest___init__) (f := (He.fAd K ((Str.ofString "Forest"), some (Str.ofString "__init__")))) (cdv := cdv) (A := A) (outer := outer) (s := s) (H := H) (E := E)
  exact (scons_ (sif_ (tnot_ (tv_ (call_ (F_are_parents T) hr (by decide) tk (cons_ (v_ 1) nil_)))) (sone_ sdead_) snil_)
    (scons_ (sif_ (tw_ (wor_ (tnot_ (tv_ (call_ (F_is_sized T) hr (by decide) tk (cons_ (v_ 2) (cons_ (bf_ b_len T.f_len (by decide +kernel) (cons_ (v_ 1) nil_)) (cons_ (bf_ b_len T.f_len (by decide +kernel) (cons_ (v_ 1) nil_)) nil_)))))) (w1or_ (tnot_ (tv_ (bf_ (b_all rfl) T.f_all (by decide +kernel) (cons_ (lc_ (own := [((Str.ofString "value"), 3)]) false (.n 3) rfl nd (iseq_ (v_ 2)) (blkOk_by (N := N_Forest___init__) (sc := (defScope s_Forest___init__)) (by decide +kernel)) (by decide) (fun _ _ _ _ _ => (tg1_ 3 nd)) (fun _ _ _ _ _ => no_if) (fun _ _ _ _ _ => (call_ (F_is_integer T) hr (by decide) takes_none5 (cons_ (v_ 3) nil_)))) nil_))))))) (sone_ sdead_) snil_)
    (scons_ (sfld_ (Str.ofString "Forest") T.c_Forest T.n_Forest_parents (v_ 0) (v_ 1))
    (sone_ (sfld_ (Str.ofString "Forest") T.c_Forest T.n_Forest_worths (v_ 0) (v_ 2))))))
set_option maxHeartbeats 4000000 in
theorem sc__law_deep : FnScope N__law_deep [(Str.ofString "_law_kind")] (defScope s__law_deep) := ⟨rfl, rfl, rfl, by decide +kernel, rfl, by decide +kernel, by decide +kernel⟩
theorem F__law_deep (T : Tx w K mg) : Fn3 P w K mg base (Str.ofString "_law_deep") 1 sp__law_deep := by
  obtain ⟨fd, F⟩ := T.d__law_deep
  refine fn3 T.g__law_deep F sc__law_deep (FunD.bindsN F fun _ _ _ _ _ _ us hl => match us, hl with | [_], _ => rfl) (fun ds G Q E h => by unfold sp__law_deep at h; split at h <;> first | rfl | exact h.elim) ⟨t__law_deep, fun cdv A outer s H E hr => ?_, vc__law_deep⟩
  have nd := (sc__law_deep).nd
  have pas := pas_of (P := P) (w := w) (K := K) (mg := mg) (base := base) (N := N__law_deep) (qual := (Str.ofString "_law_deep")) (scope := defScope s__law_deep) (f := (He.fAd K ((Str.ofString "_law_deep"), none))) (cdv := cdv) (A := A) (outer := outer) (s := s) (H := H) (E := E)
  exact (scons_ (set_ 1 cn_ nd)
    (scons_ (for_ (.n 2) pas rfl (irng1_ T.f_range (cons_ ci_ nil_)) (tg1_ 2 nd) (sone_ (set_ 1 (if_ (tcm_ (o_eq hr) (v_ 0) ci_ (nomark _)) (lst_ false (cons_ (v_ 1) nil_)) (tup_ (cons_ (v_ 1) nil_))) nd)))
    (sone_ (ret_ (v_ 1)))))
set_option maxHeartbeats 4000000 in
theorem sc__law_draw : FnScope N__law_draw [(Str.ofString "_law_hand_here"), (Str.ofString "_law_many")] (defScope s__law_draw) := ⟨rfl, rfl, rfl, by decide +kernel, rfl, by decide +kernel, by decide +kernel⟩
theorem F__law_draw (T : Tx w K mg) : Fn3 P w K mg base (Str.ofString "_law_draw") 1 sp__law_draw := by
  obtain ⟨fd, F⟩ := T.d__law_draw
  refine fn3 T.g__law_draw F sc__law_draw (FunD.bindsN F fun _ _ _ _ _ _ us hl => match us, hl with | [_, _], _ => rfl) (fun ds G Q E h => by unfold sp__law_draw at h; split at h <;> first | rfl | exact h.elim) ⟨t__law_draw, fun cdv A outer s H E hr => ?_, vc__law_draw⟩
  have nd := (sc__law_draw).nd
  exact (scons_ (sif_ (tw_ (wand_ (tcm_ (o_eq hr) (ix_ (v_ 0) ci_ (fun _ _ => rfl)) ci_ (nomark _)) (w1and_ (tcm_ o_lt (ix_ (v_ 0) ci_ (fun _ _ => rfl)) (bf_ b_len T.f_len (by decide +kernel) (cons_ (ix_ (v_ 0) ci_ (fun _ _ => rfl)) nil_)) (nomark _))))) (scons_ (set_ 3 (ix_ (ix_ (v_ 0) ci_ (fun _ _ => rfl)) (ix_ (v_ 0) ci_ (fun _ _ => rfl)) (fun _ _ => rfl)) nd)
    (scons_ (setIx_ se_list (v_ 0) ci_ (op_ (o_add false) (ix_ (v_ 0) ci_ (fun _ _ => rfl)) ci_))
    (scons_ (setIx_ se_list (v_ 0) ci_ (op_ o_mod (bt_ b_int T.f_int (by decide +kernel) (cons_ (op_ (o_add false) (op_ (o_add false) (op_ (o_mul false) (ix_ (v_ 0) ci_ (fun _ _ => rfl)) ci_) (v_ 3)) ci_) nil_)) ci_))
    (sone_ (sif_ (tcm_ o_ge (v_ 3) (op_ o_pow ci_ ci_) (nomark _)) (sone_ (setIx_ se_list (v_ 0) ci_ (v_ 3))) snil_))))) snil_)
    (scons_ (sif_ (tcm_ o_gt (ix_ (v_ 0) ci_ (fun _ _ => rfl)) ci_ (nomark _)) (scons_ (set_ 4 (op_ o_mod (bt_ b_int T.f_int (by decide +kernel) (cons_ (ix_ (v_ 0) ci_ (fun _ _ => rfl)) nil_)) (v_ 1)) nd)
    (scons_ (setIx_ se_list (v_ 0) ci_ (op_ o_fdiv (ix_ (v_ 0) ci_ (fun _ _ => rfl)) (v_ 1)))
    (sone_ (ret_ (v_ 4))))) snil_)
    (scons_ (setIx_ se_list (v_ 0) ci_ (op_ (o_add false) (ix_ (v_ 0) ci_ (fun _ _ => rfl)) ci_))
    (scons_ (set_ 2 (op_ o_mod (bt_ b_int T.f_int (by decide +kernel) (cons_ (op_ (o_mul false) (bt_ b_int T.f_int (by decide +kernel) (cons_ (op_ (o_add false) (ix_ (v_ 0) ci_ (fun _ _ => rfl)) (op_ (o_mul false) ci_ (ix_ (v_ 0) ci_ (fun _ _ => rfl)))) nil_)) ci_) nil_)) ci_) nd)
    (scons_ (set_ 2 (op_ o_mod (bt_ b_int T.f_int (by decide +kernel) (cons_ (op_ (o_mul false) (v_ 2) (op_ (o_add false) (op_ o_fdiv (v_ 2) ci_) ci_)) nil_)) ci_) nd)
    (scons_ (set_ 2 (op_ o_mod (bt_ b_int T.f_int (by decide +kernel) (cons_ (op_ (o_mul false) (v_ 2) (op_ (o_add false) (op_ o_fdiv (v_ 2) ci_) ci_)) nil_)) ci_) nd)
    (sone_ (ret_ (op_ o_mod (bt_ b_int T.f_int (by decide +kernel) (cons_ (op_ o_fdiv (v_ 2) ci_) nil_)) (v_ 1))))))))))
set_option maxHeartbeats 4000000 in
theorem sc__law_some : FnScope N__law_some [(Str.ofString "_law_hand_here"), (Str.ofString "_law_things")] (defScope s__law_some) := ⟨rfl, rfl, rfl, by decide +kernel, rfl, by decide +kernel, by decide +kernel⟩
theorem F__law_some (T : Tx w K mg) : Fn3 P w K mg base (Str.ofString "_law_some") 2 sp__law_some := by
  obtain ⟨fd, F⟩ := T.d__law_some
  refine fn3 T.g__law_some F sc__law_some (FunD.bindsN F fun _ _ _ _ _ _ us hl => match us, hl with | [_, _], _ => rfl) (fun ds G Q E h => by unfold sp__law_some at h; split at h <;> first | rfl | exact h.elim) ⟨t__law_some, fun cdv A outer s H E hr => ?_, vc__law_some⟩
  have nd := (sc__law_some).nd
  have tk := tk_of (P := P) (w := w) (K := K) (mg := mg) (base := base) (N := N__law_some) (qual := (Str.ofString "_law_some")) (scope := defScope s__law_some) (f := (He.fAd K ((Str.ofString "_law_some"), none))) (cdv := cdv) (A := A) (outer := outer) (s := s) (H := H) (E := E)
  exact (sone_ (ret_ (ix_ (v_ 1) (call_ (F__law_draw T) hr (by decide) tk (cons_ (v_ 0) (cons_ (bf_ b_len T.f_len (by decide +kernel) (cons_ (v_ 1) nil_)) nil_))) (fun _ _ => rfl))))
set_option maxHeartbeats 4000000 in
theorem sc__law_bent : FnScope N__law_bent [(Str.ofString "_law_hand_here"), (Str.ofString "_law_shape_here"), (Str.ofString "_law_strange")] (defScope s__law_bent) := ⟨rfl, rfl, rfl, by decide +kernel, rfl, by decide +kernel, by decide +kernel⟩
theorem F__law_bent (T : Tx w K mg) : Fn3 P w K mg base (Str.ofString "_law_bent") 3 sp__law_bent := by
  obtain ⟨fd, F⟩ := T.d__law_bent
  refine fn3 T.g__law_bent F sc__law_bent (FunD.bindsN F fun _ _ _ _ _ _ us hl => match us, hl with | [_, _, _], _ => rfl) (fun ds G Q E h => by unfold sp__law_bent at h; split at h <;> first | rfl | exact h.elim) ⟨t__law_bent, fun cdv A outer s H E hr => ?_, vc__law_bent⟩
  have nd := (sc__law_bent).nd
  have tk := tk_of (P := P) (w := w) (K := K) (mg := mg) (base := base) (N := N__law_bent) (qual := (Str.ofString "_law_bent")) (scope := defScope s__law_bent) (f := (He.fAd K ((Str.ofString "_law_bent"), none))) (cdv := cdv) (A := A) (outer := outer) (s := s) (H := H) (E := E)
  exact (scons_ (par_ 8 9 rfl nd (cons_ (call_ (F__law_draw T) hr (by decide) tk (cons_ (v_ 0) (cons_ (bf_ b_len T.f_len (by decide +kernel) (cons_ (v_ 1) nil_)) nil_))) (cons_ (call_ (F__law_draw T) hr (by decide) tk (cons_ (v_ 0) (cons_ ci_ nil_))) nil_)))
    (scons_ (set_ 3 (lst_ false (cons_ cn_ (cons_ ci_ (cons_ (op_ o_sub (bf_ b_len T.f_len (by decide +kernel) (cons_ (v_ 1) nil_)) ci_) (cons_ (bf_ b_len T.f_len (by decide +kernel) (cons_ (v_ 1) nil_)) (cons_ (neg_ ci_) (cons_ cb_ (cons_ cb_ (cons_ ci_ (cons_ cs_ (cons_ (tup_ (cons_ ci_ nil_)) (cons_ (lst_ false nil_) (cons_ (v_ 8) (cons_ (call_ (F__law_draw T) hr (by decide) tk (cons_ (v_ 0) (cons_ (bf_ b_len T.f_len (by decide +kernel) (cons_ (v_ 1) nil_)) nil_))) nil_)))))))))))))) nd)
    (scons_ (set_ 4 (ix_ (v_ 1) (v_ 8) (fun _ _ => rfl)) nd)
    (scons_ (set_ 5 (op_ (o_add false) (op_ (o_add false) (sl_ false (v_ 4) on_ (os_ (v_ 9))) (tup_ (cons_ (call_ (F__law_some T) hr (by decide) tk (cons_ (v_ 0) (cons_ (op_ (o_add false) (v_ 3) (lst_ false (cons_ (call_ (F__law_deep T) hr (by decide) tk (cons_ ci_ nil_)) (cons_ (v_ 2) nil_)))) nil_))) nil_))) (sl_ false (v_ 4) (os_ (op_ (o_add false) (v_ 9) ci_)) on_)) nd)
    (scons_ (set_ 5 (call_ (F__law_some T) hr (by decide) tk (cons_ (v_ 0) (cons_ (op_ (o_add false) (op_ (o_mul false) (lst_ false (cons_ (v_ 5) nil_)) ci_) (lst_ false (cons_ (sl_ false (v_ 4) on_ (os_ ci_)) (cons_ (op_ (o_add false) (v_ 4) (tup_ (cons_ ci_ nil_))) (cons_ (bt_ (b_list false) T.f_list (by decide +kernel) (cons_ (v_ 4) nil_)) (cons_ cn_ nil_)))))) nil_))) nd)
    (scons_ (set_ 6 (op_ (o_add false) (op_ (o_add false) (sl_ false (v_ 1) on_ (os_ (v_ 8))) (tup_ (cons_ (v_ 5) nil_))) (sl_ false (v_ 1) (os_ (op_ (o_add false) (v_ 8) ci_)) on_)) nd)
    (scons_ (set_ 7 (op_ (o_add true) (op_ (o_mul false) (lst_ false (cons_ (v_ 6) nil_)) ci_) (lst_ false (cons_ (bt_ (b_list false) T.f_list (by decide +kernel) (cons_ (v_ 1) nil_)) (cons_ (sl_ false (v_ 1) on_ (os_ (neg_ ci_))) (cons_ (op_ (o_add false) (v_ 1) (tup_ (cons_ (v_ 4) nil_))) (cons_ (tup_ nil_) (cons_ cn_ (cons_ ci_ (cons_ emp_ (cons_ (call_ (F__law_deep T) hr (by decide) tk (cons_ ci_ nil_)) nil_)))))))))) nd)
    (scons_ (expr_ (m_ PySem.F.plainAttrs_list PySem.F.slot_list_append PySem.F.type_list_append ty_list me_append (v_ 7) (cons_ (v_ 2) nil_)))
    (sone_ (ret_ (call_ (F__law_some T) hr (by decide) tk (cons_ (v_ 0) (cons_ (op_ (o_add false) (v_ 7) (lst_ false (cons_ (op_ (o_mul false) (tup_ (cons_ (tup_ (cons_ cn_ (cons_ cn_ (cons_ cn_ (cons_ cb_ (cons_ ci_ (cons_ ci_ nil_))))))) nil_)) (call_ (F__law_some T) hr (by decide) tk (cons_ (v_ 0) (cons_ (lst_ false (cons_ ci_ (cons_ ci_ nil_))) nil_)))) nil_))) nil_)))))))))))))
set_option maxHeartbeats 4000000 in
theorem sc__law_hand : FnScope N__law_hand [(Str.ofString "_law_script")] (defScope s__law_hand) := ⟨rfl, rfl, rfl, by decide +kernel, rfl, by decide +kernel, by decide +kernel⟩
theorem F__law_hand (T : Tx w K mg) : Fn3 P w K mg base (Str.ofString "_law_hand") 1 sp__law_hand := by
  obtain ⟨fd, F⟩ := T.d__law_hand
  refine fn3 T.g__law_hand F sc__law_hand (FunD.bindsN F fun _ _ _ _ _ _ us hl => match us, hl with | [_], _ => rfl) (fun ds G Q E h => by unfold sp__law_hand at h; split at h <;> first | rfl | exact h.elim) ⟨t__law_hand, fun cdv A outer s H E hr => ?_, vc__law_hand⟩
  have nd := (sc__law_hand).nd
  exact (scons_ (setLc_ (own := [((Str.ofString "_law_cell"), 2)]) 1 false (.n 2) rfl nd (iseq_ (sl_ false (v_ 0) on_ (os_ ci_))) (blkOk_by (N := N__law_hand) (sc := defScope s__law_hand) (by decide +kernel)) (by decide) (fun _ _ _ _ _ => (tg1_ 2 nd)) (fun _ _ _ _ _ => no_if) (fun _ _ _ _ _ => (bf_ b_abs T.f_abs (by decide +kernel) (cons_ (bt_ b_int T.f_int (by decide +kernel) (cons_ (v_ 2) nil_)) nil_))) (sw_true rfl rfl rfl (by decide +kernel)))
    (sone_ (ret_ (lst_ true (cons_ (v_ 1) (cons_ ci_ (cons_ ci_ (cons_ (op_ (o_add false) ci_ (bf_ b_len T.f_len (by decide +kernel) (cons_ (v_ 1) nil_))) (cons_ ci_ nil_)))))))))
set_option maxHeartbeats 4000000 in
theorem sc__law_is_number : FnScope N__law_is_number [(Str.ofString "_law_thing"), (Str.ofString "_law_many")] (defScope s__law_is_number) := ⟨rfl, rfl, rfl, by decide +kernel, rfl, by decide +kernel, by decide +kernel⟩
theorem F__law_is_number (T : Tx w K mg) : Fn3 P w K mg base (Str.ofString "_law_is_number") 1 sp__law_is_number := by
  obtain ⟨fd, F⟩ := T.d__law_is_number
  refine fn3 T.g__law_is_number F sc__law_is_number (FunD.bindsN F fun _ _ _ _ _ _ us hl => match us, hl with | [_, _], _ => rfl) (fun ds G Q E h => by unfold sp__law_is_number at h; split at h <;> first | rfl | exact h.elim) ⟨t__law_is_number, fun cdv A outer s H E hr => ?_, vc__law_is_number⟩
  have nd := (sc__law_is_number).nd
  exact (sone_ (ret_ (and_ (isi_ T.f_isinstance (isc_b .int T.f_int) (tb_b T.isf .int) (v_ 0)) (and_ (not_ (isi_ T.f_isinstance (isc_b .bl T.f_bool) (tb_b T.isf .bl) (v_ 0))) (one_ (ch_ o_le o_lt ci_ (v_ 0) (v_ 1)))))))
set_option maxHeartbeats 4000000 in
theorem sc__law_is_integer : FnScope N__law_is_integer [(Str.ofString "_law_thing")] (defScope s__law_is_integer) := ⟨rfl, rfl, rfl, by decide +kernel, rfl, by decide +kernel, by decide +kernel⟩
theorem F__law_is_integer (T : Tx w K mg) : Fn3 P w K mg base (Str.ofString "_law_is_integer") 1 sp__law_is_integer := by
  obtain ⟨fd, F⟩ := T.d__law_is_integer
  refine fn3 T.g__law_is_integer F sc__law_is_integer (FunD.bindsN F fun _ _ _ _ _ _ us hl => match us, hl with | [_], _ => rfl) (fun ds G Q E h => by unfold sp__law_is_integer at h; split at h <;> first | rfl | exact h.elim) ⟨t__law_is_integer, fun cdv A outer s H E hr => ?_, vc__law_is_integer⟩
  have nd := (sc__law_is_integer).nd
  exact (sone_ (ret_ (and_ (isi_ T.f_isinstance (isc_b .int T.f_int) (tb_b T.isf .int) (v_ 0)) (one_ (not_ (isi_ T.f_isinstance (isc_b .bl T.f_bool) (tb_b T.isf .bl) (v_ 0)))))))
set_option maxHeartbeats 4000000 in
theorem sc__law_is_shape : FnScope N__law_is_shape [(Str.ofString "_law_thing")] (defScope s__law_is_shape) := ⟨rfl, rfl, rfl, by decide +kernel, rfl, by decide +kernel, by decide +kernel⟩
theorem F__law_is_shape (T : Tx w K mg) : Fn3 P w K mg base (Str.ofString "_law_is_shape") 2 sp__law_is_shape := by
  obtain ⟨fd, F⟩ := T.d__law_is_shape
  refine fn3 T.g__law_is_shape F sc__law_is_shape (FunD.bindsN F fun _ _ _ _ _ _ us hl => match us, hl with | [_], _ => rfl) (fun ds G Q E h => by unfold sp__law_is_shape at h; split at h <;> first | rfl | exact h.elim) ⟨t__law_is_shape, fun cdv A outer s H E hr => ?_, vc__law_is_shape⟩
  have nd := (sc__law_is_shape).nd
  have tk := tk_of (P := P) (w := w) (K := K) (mg := mg) (base := base) (N := N__law_is_shape) (qual := (Str.ofString "_law_is_shape")) (scope := defScope s__law_is_shape) (f := (He.fAd K ((Str.ofString "_law_is_shape"), none))) (cdv := cdv) (A := A) (outer := outer) (s := s) (H := H) (E := E)
  have pas := pas_of (P := P) (w := w) (K := K) (mg := mg) (base := base) (N := N__law_is_shape) (qual := (Str.ofString "_law_is_shape")) (scope := defScope s__law_is_shape) (f := (He.fAd K ((Str.ofString "_law_is_shape"), none))) (cdv := cdv) (A := A) (outer := outer) (s := s) (H := H) (E := E)
  exact (scons_ (sif_ (tw_ (wor_ (tnot_ (tv_ (isi_ T.f_isinstance (isc_b .tup T.f_tuple) (tb_b T.isf .tup) (v_ 0)))) (w1or_ (tnot_ (tch_ o_le o_le ci_ (bf_ b_len T.f_len (by decide +kernel) (cons_ (v_ 0) nil_)) ci_))))) (sone_ (ret_ cb_)) snil_)
    (scons_ (set_ 1 (bf_ b_len T.f_len (by decide +kernel) (cons_ (v_ 0) nil_)) nd)
    (scons_ (for_ (.n 2) pas rfl (iseq_ (v_ 0)) (tg1_ 2 nd) (scons_ (sif_ (tw_ (wor_ (tnot_ (tv_ (isi_ T.f_isinstance (isc_b .tup T.f_tuple) (tb_b T.isf .tup) (v_ 2)))) (wor_ (tcm_ (o_ne hr) (bf_ b_len T.f_len (by decide +kernel) (cons_ (v_ 2) nil_)) ci_ (nomark _)) (w1or_ (tnot_ (tv_ (isi_ T.f_isinstance (isc_b .bl T.f_bool) (tb_b T.isf .bl) (ix_ (v_ 2) ci_ (fun _ _ => rfl))))))))) (sone_ (ret_ cb_)) snil_)
    (scons_ (sif_ (tnot_ (tv_ (bf_ (b_all rfl) T.f_all (by decide +kernel) (cons_ (lc_ (own := [((Str.ofString "_law_house"), 3)]) false (.n 3) rfl nd (iseq_ (sl_ false (v_ 2) on_ (os_ ci_))) (blkOk_by (N := N__law_is_shape) (sc := (defScope s__law_is_shape)) (by decide +kernel)) (by decide) (fun _ _ _ _ _ => (tg1_ 3 nd)) (fun _ _ _ _ _ => no_if) (fun _ _ _ _ _ => (or_ (cm_ o_is (v_ 3) cn_ (nomark _)) (one_ (call_ (F__law_is_number T) hr (by decide) takes_none5 (cons_ (v_ 3) (cons_ (v_ 1) nil_))))))) nil_)))) (sone_ (ret_ cb_)) snil_)
    (sone_ (sif_ (tw_ (wor_ (tnot_ (tv_ (call_ (F__law_is_integer T) hr (by decide) tk (cons_ (ix_ (v_ 2) ci_ (fun _ _ => rfl)) nil_)))) (wor_ (tnot_ (tv_ (call_ (F__law_is_integer T) hr (by decide) tk (cons_ (ix_ (v_ 2) ci_ (fun _ _ => rfl)) nil_)))) (w1or_ (tw_ (wand_ (tcm_ o_isnot (ix_ (v_ 2) ci_ (fun _ _ => rfl)) cn_ (nomark _)) (w1and_ (tcm_ (o_eq hr) (ix_ (v_ 2) ci_ (fun _ _ => rfl)) (ix_ (v_ 2) ci_ (fun _ _ => rfl)) (nomark _))))))))) (sone_ (ret_ cb_)) snil_)))))
    (scons_ (for_ (.t [3, 2]) pas rfl (ienum_ T.f_enumerate (cons_ (v_ 0) nil_)) (tgt_ rfl (pgs_cons (tg1_ 3 nd) (pgs_cons (tg1_ 2 nd) pgs_nil))) (scons_ (sif_ (tnot_ (tv_ (bf_ (b_all rfl) T.f_all (by decide +kernel) (cons_ (lc_ (own := [((Str.ofString "_law_son"), 6)]) false (.n 6) rfl nd (iseq_ (sl_ false (v_ 2) (os_ ci_) (os_ ci_))) (blkOk_by (N := N__law_is_shape) (sc := (defScope s__law_is_shape)) (by decide +kernel)) (by decide) (fun _ _ _ _ _ => (tg1_ 6 nd)) (fun _ _ _ _ _ => no_if) (fun _ _ _ _ _ => (or_ (cm_ o_is (v_ 6) cn_ (nomark _)) (one_ (cm_ (o_eq hr) (ix_ (ix_ (v_ 0) (v_ 6) (fun _ _ => rfl)) ci_ (fun _ _ => rfl)) (v_ 3) (nomark _)))))) nil_)))) (sone_ (ret_ cb_)) snil_)
    (scons_ (set_ 4 (v_ 3) nd)
    (scons_ (for_ (.n 5) pas rfl (irng1_ T.f_range (cons_ (v_ 1) nil_)) (tg1_ 5 nd) (sone_ (set_ 4 (if_ (tcm_ o_isnot (v_ 4) cn_ (nomark _)) (ix_ (ix_ (v_ 0) (v_ 4) (fun _ _ => rfl)) ci_ (fun _ _ => rfl)) cn_) nd)))
    (sone_ (sif_ (tcm_ o_isnot (v_ 4) cn_ (nomark _)) (sone_ (ret_ cb_)) snil_))))))
    (sone_ (ret_ cb_))))))
set_option maxHeartbeats 4000000 in
theorem sc__law_planted : FnScope N__law_planted [(Str.ofString "_law_hand_here"), (Str.ofString "_law_part"), (Str.ofString "_law_up"), (Str.ofString "_law_given"), (Str.ofString "_law_worths"), (Str.ofString "_law_here")] (defScope s__law_planted) := ⟨rfl, rfl, rfl, by decide +kernel, rfl, by decide +kernel, by decide +kernel⟩
theorem F__law_planted (T : Tx w K mg) : ∀ n : Nat, Fn3 P w K mg base (Str.ofString "_law_planted") (n + 3) (sp__law_planted n) := by
  obtain ⟨fd, F⟩ := T.d__law_planted
  have B := (FunD.bindsN (ps := [(Str.ofString "_law_hand_here"), (Str.ofString "_law_part"), (Str.ofString "_law_up"), (Str.ofString "_law_given"), (Str.ofString "_law_worths"), (Str.ofString "_law_here")]) F fun _ _ _ _ _ _ us hl => match us, hl with | [_, _, _, _, _, _], _ => rfl)
  intro n
  induction n with
  | zero => exact fn3 T.g__law_planted F sc__law_planted B (fun ds G Q E h => h.elim) ⟨sdead, fun cdv A outer s H E hr => ssdead_, fun ds G Q E h => h.elim⟩
  | succ n ih =>
    rw [show n + 1 + 3 = (n + 3) + 1 by omega]
    refine fn3 T.g__law_planted F sc__law_planted B (fun ds G Q E h => by unfold sp__law_planted at h; split at h <;> first | rfl | exact h.elim) ⟨t__law_planted (sp__law_planted n), fun cdv A outer s H E hr => ?_, vc__law_planted n⟩
    have nd := (sc__law_planted).nd
    have tk := tk_of (P := P) (w := w) (K := K) (mg := mg) (base := base) (N := N__law_planted) (qual := (Str.ofString "_law_planted")) (scope := defScope s__law_planted) (f := (He.fAd K ((Str.ofString "_law_planted"), none))) (cdv := cdv) (A := A) (outer := outer) (s := s) (H := H) (E := E)
    exact (scons_ (sif_ (tcm_ (o_eq hr) (bf_ b_len T.f_len (by decide +kernel) (cons_ (v_ 1) nil_)) ci_ (nomark _)) (sone_ (ret_ cn_)) snil_)
    (scons_ (par_ 10 11 rfl nd (cons_ (cm_ (o_eq hr) (call_ (F__law_draw T) hr (by omega) tk (cons_ (v_ 0) (cons_ ci_ nil_))) ci_ (nomark _)) (cons_ (call_ (F__law_some T) hr (by omega) tk (cons_ (v_ 0) (cons_ (lst_ false (cons_ ci_ (cons_ ci_ (cons_ ci_ (cons_ ci_ (cons_ (neg_ ci_) (cons_ ci_ nil_))))))) nil_))) nil_)))
    (scons_ (set_ 1 (if_ (tv_ (v_ 10)) (rev_ false (v_ 1)) (v_ 1)) nd)
    (scons_ (set_ 6 (call_ (F__law_some T) hr (by omega) tk (cons_ (v_ 0) (cons_ (lst_ false (cons_ ci_ (cons_ (op_ o_sub (bf_ b_len T.f_len (by decide +kernel) (cons_ (v_ 1) nil_)) ci_) (cons_ (call_ (F__law_draw T) hr (by omega) tk (cons_ (v_ 0) (cons_ (bf_ b_len T.f_len (by decide +kernel) (cons_ (v_ 1) nil_)) nil_))) (cons_ (call_ (F__law_draw T) hr (by omega) tk (cons_ (v_ 0) (cons_ (bf_ b_len T.f_len (by decide +kernel) (cons_ (v_ 1) nil_)) nil_))) nil_))))) nil_))) nd)
    (scons_ (set_ 7 (ix_ (v_ 1) (v_ 6) (fun _ _ => rfl)) nd)
    (scons_ (set_ 8 (call_ ih hr (by omega) tk (cons_ (v_ 0) (cons_ (sl_ false (v_ 1) on_ (os_ (v_ 6))) (cons_ (v_ 7) (cons_ (op_ (o_add false) (v_ 3) (v_ 11)) (cons_ (v_ 4) (cons_ (v_ 5) nil_))))))) nd)
    (scons_ (set_ 9 (call_ ih hr (by omega) tk (cons_ (v_ 0) (cons_ (sl_ false (v_ 1) (os_ (op_ (o_add false) (v_ 6) ci_)) on_) (cons_ (v_ 7) (cons_ (op_ (o_add false) (v_ 3) (v_ 11)) (cons_ (v_ 4) (cons_ (v_ 5) nil_))))))) nd)
    (scons_ (setIx_ se_list (v_ 5) (v_ 7) (lst_ true (cons_ (v_ 2) (cons_ (v_ 8) (cons_ (v_ 9) (cons_ (v_ 10) (cons_ (v_ 11) (cons_ (op_ o_sub (ix_ (v_ 4) (v_ 7) (fun _ _ => rfl)) (v_ 3)) nil_))))))))
    (sone_ (ret_ (v_ 7)))))))))))
set_option maxHeartbeats 4000000 in
theorem sc__law_shuffled : FnScope N__law_shuffled [(Str.ofString "_law_hand_here"), (Str.ofString "_law_things")] (defScope s__law_shuffled) := ⟨rfl, rfl, rfl, by decide +kernel, rfl, by decide +kernel, by decide +kernel⟩
theorem F__law_shuffled (T : Tx w K mg) : Fn3 P w K mg base (Str.ofString "_law_shuffled") 2 sp__law_shuffled := by
  obtain ⟨fd, F⟩ := T.d__law_shuffled
  refine fn3 T.g__law_shuffled F sc__law_shuffled (FunD.bindsN F fun _ _ _ _ _ _ us hl => match us, hl with | [_, _], _ => rfl) (fun ds G Q E h => by unfold sp__law_shuffled at h; split at h <;> first | rfl | exact h.elim) ⟨t__law_shuffled, fun cdv A outer s H E hr => ?_, vc__law_shuffled⟩
  have nd := (sc__law_shuffled).nd
  have tk := tk_of (P := P) (w := w) (K := K) (mg := mg) (base := base) (N := N__law_shuffled) (qual := (Str.ofString "_law_shuffled")) (scope := defScope s__law_shuffled) (f := (He.fAd K ((Str.ofString "_law_shuffled"), none))) (cdv := cdv) (A := A) (outer := outer) (s := s) (H := H) (E := E)
  have pas := pas_of (P := P) (w := w) (K := K) (mg := mg) (base := base) (N := N__law_shuffled) (qual := (Str.ofString "_law_shuffled")) (scope := defScope s__law_shuffled) (f := (He.fAd K ((Str.ofString "_law_shuffled"), none))) (cdv := cdv) (A := A) (outer := outer) (s := s) (H := H) (E := E)
  exact (scons_ (set_ 2 (bt_ (b_list true) T.f_list (by decide +kernel) (cons_ (v_ 1) nil_)) nd)
    (scons_ (set_ 3 (lst_ true nil_) nd)
    (scons_ (while_ pas (tcm_ o_gt (bf_ b_len T.f_len (by decide +kernel) (cons_ (v_ 2) nil_)) ci_ (nomark _)) (sone_ (expr_ (m_ PySem.F.plainAttrs_list PySem.F.slot_list_append PySem.F.type_list_append ty_list me_append (v_ 3) (cons_ (m_ PySem.F.plainAttrs_list PySem.F.slot_list_pop PySem.F.type_list_pop ty_list me_popAt (v_ 2) (cons_ (call_ (F__law_draw T) hr (by decide) tk (cons_ (v_ 0) (cons_ (bf_ b_len T.f_len (by decide +kernel) (cons_ (v_ 2) nil_)) nil_))) nil_)) nil_)))))
    (sone_ (ret_ (fz_ (v_ 3)))))))
set_option maxHeartbeats 4000000 in
theorem sc__law_rows_of : FnScope N__law_rows_of [(Str.ofString "_law_hand_here"), (Str.ofString "_law_parents")] (defScope s__law_rows_of) := ⟨rfl, rfl, rfl, by decide +kernel, rfl, by decide +kernel, by decide +kernel⟩
theorem F__law_rows_of (T : Tx w K mg) : Fn3 P w K mg base (Str.ofString "_law_rows_of") 3 sp__law_rows_of := by
  obtain ⟨fd, F⟩ := T.d__law_rows_of
  refine fn3 T.g__law_rows_of F sc__law_rows_of (FunD.bindsN F fun _ _ _ _ _ _ us hl => match us, hl with | [_, _], _ => rfl) (fun ds G Q E h => by unfold sp__law_rows_of at h; split at h <;> first | rfl | exact h.elim) ⟨t__law_rows_of, fun cdv A outer s H E hr => ?_, vc__law_rows_of⟩
  have nd := (sc__law_rows_of).nd
  have tk := tk_of (P := P) (w := w) (K := K) (mg := mg) (base := base) (N := N__law_rows_of) (qual := (Str.ofString "_law_rows_of")) (scope := defScope s__law_rows_of) (f := (He.fAd K ((Str.ofString "_law_rows_of"), none))) (cdv := cdv) (A := A) (outer := outer) (s := s) (H := H) (E := E)
  have pas := pas_of (P := P) (w := w) (K := K) (mg := mg) (base := base) (N := N__law_rows_of) (qual := (Str.ofString "_law_rows_of")) (scope := defScope s__law_rows_of) (f := (He.fAd K ((Str.ofString "_law_rows_of"), none))) (cdv := cdv) (A := A) (outer := outer) (s := s) (H := H) (E := E)
  exact (scons_ (par_ 4 5 rfl nd (cons_ (bf_ b_len T.f_len (by decide +kernel) (cons_ (v_ 1) nil_)) (cons_ (op_ (o_mul true) (lst_ false (cons_ cn_ nil_)) (bf_ b_len T.f_len (by decide +kernel) (cons_ (v_ 1) nil_))) nil_)))
    (scons_ (for_ (.n 2) pas rfl (iseq_ (call_ (F__law_shuffled T) hr (by decide) tk (cons_ (v_ 0) (cons_ (lrg_ false rfl T.f_list T.f_range (v_ 4)) nil_)))) (tg1_ 2 nd) (sone_ (sif_ (tw_ (wand_ (tcm_ o_isnot (ix_ (v_ 1) (v_ 2) (fun _ _ => rfl)) cn_ (nomark _)) (w1and_ (tcm_ o_gt (call_ (F__law_draw T) hr (by decide) tk (cons_ (v_ 0) (cons_ ci_ nil_))) ci_ (nomark _))))) (sone_ (setIx_ se_list (v_ 5) (ix_ (v_ 1) (v_ 2) (fun _ _ => rfl)) (v_ 2))) snil_)))
    (scons_ (set_ 3 (lst_ true nil_) nd)
    (scons_ (for_ (.n 2) pas rfl (irng1_ T.f_range (cons_ (v_ 4) nil_)) (tg1_ 2 nd) (sone_ (sif_ (tw_ (wor_ (tcm_ o_is (ix_ (v_ 1) (v_ 2) (fun _ _ => rfl)) cn_ (nomark _)) (w1or_ (tcm_ (o_ne hr) (ix_ (v_ 5) (ix_ (v_ 1) (v_ 2) (fun _ _ => rfl)) (fun _ _ => rfl)) (v_ 2) (nomark _))))) (scons_ (set_ 6 (lst_ true (cons_ (v_ 2) nil_)) nd)
    (scons_ (for_ (.n 7) pas rfl (irng1_ T.f_range (cons_ (v_ 4) nil_)) (tg1_ 7 nd) (sone_ (sif_ (tcm_ o_isnot (ix_ (v_ 5) (ix_ (v_ 6) (neg_ ci_) (fun _ _ => rfl)) (fun _ _ => rfl)) cn_ (nomark _)) (sone_ (expr_ (m_ PySem.F.plainAttrs_list PySem.F.slot_list_append PySem.F.type_list_append ty_list me_append (v_ 6) (cons_ (ix_ (v_ 5) (ix_ (v_ 6) (neg_ ci_) (fun _ _ => rfl)) (fun _ _ => rfl)) nil_)))) snil_)))
    (sone_ (expr_ (m_ PySem.F.plainAttrs_list PySem.F.slot_list_append PySem.F.type_list_append ty_list me_append (v_ 3) (cons_ (fz_ (v_ 6)) nil_)))))) snil_)))
    (sone_ (ret_ (fz_ (v_ 3))))))))
set_option maxHeartbeats 4000000 in
theorem sc__law_laid : FnScope N__law_laid [(Str.ofString "_law_hand_here"), (Str.ofString "_law_parents"), (Str.ofString "_law_worths")] (defScope s__law_laid) := ⟨rfl, rfl, rfl, by decide +kernel, rfl, by decide +kernel, by decide +kernel⟩
theorem F__law_laid (T : Tx w K mg) : Fn3 P w K mg base (Str.ofString "_law_laid") 70 sp__law_laid := by
  obtain ⟨fd, F⟩ := T.d__law_laid
  refine fn3 T.g__law_laid F sc__law_laid (FunD.bindsN F fun _ _ _ _ _ _ us hl => match us, hl with | [_, _, _], _ => rfl) (fun ds G Q E h => by unfold sp__law_laid at h; split at h <;> first | rfl | exact h.elim) ⟨t__law_laid, fun cdv A outer s H E hr => ?_, vc__law_laid⟩
  have nd := (sc__law_laid).nd
  have tk := tk_of (P := P) (w := w) (K := K) (mg := mg) (base := base) (N := N__law_laid) (qual := (Str.ofString "_law_laid")) (scope := defScope s__law_laid) (f := (He.fAd K ((Str.ofString "_law_laid"), none))) (cdv := cdv) (A := A) (outer := outer) (s := s) (H := H) (E := E)
  have pas := pas_of (P := P) (w := w) (K := K) (mg := mg) (base := base) (N := N__law_laid) (qual := (Str.ofString "_law_laid")) (scope := defScope s__law_laid) (f := (He.fAd K ((Str.ofString "_law_laid"), none))) (cdv := cdv) (A := A) (outer := outer) (s := s) (H := H) (E := E)
  exact (scons_ (set_ 3 (op_ (o_mul true) (lst_ false (cons_ (lst_ false nil_) nil_)) (bf_ b_len T.f_len (by decide +kernel) (cons_ (v_ 1) nil_))) nd)
    (scons_ (for_ (.n 4) pas rfl (iseq_ (call_ (F__law_rows_of T) hr (by decide) tk (cons_ (v_ 0) (cons_ (v_ 1) nil_)))) (tg1_ 4 nd) (sone_ (expr_ (call_ (F__law_planted T 66) hr (by decide) tk (cons_ (v_ 0) (cons_ (v_ 4) (cons_ (ix_ (v_ 1) (ix_ (v_ 4) ci_ (fun _ _ => rfl)) (fun _ _ => rfl)) (cons_ ci_ (cons_ (v_ 2) (cons_ (v_ 3) nil_))))))))))
    (sone_ (ret_ (v_ 3)))))
set_option maxHeartbeats 4000000 in
theorem sc__law_shape : FnScope N__law_shape [(Str.ofString "_law_here")] (defScope s__law_shape) := ⟨rfl, rfl, rfl, by decide +kernel, rfl, by decide +kernel, by decide +kernel⟩
theorem F__law_shape (T : Tx w K mg) : Fn3 P w K mg base (Str.ofString "_law_shape") 1 sp__law_shape := by
  obtain ⟨fd, F⟩ := T.d__law_shape
  refine fn3 T.g__law_shape F sc__law_shape (FunD.bindsN F fun _ _ _ _ _ _ us hl => match us, hl with | [_], _ => rfl) (fun ds G Q E h => by unfold sp__law_shape at h; split at h <;> first | rfl | exact h.elim) ⟨t__law_shape, fun cdv A outer s H E hr => ?_, vc__law_shape⟩
  have nd := (sc__law_shape).nd
  exact (sone_ (ret_ (bt_ b_tup T.f_tuple (by decide +kernel) (cons_ (lc_ (own := [((Str.ofString "_law_one"), 1)]) false (.n 1) rfl nd (iseq_ (v_ 0)) (blkOk_by (N := N__law_shape) (sc := (defScope s__law_shape)) (by decide +kernel)) (by decide) (fun _ _ _ _ _ => (tg1_ 1 nd)) (fun _ _ _ _ _ => no_if) (fun _ _ _ _ _ => (bt_ b_tup T.f_tuple (by decide +kernel) (cons_ (v_ 1) nil_)))) nil_))))
set_option maxHeartbeats 4000000 in
theorem sc__law_trees : FnScope N__law_trees [(Str.ofString "_law_hand_here"), (Str.ofString "_law_many")] (defScope s__law_trees) := ⟨rfl, rfl, rfl, by decide +kernel, rfl, by decide +kernel, by decide +kernel⟩
theorem F__law_trees (T : Tx w K mg) : Fn3 P w K mg base (Str.ofString "_law_trees") 3 sp__law_trees := by
  obtain ⟨fd, F⟩ := T.d__law_trees
  refine fn3 T.g__law_trees F sc__law_trees (FunD.bindsN F fun _ _ _ _ _ _ us hl => match us, hl with | [_, _], _ => rfl) (fun ds G Q E h => by unfold sp__law_trees at h; split at h <;> first | rfl | exact h.elim) ⟨t__law_trees, fun cdv A outer s H E hr => ?_, vc__law_trees⟩
  have nd := (sc__law_trees).nd
  have tk := tk_of (P := P) (w := w) (K := K) (mg := mg) (base := base) (N := N__law_trees) (qual := (Str.ofString "_law_trees")) (scope := defScope s__law_trees) (f := (He.fAd K ((Str.ofString "_law_trees"), none))) (cdv := cdv) (A := A) (outer := outer) (s := s) (H := H) (E := E)
  have pas := pas_of (P := P) (w := w) (K := K) (mg := mg) (base := base) (N := N__law_trees) (qual := (Str.ofString "_law_trees")) (scope := defScope s__law_trees) (f := (He.fAd K ((Str.ofString "_law_trees"), none))) (cdv := cdv) (A := A) (outer := outer) (s := s) (H := H) (E := E)
  exact (scons_ (par3_ 4 5 6 rfl nd (cons_ (call_ (F__law_shuffled T) hr (by decide) tk (cons_ (v_ 0) (cons_ (lrg_ false rfl T.f_list T.f_range (v_ 1)) nil_))) (cons_ (op_ (o_mul true) (lst_ false (cons_ cn_ nil_)) (v_ 1)) (cons_ (call_ (F__law_draw T) hr (by decide) tk (cons_ (v_ 0) (cons_ ci_ nil_))) nil_))))
    (scons_ (for_ (.n 2) pas rfl (irng2_ T.f_range (cons_ ci_ (cons_ (v_ 1) nil_))) (tg1_ 2 nd) (scons_ (set_ 7 (if_ (tw_ (wor_ (tcm_ (o_eq hr) (v_ 6) ci_ (nomark _)) (w1or_ (tw_ (wand_ (tcm_ (o_eq hr) (v_ 6) ci_ (nomark _)) (w1and_ (tcm_ o_gt (call_ (F__law_draw T) hr (by decide) tk (cons_ (v_ 0) (cons_ ci_ nil_))) ci_ (nomark _)))))))) (op_ o_sub (v_ 2) ci_) (call_ (F__law_draw T) hr (by decide) tk (cons_ (v_ 0) (cons_ (v_ 2) nil_)))) nd)
    (sone_ (sif_ (tw_ (wor_ (tcm_ (o_eq hr) (v_ 6) ci_ (nomark _)) (w1or_ (tcm_ o_gt (call_ (F__law_draw T) hr (by decide) tk (cons_ (v_ 0) (cons_ ci_ nil_))) ci_ (nomark _))))) (sone_ (setIx_ se_list (v_ 5) (ix_ (v_ 4) (v_ 2) (fun _ _ => rfl)) (ix_ (v_ 4) (v_ 7) (fun _ _ => rfl)))) snil_))))
    (scons_ (setLc_ (own := [((Str.ofString "_law_house"), 8)]) 3 false (.n 8) rfl nd (irng1_ T.f_range (cons_ (v_ 1) nil_)) (blkOk_by (N := N__law_trees) (sc := defScope s__law_trees) (by decide +kernel)) (by decide) (fun _ _ _ _ _ => (tg1_ 8 nd)) (fun _ _ _ _ _ => no_if) (fun _ _ _ _ _ => (call_ (F__law_some T) hr (by decide) takes_none5 (cons_ (v_ 0) (cons_ (lst_ false (cons_ ci_ (cons_ ci_ (cons_ (neg_ ci_) (cons_ ci_ (cons_ ci_ (cons_ ci_ (cons_ (op_ o_sub (call_ (F__law_draw T) hr (by decide) takes_none5 (cons_ (v_ 0) (cons_ ci_ nil_))) ci_) nil_)))))))) nil_)))) (sw_true rfl rfl rfl (by decide +kernel)))
    (sone_ (ret_ (tup_ (cons_ (bt_ b_tup T.f_tuple (by decide +kernel) (cons_ (v_ 5) nil_)) (cons_ (bt_ b_tup T.f_tuple (by decide +kernel) (cons_ (v_ 3) nil_)) nil_))))))))
set_option maxHeartbeats 4000000 in
theorem sc_check_within : FnScope N_check_within [(Str.ofString "thing"), (Str.ofString "least"), (Str.ofString "most")] (defScope s_check_within) := ⟨rfl, rfl, rfl, by decide +kernel, rfl, by decide +kernel, by decide +kernel⟩
theorem F_check_within (T : Tx w K mg) : Fn3 P w K mg base (Str.ofString "check_within") 3 sp_check_within := by
  obtain ⟨fd, F⟩ := T.d_check_within
  refine fn3 T.g_check_within F sc_check_within (FunD.bindsN F fun _ _ _ _ _ _ us hl => match us, hl with | [_, _, _], _ => rfl) (fun ds G Q E h => by unfold sp_check_within at h; split at h <;> first | rfl | exact h.elim) ⟨t_check_within, fun cdv A outer s H E hr => ?_, vc_check_within⟩
  have nd := (sc_check_within).nd
  have tk := tk_of (P := P) (w := w) (K := K) (mg := mg) (base := base) (N := N_check_within) (qual := (Str.ofString "check_within")) (scope := defScope s_check_within) (f := (He.fAd K ((Str.ofString "check_within"), none))) (cdv := cdv) (A := A) (outer := outer) (s := s) (H := H) (E := E)
  exact (sone_ (sif_ (tnot_ (tv_ (call_ (F_is_within T) hr (by decide) tk (cons_ (v_ 0) (cons_ (v_ 1) (cons_ (v_ 2) nil_)))))) (sone_ (raise0_ rfl tk T.x_NoNumber T.g_NoNumber)) snil_))
set_option maxHeartbeats 4000000 in
theorem sc_is_number : FnScope N_is_number [(Str.ofString "thing")] (defScope s_is_number) := ⟨rfl, rfl, rfl, by decide +kernel, rfl, by decide +kernel, by decide +kernel⟩
theorem F_is_number (T : Tx w K mg) : Fn3 P w K mg base (Str.ofString "is_number") 2 sp_is_number := by
  obtain ⟨fd, F⟩ := T.d_is_number
  refine fn3 T.g_is_number F sc_is_number (FunD.bindsN F fun _ _ _ _ _ _ us hl => match us, hl with | [_], _ => rfl) (fun ds G Q E h => by unfold sp_is_number at h; split at h <;> first | rfl | exact h.elim) ⟨t_is_number, fun cdv A outer s H E hr => ?_, vc_is_number⟩
  have nd := (sc_is_number).nd
  have tk := tk_of (P := P) (w := w) (K := K) (mg := mg) (base := base) (N := N_is_number) (qual := (Str.ofString "is_number")) (scope := defScope s_is_number) (f := (He.fAd K ((Str.ofString "is_number"), none))) (cdv := cdv) (A := A) (outer := outer) (s := s) (H := H) (E := E)
  exact (sone_ (ret_ (and_ (call_ (F_is_integer T) hr (by decide) tk (cons_ (v_ 0) nil_)) (one_ (cm_ o_ge (v_ 0) ci_ (nomark _))))))
set_option maxHeartbeats 4000000 in
theorem sc_rank_of : FnScope N_rank_of [(Str.ofString "number")] (defScope s_rank_of) := ⟨rfl, rfl, rfl, by decide +kernel, rfl, by decide +kernel, by decide +kernel⟩
theorem F_rank_of (T : Tx w K mg) : Fn3 P w K mg base (Str.ofString "rank_of") 1 sp_rank_of := by
  obtain ⟨fd, F⟩ := T.d_rank_of
  refine fn3 T.g_rank_of F sc_rank_of (FunD.bindsN F fun _ _ _ _ _ _ us hl => match us, hl with | [_], _ => rfl) (fun ds G Q E h => by unfold sp_rank_of at h; split at h <;> first | rfl | exact h.elim) ⟨t_rank_of, fun cdv A outer s H E hr => ?_, vc_rank_of⟩
  have nd := (sc_rank_of).nd
  have pas := pas_of (P := P) (w := w) (K := K) (mg := mg) (base := base) (N := N_rank_of) (qual := (Str.ofString "rank_of")) (scope := defScope s_rank_of) (f := (He.fAd K ((Str.ofString "rank_of"), none))) (cdv := cdv) (A := A) (outer := outer) (s := s) (H := H) (E := E)
  exact (scons_ (set_ 1 ci_ nd)
    (scons_ (while_ pas (tcm_ o_gt (v_ 0) ci_ (nomark _)) (scons_ (aug_ 0 (i_of ifdiv_) ci_ nd)
    (sone_ (aug_ 1 (i_of iadd_) ci_ nd))))
    (sone_ (ret_ (v_ 1)))))
set_option maxHeartbeats 4000000 in
theorem sc_most_of : FnScope N_most_of [(Str.ofString "many")] (defScope s_most_of) := ⟨rfl, rfl, rfl, by decide +kernel, rfl, by decide +kernel, by decide +kernel⟩
theorem F_most_of (T : Tx w K mg) : Fn3 P w K mg base (Str.ofString "most_of") 2 sp_most_of := by
  obtain ⟨fd, F⟩ := T.d_most_of
  refine fn3 T.g_most_of F sc_most_of (FunD.bindsN F fun _ _ _ _ _ _ us hl => match us, hl with | [_], _ => rfl) (fun ds G Q E h => by unfold sp_most_of at h; split at h <;> first | rfl | exact h.elim) ⟨t_most_of, fun cdv A outer s H E hr => ?_, vc_most_of⟩
  have nd := (sc_most_of).nd
  have tk := tk_of (P := P) (w := w) (K := K) (mg := mg) (base := base) (N := N_most_of) (qual := (Str.ofString "most_of")) (scope := defScope s_most_of) (f := (He.fAd K ((Str.ofString "most_of"), none))) (cdv := cdv) (A := A) (outer := outer) (s := s) (H := H) (E := E)
  exact (sone_ (ret_ (op_ (o_add false) (op_ (o_mul false) (cgi_ T.i_MOST_BY_RANK) (call_ (F_rank_of T) hr (by decide) tk (cons_ (v_ 0) nil_))) (cgi_ T.i_MOST_BESIDE))))
set_option maxHeartbeats 4000000 in
theorem sc_is_paper : FnScope N_is_paper [(Str.ofString "many"), (Str.ofString "thing")] (defScope s_is_paper) := ⟨rfl, rfl, rfl, by decide +kernel, rfl, by decide +kernel, by decide +kernel⟩
theorem F_is_paper (T : Tx w K mg) : Fn3 P w K mg base (Str.ofString "is_paper") 4 sp_is_paper := by
  obtain ⟨fd, F⟩ := T.d_is_paper
  refine fn3 T.g_is_paper F sc_is_paper (FunD.bindsN F fun _ _ _ _ _ _ us hl => match us, hl with | [_, _], _ => rfl) (fun ds G Q E h => by unfold sp_is_paper at h; split at h <;> first | rfl | exact h.elim) ⟨t_is_paper, fun cdv A outer s H E hr => ?_, vc_is_paper⟩
  have nd := (sc_is_paper).nd
  have tk := tk_of (P := P) (w := w) (K := K) (mg := mg) (base := base) (N := N_is_paper) (qual := (Str.ofString "is_paper")) (scope := defScope s_is_paper) (f := (He.fAd K ((Str.ofString "is_paper"), none))) (cdv := cdv) (A := A) (outer := outer) (s := s) (H := H) (E := E)
  exact (scons_ (expr_ (call_ (F_check_within T) hr (by decide) tk (cons_ (v_ 0) (cons_ ci_ (cons_ (cgi_ T.i_MOST_HOUSES) nil_)))))
    (scons_ (sif_ (tw_ (wor_ (tnot_ (tv_ (call_ (F_is_sized T) hr (by decide) tk (cons_ (v_ 1) (cons_ ci_ (cons_ ci_ nil_)))))) (wor_ (tnot_ (tv_ (call_ (F_is_number T) hr (by decide) tk (cons_ (ix_ (v_ 1) ci_ (fun _ _ => rfl)) nil_)))) (wor_ (tnot_ (tv_ (call_ (F_is_number T) hr (by decide) tk (cons_ (ix_ (v_ 1) ci_ (fun _ _ => rfl)) nil_)))) (w1or_ (tcm_ o_lt (ix_ (v_ 1) ci_ (fun _ _ => rfl)) ci_ (nomark _))))))) (sone_ (ret_ cb_)) snil_)
    (scons_ (unp_ [2, 3, 4, 5] (v_ 1) (tgt_ rfl (pgs_cons (tg1_ 2 nd) (pgs_cons (tg1_ 3 nd) (pgs_cons (tg1_ 4 nd) (pgs_cons (tg1_ 5 nd) pgs_nil))))))
    (scons_ (sif_ (tw_ (wor_ (tnot_ (tv_ (call_ (F_is_number T) hr (by decide) tk (cons_ (v_ 4) nil_)))) (wor_ (tcm_ (o_ne hr) (v_ 4) (op_ o_fdiv (v_ 3) ci_) (nomark _)) (w1or_ (tnot_ (tv_ (call_ (F_is_integer T) hr (by decide) tk (cons_ (v_ 5) nil_)))))))) (sone_ (ret_ cb_)) snil_)
    (sone_ (ret_ (cm_ o_le (op_ (o_add false) (op_ (o_add false) (op_ (o_add false) (v_ 2) (v_ 3)) (v_ 4)) (op_ (o_mul false) (cgi_ T.i_TIMES) (v_ 5))) (call_ (F_most_of T) hr (by decide) tk (cons_ (v_ 0) nil_)) (nomark _))))))))
set_option maxHeartbeats 4000000 in
theorem sc_replaced : FnScope N_replaced [(Str.ofString "items"), (Str.ofString "number"), (Str.ofString "item")] (defScope s_replaced) := ⟨rfl, rfl, rfl, by decide +kernel, rfl, by decide +kernel, by decide +kernel⟩
theorem F_replaced (T : Tx w K mg) : Fn3 P w K mg base (Str.ofString "replaced") 1 sp_replaced := by
  obtain ⟨fd, F⟩ := T.d_replaced
  refine fn3 T.g_replaced F sc_replaced (FunD.bindsN F fun _ _ _ _ _ _ us hl => match us, hl with | [_, _, _], _ => rfl) (fun ds G Q E h => by unfold sp_replaced at h; split at h <;> first | rfl | exact h.elim) ⟨t_replaced, fun cdv A outer s H E hr => ?_, vc_replaced⟩
  have nd := (sc_replaced).nd
  exact (sone_ (ret_ (op_ (o_add false) (op_ (o_add false) (sl_ false (v_ 0) on_ (os_ (v_ 1))) (tup_ (cons_ (v_ 2) nil_))) (sl_ false (v_ 0) (os_ (op_ (o_add false) (v_ 1) ci_)) on_))))
set_option maxHeartbeats 4000000 in
theorem sc_changed : FnScope N_changed [(Str.ofString "shape"), (Str.ofString "house"), (Str.ofString "part"), (Str.ofString "thing")] (defScope s_changed) := ⟨rfl, rfl, rfl, by decide +kernel, rfl, by decide +kernel, by decide +kernel⟩
theorem F_changed (T : Tx w K mg) : Fn3 P w K mg base (Str.ofString "changed") 2 sp_changed := by
  obtain ⟨fd, F⟩ := T.d_changed
  refine fn3 T.g_changed F sc_changed (FunD.bindsN F fun _ _ _ _ _ _ us hl => match us, hl with | [_, _, _, _], _ => rfl) (fun ds G Q E h => by unfold sp_changed at h; split at h <;> first | rfl | exact h.elim) ⟨t_changed, fun cdv A outer s H E hr => ?_, vc_changed⟩
  have nd := (sc_changed).nd
  have tk := tk_of (P := P) (w := w) (K := K) (mg := mg) (base := base) (N := N_changed) (qual := (Str.ofString "changed")) (scope := defScope s_changed) (f := (He.fAd K ((Str.ofString "changed"), none))) (cdv := cdv) (A := A) (outer := outer) (s := s) (H := H) (E := E)
  exact (sone_ (ret_ (call_ (F_replaced T) hr (by decide) tk (cons_ (v_ 0) (cons_ (v_ 1) (cons_ (call_ (F_replaced T) hr (by decide) tk (cons_ (ix_ (v_ 0) (v_ 1) (fun _ _ => rfl)) (cons_ (v_ 2) (cons_ (v_ 3) nil_)))) nil_))))))
set_option maxHeartbeats 4000000 in
theorem sc_sons_of : FnScope N_sons_of [(Str.ofString "shape"), (Str.ofString "house")] (defScope s_sons_of) := ⟨rfl, rfl, rfl, by decide +kernel, rfl, by decide +kernel, by decide +kernel⟩
theorem F_sons_of (T : Tx w K mg) : Fn3 P w K mg base (Str.ofString "sons_of") 1 sp_sons_of := by
  obtain ⟨fd, F⟩ := T.d_sons_of
  refine fn3 T.g_sons_of F sc_sons_of (FunD.bindsN F fun _ _ _ _ _ _ us hl => match us, hl with | [_, _], _ => rfl) (fun ds G Q E h => by unfold sp_sons_of at h; split at h <;> first | rfl | exact h.elim) ⟨t_sons_of, fun cdv A outer s H E hr => ?_, vc_sons_of⟩
  have nd := (sc_sons_of).nd
  exact (sone_ (ret_ (lc_ (own := [((Str.ofString "son"), 2)]) false (.n 2) rfl nd (iseq_ (sl_ false (ix_ (v_ 0) (v_ 1) (fun _ _ => rfl)) (os_ (cgi_ T.i_LEFT)) (os_ (cgi_ T.i_TURNED)))) (blkOk_by (N := N_sons_of) (sc := (defScope s_sons_of)) (by decide +kernel)) (by decide) (fun _ _ _ _ _ => (tg1_ 2 nd)) (fun _ _ _ _ _ => (if1_ (tcm_ o_isnot (v_ 2) cn_ (nomark _)))) (fun _ _ _ _ _ => (v_ 2)))))
set_option maxHeartbeats 4000000 in
theorem sc_with_more : FnScope N_with_more [(Str.ofString "part"), (Str.ofString "number")] (defScope s_with_more) := ⟨rfl, rfl, rfl, by decide +kernel, rfl, by decide +kernel, by decide +kernel⟩
theorem F_with_more (T : Tx w K mg) : Fn3 P w K mg base (Str.ofString "with_more") 1 sp_with_more := by
  obtain ⟨fd, F⟩ := T.d_with_more
  refine fn3 T.g_with_more F sc_with_more (FunD.bindsN F fun _ _ _ _ _ _ us hl => match us, hl with | [_, _], _ => rfl) (fun ds G Q E h => by unfold sp_with_more at h; split at h <;> first | rfl | exact h.elim) ⟨t_with_more, fun cdv A outer s H E hr => ?_, vc_with_more⟩
  have nd := (sc_with_more).nd
  exact (sone_ (ret_ (op_ (o_add false) (sl_ false (v_ 0) on_ (os_ (cgi_ T.i_ADDED))) (tup_ (cons_ (op_ (o_add false) (ix_ (v_ 0) (cgi_ T.i_ADDED) (fun _ _ => rfl)) (v_ 1)) (cons_ (op_ (o_add false) (ix_ (v_ 0) (cgi_ T.i_VALUE) (fun _ _ => rfl)) (v_ 1)) nil_))))))
set_option maxHeartbeats 4000000 in
theorem sc_after_handing : FnScope N_after_handing [(Str.ofString "shape"), (Str.ofString "house")] (defScope s_after_handing) := ⟨rfl, rfl, rfl, by decide +kernel, rfl, by decide +kernel, by decide +kernel⟩
theorem F_after_handing (T : Tx w K mg) : Fn3 P w K mg base (Str.ofString "after_handing") 3 sp_after_handing := by
  obtain ⟨fd, F⟩ := T.d_after_handing
  refine fn3 T.g_after_handing F sc_after_handing (FunD.bindsN F fun _ _ _ _ _ _ us hl => match us, hl with | [_, _], _ => rfl) (fun ds G Q E h => by unfold sp_after_handing at h; split at h <;> first | rfl | exact h.elim) ⟨t_after_handing, fun cdv A outer s H E hr => ?_, vc_after_handing⟩
  have nd := (sc_after_handing).nd
  have tk := tk_of (P := P) (w := w) (K := K) (mg := mg) (base := base) (N := N_after_handing) (qual := (Str.ofString "after_handing")) (scope := defScope s_after_handing) (f := (He.fAd K ((Str.ofString "after_handing"), none))) (cdv := cdv) (A := A) (outer := outer) (s := s) (H := H) (E := E)
  have pas := pas_of (P := P) (w := w) (K := K) (mg := mg) (base := base) (N := N_after_handing) (qual := (Str.ofString "after_handing")) (scope := defScope s_after_handing) (f := (He.fAd K ((Str.ofString "after_handing"), none))) (cdv := cdv) (A := A) (outer := outer) (s := s) (H := H) (E := E)
  exact (scons_ (unp_ [4, 5, 6, 7, 8, 9] (ix_ (v_ 0) (v_ 1) (fun _ _ => rfl)) (tgt_ rfl (pgs_cons (tg1_ 4 nd) (pgs_cons (tg1_ 5 nd) (pgs_cons (tg1_ 6 nd) (pgs_cons (tg1_ 7 nd) (pgs_cons (tg1_ 8 nd) (pgs_cons (tg1_ 9 nd) pgs_nil))))))))
    (scons_ (sif_ (tw_ (wand_ (tcm_ (o_eq hr) (v_ 8) ci_ (nomark _)) (w1and_ (tnot_ (tv_ (v_ 7)))))) (sone_ (ret_ (v_ 0))) snil_)
    (scons_ (set_ 2 (v_ 0) nd)
    (scons_ (for_ (.n 3) pas rfl (iseq_ (call_ (F_sons_of T) hr (by decide) tk (cons_ (v_ 0) (cons_ (v_ 1) nil_)))) (tg1_ 3 nd) (scons_ (set_ 2 (call_ (F_replaced T) hr (by decide) tk (cons_ (v_ 2) (cons_ (v_ 3) (cons_ (call_ (F_with_more T) hr (by decide) tk (cons_ (ix_ (v_ 2) (v_ 3) (fun _ _ => rfl)) (cons_ (v_ 8) nil_))) nil_)))) nd)
    (sone_ (sif_ (tv_ (v_ 7)) (sone_ (set_ 2 (call_ (F_changed T) hr (by decide) tk (cons_ (v_ 2) (cons_ (v_ 3) (cons_ (cgi_ T.i_TURNED) (cons_ (not_ (ix_ (ix_ (v_ 2) (v_ 3) (fun _ _ => rfl)) (cgi_ T.i_TURNED) (fun _ _ => rfl))) nil_))))) nd)) snil_))))
    (scons_ (sif_ (tv_ (v_ 7)) (sone_ (par_ 5 6 rfl nd (cons_ (v_ 6) (cons_ (v_ 5) nil_)))) snil_)
    (sone_ (ret_ (call_ (F_replaced T) hr (by decide) tk (cons_ (v_ 2) (cons_ (v_ 1) (cons_ (tup_ (cons_ (v_ 4) (cons_ (v_ 5) (cons_ (v_ 6) (cons_ cb_ (cons_ ci_ (cons_ (v_ 9) nil_))))))) nil_)))))))))))
set_option maxHeartbeats 4000000 in
theorem sc_is_son : FnScope N_is_son [(Str.ofString "shape"), (Str.ofString "house")] (defScope s_is_son) := ⟨rfl, rfl, rfl, by decide +kernel, rfl, by decide +kernel, by decide +kernel⟩
theorem F_is_son (T : Tx w K mg) : Fn3 P w K mg base (Str.ofString "is_son") 1 sp_is_son := by
  obtain ⟨fd, F⟩ := T.d_is_son
  refine fn3 T.g_is_son F sc_is_son (FunD.bindsN F fun _ _ _ _ _ _ us hl => match us, hl with | [_, _], _ => rfl) (fun ds G Q E h => by unfold sp_is_son at h; split at h <;> first | rfl | exact h.elim) ⟨t_is_son, fun cdv A outer s H E hr => ?_, vc_is_son⟩
  have nd := (sc_is_son).nd
  exact (scons_ (set_ 2 (ix_ (ix_ (v_ 0) (v_ 1) (fun _ _ => rfl)) (cgi_ T.i_UP) (fun _ _ => rfl)) nd)
    (sone_ (ret_ (and_ (cm_ o_isnot (v_ 2) cn_ (nomark _)) (one_ (cm_ o_in (v_ 1) (sl_ false (ix_ (v_ 0) (v_ 2) (fun _ _ => rfl)) (os_ (cgi_ T.i_LEFT)) (os_ (cgi_ T.i_TURNED))) rfl))))))
set_option maxHeartbeats 4000000 in
theorem sc_side_of : FnScope N_side_of [(Str.ofString "shape"), (Str.ofString "house")] (defScope s_side_of) := ⟨rfl, rfl, rfl, by decide +kernel, rfl, by decide +kernel, by decide +kernel⟩
theorem F_side_of (T : Tx w K mg) : Fn3 P w K mg base (Str.ofString "side_of") 1 sp_side_of := by
  obtain ⟨fd, F⟩ := T.d_side_of
  refine fn3 T.g_side_of F sc_side_of (FunD.bindsN F fun _ _ _ _ _ _ us hl => match us, hl with | [_, _], _ => rfl) (fun ds G Q E h => by unfold sp_side_of at h; split at h <;> first | rfl | exact h.elim) ⟨t_side_of, fun cdv A outer s H E hr => ?_, vc_side_of⟩
  have nd := (sc_side_of).nd
  exact (sone_ (ret_ (if_ (tcm_ (o_eq hr) (ix_ (ix_ (v_ 0) (ix_ (ix_ (v_ 0) (v_ 1) (fun _ _ => rfl)) (cgi_ T.i_UP) (fun _ _ => rfl)) (fun _ _ => rfl)) (cgi_ T.i_LEFT) (fun _ _ => rfl)) (v_ 1) (nomark _)) (cgi_ T.i_LEFT) (cgi_ T.i_RIGHT))))
set_option maxHeartbeats 4000000 in
theorem sc_after_turn : FnScope N_after_turn [(Str.ofString "shape"), (Str.ofString "house")] (defScope s_after_turn) := ⟨rfl, rfl, rfl, by decide +kernel, rfl, by decide +kernel, by decide +kernel⟩
theorem F_after_turn (T : Tx w K mg) : Fn3 P w K mg base (Str.ofString "after_turn") 4 sp_after_turn := by
  obtain ⟨fd, F⟩ := T.d_after_turn
  refine fn3 T.g_after_turn F sc_after_turn (FunD.bindsN F fun _ _ _ _ _ _ us hl => match us, hl with | [_, _], _ => rfl) (fun ds G Q E h => by unfold sp_after_turn at h; split at h <;> first | rfl | exact h.elim) ⟨t_after_turn, fun cdv A outer s H E hr => ?_, vc_after_turn⟩
  have nd := (sc_after_turn).nd
  have tk := tk_of (P := P) (w := w) (K := K) (mg := mg) (base := base) (N := N_after_turn) (qual := (Str.ofString "after_turn")) (scope := defScope s_after_turn) (f := (He.fAd K ((Str.ofString "after_turn"), none))) (cdv := cdv) (A := A) (outer := outer) (s := s) (H := H) (E := E)
  exact (scons_ (set_ 2 (ix_ (ix_ (v_ 0) (v_ 1) (fun _ _ => rfl)) (cgi_ T.i_UP) (fun _ _ => rfl)) nd)
    (scons_ (set_ 3 (call_ (F_after_handing T) hr (by decide) tk (cons_ (call_ (F_after_handing T) hr (by decide) tk (cons_ (v_ 0) (cons_ (v_ 2) nil_))) (cons_ (v_ 1) nil_))) nd)
    (scons_ (set_ 4 (call_ (F_side_of T) hr (by decide) tk (cons_ (v_ 3) (cons_ (v_ 1) nil_))) nd)
    (scons_ (set_ 5 (op_ o_sub (op_ (o_add false) (cgi_ T.i_LEFT) (cgi_ T.i_RIGHT)) (v_ 4)) nd)
    (scons_ (set_ 6 (ix_ (ix_ (v_ 3) (v_ 2) (fun _ _ => rfl)) (cgi_ T.i_UP) (fun _ _ => rfl)) nd)
    (scons_ (sif_ (tv_ (call_ (F_is_son T) hr (by decide) tk (cons_ (v_ 3) (cons_ (v_ 2) nil_)))) (sone_ (set_ 3 (call_ (F_changed T) hr (by decide) tk (cons_ (v_ 3) (cons_ (v_ 6) (cons_ (call_ (F_side_of T) hr (by decide) tk (cons_ (v_ 3) (cons_ (v_ 2) nil_))) (cons_ (v_ 1) nil_))))) nd)) snil_)
    (scons_ (set_ 7 (ix_ (ix_ (v_ 3) (v_ 1) (fun _ _ => rfl)) (v_ 5) (fun _ _ => rfl)) nd)
    (scons_ (set_ 3 (call_ (F_changed T) hr (by decide) tk (cons_ (v_ 3) (cons_ (v_ 2) (cons_ (v_ 4) (cons_ (v_ 7) nil_))))) nd)
    (scons_ (sif_ (tcm_ o_isnot (v_ 7) cn_ (nomark _)) (sone_ (set_ 3 (call_ (F_changed T) hr (by decide) tk (cons_ (v_ 3) (cons_ (v_ 7) (cons_ (cgi_ T.i_UP) (cons_ (v_ 2) nil_))))) nd)) snil_)
    (scons_ (set_ 3 (call_ (F_changed T) hr (by decide) tk (cons_ (v_ 3) (cons_ (v_ 1) (cons_ (v_ 5) (cons_ (v_ 2) nil_))))) nd)
    (sone_ (ret_ (call_ (F_changed T) hr (by decide) tk (cons_ (call_ (F_changed T) hr (by decide) tk (cons_ (v_ 3) (cons_ (v_ 2) (cons_ (cgi_ T.i_UP) (cons_ (v_ 1) nil_))))) (cons_ (v_ 1) (cons_ (cgi_ T.i_UP) (cons_ (v_ 6) nil_)))))))))))))))))
set_option maxHeartbeats 4000000 in
theorem sc_after_step : FnScope N_after_step [(Str.ofString "shape"), (Str.ofString "house")] (defScope s_after_step) := ⟨rfl, rfl, rfl, by decide +kernel, rfl, by decide +kernel, by decide +kernel⟩
theorem F_after_step (T : Tx w K mg) : Fn3 P w K mg base (Str.ofString "after_step") 5 sp_after_step := by
  obtain ⟨fd, F⟩ := T.d_after_step
  refine fn3 T.g_after_step F sc_after_step (FunD.bindsN F fun _ _ _ _ _ _ us hl => match us, hl with | [_, _], _ => rfl) (fun ds G Q E h => by unfold sp_after_step at h; split at h <;> first | rfl | exact h.elim) ⟨t_after_step, fun cdv A outer s H E hr => ?_, vc_after_step⟩
  have nd := (sc_after_step).nd
  have tk := tk_of (P := P) (w := w) (K := K) (mg := mg) (base := base) (N := N_after_step) (qual := (Str.ofString "after_step")) (scope := defScope s_after_step) (f := (He.fAd K ((Str.ofString "after_step"), none))) (cdv := cdv) (A := A) (outer := outer) (s := s) (H := H) (E := E)
  exact (scons_ (set_ 2 (ix_ (ix_ (v_ 0) (v_ 1) (fun _ _ => rfl)) (cgi_ T.i_UP) (fun _ _ => rfl)) nd)
    (scons_ (sif_ (tnot_ (tv_ (call_ (F_is_son T) hr (by decide) tk (cons_ (v_ 0) (cons_ (v_ 2) nil_))))) (sone_ (ret_ (call_ (F_after_turn T) hr (by decide) tk (cons_ (v_ 0) (cons_ (v_ 1) nil_))))) snil_)
    (scons_ (set_ 3 (if_ (tcm_ (o_eq hr) (call_ (F_side_of T) hr (by decide) tk (cons_ (v_ 0) (cons_ (v_ 1) nil_))) (call_ (F_side_of T) hr (by decide) tk (cons_ (v_ 0) (cons_ (v_ 2) nil_))) (nomark _)) (v_ 2) (v_ 1)) nd)
    (sone_ (ret_ (call_ (F_after_turn T) hr (by decide) tk (cons_ (call_ (F_after_turn T) hr (by decide) tk (cons_ (v_ 0) (cons_ (v_ 3) nil_))) (cons_ (v_ 1) nil_))))))))
set_option maxHeartbeats 4000000 in
theorem sc_down_to : FnScope N_down_to [(Str.ofString "shape"), (Str.ofString "house")] (defScope s_down_to) := ⟨rfl, rfl, rfl, by decide +kernel, rfl, by decide +kernel, by decide +kernel⟩
theorem F_down_to (T : Tx w K mg) : Fn3 P w K mg base (Str.ofString "down_to") 4 sp_down_to := by
  obtain ⟨fd, F⟩ := T.d_down_to
  refine fn3 T.g_down_to F sc_down_to (FunD.bindsN F fun _ _ _ _ _ _ us hl => match us, hl with | [_, _], _ => rfl) (fun ds G Q E h => by unfold sp_down_to at h; split at h <;> first | rfl | exact h.elim) ⟨t_down_to, fun cdv A outer s H E hr => ?_, vc_down_to⟩
  have nd := (sc_down_to).nd
  have tk := tk_of (P := P) (w := w) (K := K) (mg := mg) (base := base) (N := N_down_to) (qual := (Str.ofString "down_to")) (scope := defScope s_down_to) (f := (He.fAd K ((Str.ofString "down_to"), none))) (cdv := cdv) (A := A) (outer := outer) (s := s) (H := H) (E := E)
  have pas := pas_of (P := P) (w := w) (K := K) (mg := mg) (base := base) (N := N_down_to) (qual := (Str.ofString "down_to")) (scope := defScope s_down_to) (f := (He.fAd K ((Str.ofString "down_to"), none))) (cdv := cdv) (A := A) (outer := outer) (s := s) (H := H) (E := E)
  exact (scons_ (set_ 2 (lst_ true (cons_ (v_ 1) nil_)) nd)
    (scons_ (while_ pas (tv_ (call_ (F_is_son T) hr (by decide) tk (cons_ (v_ 0) (cons_ (ix_ (v_ 2) (neg_ ci_) (fun _ _ => rfl)) nil_)))) (sone_ (expr_ (m_ PySem.F.plainAttrs_list PySem.F.slot_list_append PySem.F.type_list_append ty_list me_append (v_ 2) (cons_ (ix_ (ix_ (v_ 0) (ix_ (v_ 2) (neg_ ci_) (fun _ _ => rfl)) (fun _ _ => rfl)) (cgi_ T.i_UP) (fun _ _ => rfl)) nil_)))))
    (scons_ (set_ 3 (v_ 0) nd)
    (scons_ (for_ (.n 4) pas rfl (iseq_ (rev_ false (v_ 2))) (tg1_ 4 nd) (sone_ (set_ 3 (call_ (F_after_handing T) hr (by decide) tk (cons_ (v_ 3) (cons_ (v_ 4) nil_))) nd)))
    (sone_ (ret_ (v_ 3)))))))
set_option maxHeartbeats 4000000 in
theorem sc_to_top : FnScope N_to_top [(Str.ofString "shape"), (Str.ofString "house")] (defScope s_to_top) := ⟨rfl, rfl, rfl, by decide +kernel, rfl, by decide +kernel, by decide +kernel⟩
theorem F_to_top (T : Tx w K mg) : Fn3 P w K mg base (Str.ofString "to_top") 6 sp_to_top := by
  obtain ⟨fd, F⟩ := T.d_to_top
  refine fn3 T.g_to_top F sc_to_top (FunD.bindsN F fun _ _ _ _ _ _ us hl => match us, hl with | [_, _], _ => rfl) (fun ds G Q E h => by unfold sp_to_top at h; split at h <;> first | rfl | exact h.elim) ⟨t_to_top, fun cdv A outer s H E hr => ?_, vc_to_top⟩
  have nd := (sc_to_top).nd
  have tk := tk_of (P := P) (w := w) (K := K) (mg := mg) (base := base) (N := N_to_top) (qual := (Str.ofString "to_top")) (scope := defScope s_to_top) (f := (He.fAd K ((Str.ofString "to_top"), none))) (cdv := cdv) (A := A) (outer := outer) (s := s) (H := H) (E := E)
  have pas := pas_of (P := P) (w := w) (K := K) (mg := mg) (base := base) (N := N_to_top) (qual := (Str.ofString "to_top")) (scope := defScope s_to_top) (f := (He.fAd K ((Str.ofString "to_top"), none))) (cdv := cdv) (A := A) (outer := outer) (s := s) (H := H) (E := E)
  exact (scons_ (set_ 2 (call_ (F_down_to T) hr (by decide) tk (cons_ (v_ 0) (cons_ (v_ 1) nil_))) nd)
    (scons_ (set_ 3 ci_ nd)
    (scons_ (while_ pas (tv_ (call_ (F_is_son T) hr (by decide) tk (cons_ (v_ 2) (cons_ (v_ 1) nil_)))) (scons_ (set_ 2 (call_ (F_after_step T) hr (by decide) tk (cons_ (v_ 2) (cons_ (v_ 1) nil_))) nd)
    (sone_ (aug_ 3 (i_of iadd_) ci_ nd))))
    (sone_ (ret_ (tup_ (cons_ (v_ 2) (cons_ (v_ 3) nil_))))))))
set_option maxHeartbeats 4000000 in
theorem sc_met_from : FnScope N_met_from [(Str.ofString "shape"), (Str.ofString "house")] (defScope s_met_from) := ⟨rfl, rfl, rfl, by decide +kernel, rfl, by decide +kernel, by decide +kernel⟩
theorem F_met_from (T : Tx w K mg) : Fn3 P w K mg base (Str.ofString "met_from") 7 sp_met_from := by
  obtain ⟨fd, F⟩ := T.d_met_from
  refine fn3 T.g_met_from F sc_met_from (FunD.bindsN F fun _ _ _ _ _ _ us hl => match us, hl with | [_, _], _ => rfl) (fun ds G Q E h => by unfold sp_met_from at h; split at h <;> first | rfl | exact h.elim) ⟨t_met_from, fun cdv A outer s H E hr => ?_, vc_met_from⟩
  have nd := (sc_met_from).nd
  have tk := tk_of (P := P) (w := w) (K := K) (mg := mg) (base := base) (N := N_met_from) (qual := (Str.ofString "met_from")) (scope := defScope s_met_from) (f := (He.fAd K ((Str.ofString "met_from"), none))) (cdv := cdv) (A := A) (outer := outer) (s := s) (H := H) (E := E)
  have pas := pas_of (P := P) (w := w) (K := K) (mg := mg) (base := base) (N := N_met_from) (qual := (Str.ofString "met_from")) (scope := defScope s_met_from) (f := (He.fAd K ((Str.ofString "met_from"), none))) (cdv := cdv) (A := A) (outer := outer) (s := s) (H := H) (E := E)
  exact (scons_ (set_ 2 (v_ 0) nd)
    (scons_ (set_ 3 (lst_ true nil_) nd)
    (scons_ (set_ 4 ci_ nd)
    (scons_ (set_ 5 (v_ 1) nd)
    (scons_ (while_ pas (tcm_ o_isnot (v_ 5) cn_ (nomark _)) (scons_ (unp_ [2, 6] (call_ (F_to_top T) hr (by decide) tk (cons_ (v_ 2) (cons_ (v_ 5) nil_))) (tgt_ rfl (pgs_cons (tg1_ 2 nd) (pgs_cons (tg1_ 6 nd) pgs_nil))))
    (scons_ (aug_ 4 (i_of iadd_) (v_ 6) nd)
    (scons_ (expr_ (m_ PySem.F.plainAttrs_list PySem.F.slot_list_append PySem.F.type_list_append ty_list me_append (v_ 3) (cons_ (v_ 5) nil_)))
    (sone_ (set_ 5 (ix_ (ix_ (v_ 2) (v_ 5) (fun _ _ => rfl)) (cgi_ T.i_UP) (fun _ _ => rfl)) nd))))))
    (sone_ (ret_ (tup_ (cons_ (v_ 2) (cons_ (v_ 3) (cons_ (v_ 4) nil_)))))))))))
set_option maxHeartbeats 4000000 in
theorem sc_spliced : FnScope N_spliced [(Str.ofString "shape"), (Str.ofString "met")] (defScope s_spliced) := ⟨rfl, rfl, rfl, by decide +kernel, rfl, by decide +kernel, by decide +kernel⟩
theorem F_spliced (T : Tx w K mg) : Fn3 P w K mg base (Str.ofString "spliced") 3 sp_spliced := by
  obtain ⟨fd, F⟩ := T.d_spliced
  refine fn3 T.g_spliced F sc_spliced (FunD.bindsN F fun _ _ _ _ _ _ us hl => match us, hl with | [_, _], _ => rfl) (fun ds G Q E h => by unfold sp_spliced at h; split at h <;> first | rfl | exact h.elim) ⟨t_spliced, fun cdv A outer s H E hr => ?_, vc_spliced⟩
  have nd := (sc_spliced).nd
  have tk := tk_of (P := P) (w := w) (K := K) (mg := mg) (base := base) (N := N_spliced) (qual := (Str.ofString "spliced")) (scope := defScope s_spliced) (f := (He.fAd K ((Str.ofString "spliced"), none))) (cdv := cdv) (A := A) (outer := outer) (s := s) (H := H) (E := E)
  have pas := pas_of (P := P) (w := w) (K := K) (mg := mg) (base := base) (N := N_spliced) (qual := (Str.ofString "spliced")) (scope := defScope s_spliced) (f := (He.fAd K ((Str.ofString "spliced"), none))) (cdv := cdv) (A := A) (outer := outer) (s := s) (H := H) (E := E)
  exact (scons_ (set_ 2 (v_ 0) nd)
    (scons_ (set_ 3 cn_ nd)
    (scons_ (for_ (.n 4) pas rfl (iseq_ (v_ 1)) (tg1_ 4 nd) (scons_ (set_ 2 (call_ (F_changed T) hr (by decide) tk (cons_ (v_ 2) (cons_ (v_ 4) (cons_ (cgi_ T.i_RIGHT) (cons_ (v_ 3) nil_))))) nd)
    (sone_ (set_ 3 (v_ 4) nd))))
    (sone_ (ret_ (v_ 2))))))
set_option maxHeartbeats 4000000 in
theorem sc_all_weights : FnScope N_all_weights [(Str.ofString "shape")] (defScope s_all_weights) := ⟨rfl, rfl, rfl, by decide +kernel, rfl, by decide +kernel, by decide +kernel⟩
theorem F_all_weights (T : Tx w K mg) : Fn3 P w K mg base (Str.ofString "all_weights") 1 sp_all_weights := by
  obtain ⟨fd, F⟩ := T.d_all_weights
  refine fn3 T.g_all_weights F sc_all_weights (FunD.bindsN F fun _ _ _ _ _ _ us hl => match us, hl with | [_], _ => rfl) (fun ds G Q E h => by unfold sp_all_weights at h; split at h <;> first | rfl | exact h.elim) ⟨t_all_weights, fun cdv A outer s H E hr => ?_, vc_all_weights⟩
  have nd := (sc_all_weights).nd
  have pas := pas_of (P := P) (w := w) (K := K) (mg := mg) (base := base) (N := N_all_weights) (qual := (Str.ofString "all_weights")) (scope := defScope s_all_weights) (f := (He.fAd K ((Str.ofString "all_weights"), none))) (cdv := cdv) (A := A) (outer := outer) (s := s) (H := H) (E := E)
  exact (scons_ (set_ 1 (op_ (o_mul true) (lst_ false (cons_ ci_ nil_)) (bf_ b_len T.f_len (by decide +kernel) (cons_ (v_ 0) nil_))) nd)
    (scons_ (set_ 2 (op_ (o_mul true) (lst_ false (cons_ ci_ nil_)) (bf_ b_len T.f_len (by decide +kernel) (cons_ (v_ 0) nil_))) nd)
    (scons_ (for_ (.n 3) pas rfl (iseq_ (v_ 0)) (tg1_ 3 nd) (sone_ (sif_ (tcm_ o_isnot (ix_ (v_ 3) (cgi_ T.i_UP) (fun _ _ => rfl)) cn_ (nomark _)) (sone_ (augS_ (i_of iadd_) (v_ 2) (ix_ (v_ 3) (cgi_ T.i_UP) (fun _ _ => rfl)) ci_)) snil_)))
    (scons_ (setLc_ (own := [((Str.ofString "house"), 7), ((Str.ofString "many"), 8)]) 4 true (.t [7, 8]) rfl nd (ienum_ T.f_enumerate (cons_ (v_ 2) nil_)) (blkOk_by (N := N_all_weights) (sc := defScope s_all_weights) (by decide +kernel)) (by decide) (fun _ _ _ _ _ => (tgt_ rfl (pgs_cons (tg1_ 7 nd) (pgs_cons (tg1_ 8 nd) pgs_nil)))) (fun _ _ _ _ _ => (if1_ (tcm_ (o_eq hr) (v_ 8) ci_ (nomark _)))) (fun _ _ _ _ _ => (v_ 7)) (sw_true rfl rfl rfl (by decide +kernel)))
    (scons_ (while_ pas (tcm_ o_gt (bf_ b_len T.f_len (by decide +kernel) (cons_ (v_ 4) nil_)) ci_ (nomark _)) (scons_ (set_ 5 (m0_ PySem.F.plainAttrs_list PySem.F.slot_list_pop PySem.F.type_list_pop ty_list me_pop (v_ 4)) nd)
    (scons_ (set_ 6 (ix_ (ix_ (v_ 0) (v_ 5) (fun _ _ => rfl)) (cgi_ T.i_UP) (fun _ _ => rfl)) nd)
    (sone_ (sif_ (tcm_ o_isnot (v_ 6) cn_ (nomark _)) (scons_ (augS_ (i_of iadd_) (v_ 1) (v_ 6) (ix_ (v_ 1) (v_ 5) (fun _ _ => rfl)))
    (scons_ (augS_ (i_of isub_) (v_ 2) (v_ 6) ci_)
    (sone_ (sif_ (tcm_ (o_eq hr) (ix_ (v_ 2) (v_ 6) (fun _ _ => rfl)) ci_ (nomark _)) (sone_ (expr_ (m_ PySem.F.plainAttrs_list PySem.F.slot_list_append PySem.F.type_list_append ty_list me_append (v_ 4) (cons_ (v_ 6) nil_)))) snil_)))) snil_)))))
    (sone_ (ret_ (fz_ (v_ 1)))))))))
set_option maxHeartbeats 4000000 in
theorem sc_sum_of_ranks : FnScope N_sum_of_ranks [(Str.ofString "shape")] (defScope s_sum_of_ranks) := ⟨rfl, rfl, rfl, by decide +kernel, rfl, by decide +kernel, by decide +kernel⟩
theorem F_sum_of_ranks (T : Tx w K mg) : Fn3 P w K mg base (Str.ofString "sum_of_ranks") 2 sp_sum_of_ranks := by
  obtain ⟨fd, F⟩ := T.d_sum_of_ranks
  refine fn3 T.g_sum_of_ranks F sc_sum_of_ranks (FunD.bindsN F fun _ _ _ _ _ _ us hl => match us, hl with | [_], _ => rfl) (fun ds G Q E h => by unfold sp_sum_of_ranks at h; split at h <;> first | rfl | exact h.elim) ⟨t_sum_of_ranks, fun cdv A outer s H E hr => ?_, vc_sum_of_ranks⟩
  have nd := (sc_sum_of_ranks).nd
  have tk := tk_of (P := P) (w := w) (K := K) (mg := mg) (base := base) (N := N_sum_of_ranks) (qual := (Str.ofString "sum_of_ranks")) (scope := defScope s_sum_of_ranks) (f := (He.fAd K ((Str.ofString "sum_of_ranks"), none))) (cdv := cdv) (A := A) (outer := outer) (s := s) (H := H) (E := E)
  exact (sone_ (ret_ (bf_ (b_sum rfl) T.f_sum (by decide +kernel) (cons_ (lc_ (own := [((Str.ofString "weight"), 1)]) false (.n 1) rfl nd (iseq_ (call_ (F_all_weights T) hr (by decide) tk (cons_ (v_ 0) nil_))) (blkOk_by (N := N_sum_of_ranks) (sc := (defScope s_sum_of_ranks)) (by decide +kernel)) (by decide) (fun _ _ _ _ _ => (tg1_ 1 nd)) (fun _ _ _ _ _ => no_if) (fun _ _ _ _ _ => (call_ (F_rank_of T) hr (by decide) takes_none5 (cons_ (v_ 1) nil_)))) nil_))))
set_option maxHeartbeats 4000000 in
theorem sc_after_reaching : FnScope N_after_reaching [(Str.ofString "shape"), (Str.ofString "house"), (Str.ofString "before")] (defScope s_after_reaching) := ⟨rfl, rfl, rfl, by decide +kernel, rfl, by decide +kernel, by decide +kernel⟩
theorem F_after_reaching (T : Tx w K mg) : Fn3 P w K mg base (Str.ofString "after_reaching") 8 sp_after_reaching := by
  obtain ⟨fd, F⟩ := T.d_after_reaching
  refine fn3 T.g_after_reaching F sc_after_reaching (FunD.bindsN F fun _ _ _ _ _ _ us hl => match us, hl with | [_, _, _], _ => rfl) (fun ds G Q E h => by unfold sp_after_reaching at h; split at h <;> first | rfl | exact h.elim) ⟨t_after_reaching, fun cdv A outer s H E hr => ?_, vc_after_reaching⟩
  have nd := (sc_after_reaching).nd
  have tk := tk_of (P := P) (w := w) (K := K) (mg := mg) (base := base) (N := N_after_reaching) (qual := (Str.ofString "after_reaching")) (scope := defScope s_after_reaching) (f := (He.fAd K ((Str.ofString "after_reaching"), none))) (cdv := cdv) (A := A) (outer := outer) (s := s) (H := H) (E := E)
  exact (scons_ (unp_ [4, 5, 6] (call_ (F_met_from T) hr (by decide) tk (cons_ (v_ 0) (cons_ (v_ 1) nil_))) (tgt_ rfl (pgs_cons (tg1_ 4 nd) (pgs_cons (tg1_ 5 nd) (pgs_cons (tg1_ 6 nd) pgs_nil)))))
    (scons_ (unp_ [7, 8] (call_ (F_to_top T) hr (by decide) tk (cons_ (call_ (F_spliced T) hr (by decide) tk (cons_ (v_ 4) (cons_ (v_ 5) nil_))) (cons_ (v_ 1) nil_))) (tgt_ rfl (pgs_cons (tg1_ 7 nd) (pgs_cons (tg1_ 8 nd) pgs_nil))))
    (scons_ (set_ 3 (op_ o_sub (call_ (F_sum_of_ranks T) hr (by decide) tk (cons_ (v_ 7) nil_)) (v_ 2)) nd)
    (sone_ (ret_ (tup_ (cons_ (v_ 7) (cons_ (v_ 5) (cons_ (tup_ (cons_ (v_ 6) (cons_ (bf_ b_len T.f_len (by decide +kernel) (cons_ (v_ 5) nil_)) (cons_ (v_ 8) (cons_ (v_ 3) nil_))))) nil_)))))))))
set_option maxHeartbeats 4000000 in
theorem sc_check_house : FnScope N_check_house [(Str.ofString "many"), (Str.ofString "thing")] (defScope s_check_house) := ⟨rfl, rfl, rfl, by decide +kernel, rfl, by decide +kernel, by decide +kernel⟩
theorem F_check_house (T : Tx w K mg) : Fn3 P w K mg base (Str.ofString "check_house") 4 sp_check_house := by
  obtain ⟨fd, F⟩ := T.d_check_house
  refine fn3 T.g_check_house F sc_check_house (FunD.bindsN F fun _ _ _ _ _ _ us hl => match us, hl with | [_, _], _ => rfl) (fun ds G Q E h => by unfold sp_check_house at h; split at h <;> first | rfl | exact h.elim) ⟨t_check_house, fun cdv A outer s H E hr => ?_, vc_check_house⟩
  have nd := (sc_check_house).nd
  have tk := tk_of (P := P) (w := w) (K := K) (mg := mg) (base := base) (N := N_check_house) (qual := (Str.ofString "check_house")) (scope := defScope s_check_house) (f := (He.fAd K ((Str.ofString "check_house"), none))) (cdv := cdv) (A := A) (outer := outer) (s := s) (H := H) (E := E)
  exact (sone_ (sif_ (tnot_ (tv_ (call_ (F_is_below T) hr (by decide) tk (cons_ (v_ 1) (cons_ (v_ 0) nil_))))) (sone_ (raise0_ rfl tk T.x_NoHouse T.g_NoHouse)) snil_))
set_option maxHeartbeats 4000000 in
theorem sc_comes_out : FnScope N_comes_out [(Str.ofString "shape"), (Str.ofString "house")] (defScope s_comes_out) := ⟨rfl, rfl, rfl, by decide +kernel, rfl, by decide +kernel, by decide +kernel⟩
theorem F_comes_out (T : Tx w K mg) : Fn3 P w K mg base (Str.ofString "comes_out") 1 sp_comes_out := by
  obtain ⟨fd, F⟩ := T.d_comes_out
  refine fn3 T.g_comes_out F sc_comes_out (FunD.bindsN F fun _ _ _ _ _ _ us hl => match us, hl with | [_, _], _ => rfl) (fun ds G Q E h => by unfold sp_comes_out at h; split at h <;> first | rfl | exact h.elim) ⟨t_comes_out, fun cdv A outer s H E hr => ?_, vc_comes_out⟩
  have nd := (sc_comes_out).nd
  have pas := pas_of (P := P) (w := w) (K := K) (mg := mg) (base := base) (N := N_comes_out) (qual := (Str.ofString "comes_out")) (scope := defScope s_comes_out) (f := (He.fAd K ((Str.ofString "comes_out"), none))) (cdv := cdv) (A := A) (outer := outer) (s := s) (H := H) (E := E)
  exact (scons_ (set_ 2 (v_ 1) nd)
    (scons_ (for_ (.n 3) pas rfl (irng1_ T.f_range (cons_ (bf_ b_len T.f_len (by decide +kernel) (cons_ (v_ 0) nil_)) nil_)) (tg1_ 3 nd) (scons_ (set_ 2 (ix_ (ix_ (v_ 0) (v_ 2) (fun _ _ => rfl)) (cgi_ T.i_UP) (fun _ _ => rfl)) nd)
    (sone_ (sif_ (tcm_ o_is (v_ 2) cn_ (nomark _)) (sone_ (ret_ cb_)) snil_))))
    (sone_ (ret_ cb_))))
set_option maxHeartbeats 4000000 in
theorem sc_is_place : FnScope N_is_place [(Str.ofString "many"), (Str.ofString "thing")] (defScope s_is_place) := ⟨rfl, rfl, rfl, by decide +kernel, rfl, by decide +kernel, by decide +kernel⟩
theorem F_is_place (T : Tx w K mg) : Fn3 P w K mg base (Str.ofString "is_place") 4 sp_is_place := by
  obtain ⟨fd, F⟩ := T.d_is_place
  refine fn3 T.g_is_place F sc_is_place (FunD.bindsN F fun _ _ _ _ _ _ us hl => match us, hl with | [_, _], _ => rfl) (fun ds G Q E h => by unfold sp_is_place at h; split at h <;> first | rfl | exact h.elim) ⟨t_is_place, fun cdv A outer s H E hr => ?_, vc_is_place⟩
  have nd := (sc_is_place).nd
  have tk := tk_of (P := P) (w := w) (K := K) (mg := mg) (base := base) (N := N_is_place) (qual := (Str.ofString "is_place")) (scope := defScope s_is_place) (f := (He.fAd K ((Str.ofString "is_place"), none))) (cdv := cdv) (A := A) (outer := outer) (s := s) (H := H) (E := E)
  exact (sone_ (ret_ (or_ (cm_ o_is (v_ 1) cn_ (nomark _)) (one_ (call_ (F_is_below T) hr (by decide) tk (cons_ (v_ 1) (cons_ (v_ 0) nil_)))))))
set_option maxHeartbeats 4000000 in
theorem sc_is_part : FnScope N_is_part [(Str.ofString "many"), (Str.ofString "thing")] (defScope s_is_part) := ⟨rfl, rfl, rfl, by decide +kernel, rfl, by decide +kernel, by decide +kernel⟩
theorem F_is_part (T : Tx w K mg) : Fn3 P w K mg base (Str.ofString "is_part") 5 sp_is_part := by
  obtain ⟨fd, F⟩ := T.d_is_part
  refine fn3 T.g_is_part F sc_is_part (FunD.bindsN F fun _ _ _ _ _ _ us hl => match us, hl with | [_, _], _ => rfl) (fun ds G Q E h => by unfold sp_is_part at h; split at h <;> first | rfl | exact h.elim) ⟨t_is_part, fun cdv A outer s H E hr => ?_, vc_is_part⟩
  have nd := (sc_is_part).nd
  have tk := tk_of (P := P) (w := w) (K := K) (mg := mg) (base := base) (N := N_is_part) (qual := (Str.ofString "is_part")) (scope := defScope s_is_part) (f := (He.fAd K ((Str.ofString "is_part"), none))) (cdv := cdv) (A := A) (outer := outer) (s := s) (H := H) (E := E)
  exact (scons_ (sif_ (tw_ (wor_ (tnot_ (tv_ (call_ (F_is_sized T) hr (by decide) tk (cons_ (v_ 1) (cons_ (cgi_ T.i_PARTS) (cons_ (cgi_ T.i_PARTS) nil_)))))) (w1or_ (tnot_ (tv_ (bf_ (b_all rfl) T.f_all (by decide +kernel) (cons_ (lc_ (own := [((Str.ofString "item"), 2)]) false (.n 2) rfl nd (iseq_ (sl_ false (v_ 1) on_ (os_ (cgi_ T.i_TURNED)))) (blkOk_by (N := N_is_part) (sc := (defScope s_is_part)) (by decide +kernel)) (by decide) (fun _ _ _ _ _ => (tg1_ 2 nd)) (fun _ _ _ _ _ => no_if) (fun _ _ _ _ _ => (call_ (F_is_place T) hr (by decide) takes_none5 (cons_ (v_ 0) (cons_ (v_ 2) nil_))))) nil_))))))) (sone_ (ret_ cb_)) snil_)
    (scons_ (sif_ (tw_ (wand_ (tcm_ o_isnot (ix_ (v_ 1) (cgi_ T.i_LEFT) (fun _ _ => rfl)) cn_ (nomark _)) (w1and_ (tcm_ (o_eq hr) (ix_ (v_ 1) (cgi_ T.i_LEFT) (fun _ _ => rfl)) (ix_ (v_ 1) (cgi_ T.i_RIGHT) (fun _ _ => rfl)) (nomark _))))) (sone_ (ret_ cb_)) snil_)
    (sone_ (ret_ (and_ (isi_ T.f_isinstance (isc_b .bl T.f_bool) (tb_b T.isf .bl) (ix_ (v_ 1) (cgi_ T.i_TURNED) (fun _ _ => rfl))) (and_ (call_ (F_is_integer T) hr (by decide) tk (cons_ (ix_ (v_ 1) (cgi_ T.i_ADDED) (fun _ _ => rfl)) nil_)) (one_ (call_ (F_is_integer T) hr (by decide) tk (cons_ (ix_ (v_ 1) (cgi_ T.i_VALUE) (fun _ _ => rfl)) nil_)))))))))
set_option maxHeartbeats 4000000 in
theorem sc_is_right_shape : FnScope N_is_right_shape [(Str.ofString "thing")] (defScope s_is_right_shape) := ⟨rfl, rfl, rfl, by decide +kernel, rfl, by decide +kernel, by decide +kernel⟩
theorem F_is_right_shape (T : Tx w K mg) : Fn3 P w K mg base (Str.ofString "is_right_shape") 6 sp_is_right_shape := by
  obtain ⟨fd, F⟩ := T.d_is_right_shape
  refine fn3 T.g_is_right_shape F sc_is_right_shape (FunD.bindsN F fun _ _ _ _ _ _ us hl => match us, hl with | [_], _ => rfl) (fun ds G Q E h => by unfold sp_is_right_shape at h; split at h <;> first | rfl | exact h.elim) ⟨t_is_right_shape, fun cdv A outer s H E hr => ?_, vc_is_right_shape⟩
  have nd := (sc_is_right_shape).nd
  have tk := tk_of (P := P) (w := w) (K := K) (mg := mg) (base := base) (N := N_is_right_shape) (qual := (Str.ofString "is_right_shape")) (scope := defScope s_is_right_shape) (f := (He.fAd K ((Str.ofString "is_right_shape"), none))) (cdv := cdv) (A := A) (outer := outer) (s := s) (H := H) (E := E)
  have pas := pas_of (P := P) (w := w) (K := K) (mg := mg) (base := base) (N := N_is_right_shape) (qual := (Str.ofString "is_right_shape")) (scope := defScope s_is_right_shape) (f := (He.fAd K ((Str.ofString "is_right_shape"), none))) (cdv := cdv) (A := A) (outer := outer) (s := s) (H := H) (E := E)
  exact (scons_ (sif_ (tw_ (wor_ (tnot_ (tv_ (call_ (F_is_sized T) hr (by decide) tk (cons_ (v_ 0) (cons_ ci_ (cons_ (cgi_ T.i_MOST_HOUSES) nil_)))))) (w1or_ (tnot_ (tv_ (bf_ (b_all rfl) T.f_all (by decide +kernel) (cons_ (lc_ (own := [((Str.ofString "part"), 2)]) false (.n 2) rfl nd (iseq_ (v_ 0)) (blkOk_by (N := N_is_right_shape) (sc := (defScope s_is_right_shape)) (by decide +kernel)) (by decide) (fun _ _ _ _ _ => (tg1_ 2 nd)) (fun _ _ _ _ _ => no_if) (fun _ _ _ _ _ => (call_ (F_is_part T) hr (by decide) takes_none5 (cons_ (bf_ b_len T.f_len (by decide +kernel) (cons_ (v_ 0) nil_)) (cons_ (v_ 2) nil_))))) nil_))))))) (sone_ (ret_ cb_)) snil_)
    (scons_ (for_ (.n 1) pas rfl (irng1_ T.f_range (cons_ (bf_ b_len T.f_len (by decide +kernel) (cons_ (v_ 0) nil_)) nil_)) (tg1_ 1 nd) (sone_ (sif_ (tnot_ (tv_ (bf_ (b_all rfl) T.f_all (by decide +kernel) (cons_ (lc_ (own := [((Str.ofString "son"), 3)]) false (.n 3) rfl nd (iseq_ (call_ (F_sons_of T) hr (by decide) tk (cons_ (v_ 0) (cons_ (v_ 1) nil_)))) (blkOk_by (N := N_is_right_shape) (sc := (defScope s_is_right_shape)) (by decide +kernel)) (by decide) (fun _ _ _ _ _ => (tg1_ 3 nd)) (fun _ _ _ _ _ => no_if) (fun _ _ _ _ _ => (cm_ (o_eq hr) (ix_ (ix_ (v_ 0) (v_ 3) (fun _ _ => rfl)) (cgi_ T.i_UP) (fun _ _ => rfl)) (v_ 1) (nomark _)))) nil_)))) (sone_ (ret_ cb_)) snil_)))
    (sone_ (ret_ (bf_ (b_all rfl) T.f_all (by decide +kernel) (cons_ (lc_ (own := [((Str.ofString "house"), 1)]) false (.n 1) rfl nd (irng1_ T.f_range (cons_ (bf_ b_len T.f_len (by decide +kernel) (cons_ (v_ 0) nil_)) nil_)) (blkOk_by (N := N_is_right_shape) (sc := (defScope s_is_right_shape)) (by decide +kernel)) (by decide) (fun _ _ _ _ _ => (tg1_ 1 nd)) (fun _ _ _ _ _ => no_if) (fun _ _ _ _ _ => (call_ (F_comes_out T) hr (by decide) takes_none5 (cons_ (v_ 0) (cons_ (v_ 1) nil_))))) nil_))))))
set_option maxHeartbeats 4000000 in
theorem sc_check_shape : FnScope N_check_shape [(Str.ofString "thing")] (defScope s_check_shape) := ⟨rfl, rfl, rfl, by decide +kernel, rfl, by decide +kernel, by decide +kernel⟩
theorem F_check_shape (T : Tx w K mg) : Fn3 P w K mg base (Str.ofString "check_shape") 7 sp_check_shape := by
  obtain ⟨fd, F⟩ := T.d_check_shape
  refine fn3 T.g_check_shape F sc_check_shape (FunD.bindsN F fun _ _ _ _ _ _ us hl => match us, hl with | [_], _ => rfl) (fun ds G Q E h => by unfold sp_check_shape at h; split at h <;> first | rfl | exact h.elim) ⟨t_check_shape, fun cdv A outer s H E hr => ?_, vc_check_shape⟩
  have nd := (sc_check_shape).nd
  have tk := tk_of (P := P) (w := w) (K := K) (mg := mg) (base := base) (N := N_check_shape) (qual := (Str.ofString "check_shape")) (scope := defScope s_check_shape) (f := (He.fAd K ((Str.ofString "check_shape"), none))) (cdv := cdv) (A := A) (outer := outer) (s := s) (H := H) (E := E)
  exact (sone_ (sif_ (tnot_ (tv_ (call_ (F_is_right_shape T) hr (by decide) tk (cons_ (v_ 0) nil_)))) (sone_ (raise0_ rfl tk T.x_NoShape T.g_NoShape)) snil_))
set_option maxHeartbeats 4000000 in
theorem sc_reached : FnScope N_reached [(Str.ofString "shape"), (Str.ofString "house")] (defScope s_reached) := ⟨rfl, rfl, rfl, by decide +kernel, rfl, by decide +kernel, by decide +kernel⟩
theorem F_reached (T : Tx w K mg) : Fn3 P w K mg base (Str.ofString "reached") 9 sp_reached := by
  obtain ⟨fd, F⟩ := T.d_reached
  refine fn3 T.g_reached F sc_reached (FunD.bindsN F fun _ _ _ _ _ _ us hl => match us, hl with | [_, _], _ => rfl) (fun ds G Q E h => by unfold sp_reached at h; split at h <;> first | rfl | exact h.elim) ⟨t_reached, fun cdv A outer s H E hr => ?_, vc_reached⟩
  have nd := (sc_reached).nd
  have tk := tk_of (P := P) (w := w) (K := K) (mg := mg) (base := base) (N := N_reached) (qual := (Str.ofString "reached")) (scope := defScope s_reached) (f := (He.fAd K ((Str.ofString "reached"), none))) (cdv := cdv) (A := A) (outer := outer) (s := s) (H := H) (E := E)
  exact (scons_ (expr_ (call_ (F_check_shape T) hr (by decide) tk (cons_ (v_ 0) nil_)))
    (scons_ (expr_ (call_ (F_check_house T) hr (by decide) tk (cons_ (bf_ b_len T.f_len (by decide +kernel) (cons_ (v_ 0) nil_)) (cons_ (v_ 1) nil_))))
    (scons_ (unp_ [2, 3, 4] (call_ (F_after_reaching T) hr (by decide) tk (cons_ (v_ 0) (cons_ (v_ 1) (cons_ (call_ (F_sum_of_ranks T) hr (by decide) tk (cons_ (v_ 0) nil_)) nil_)))) (tgt_ rfl (pgs_cons (tg1_ 2 nd) (pgs_cons (tg1_ 3 nd) (pgs_cons (tg1_ 4 nd) pgs_nil)))))
    (sone_ (ret_ (tup_ (cons_ (v_ 2) (cons_ (v_ 4) nil_))))))))
set_option maxHeartbeats 4000000 in
theorem sc__law_word : FnScope N__law_word [(Str.ofString "_law_call")] (defScope s__law_word) := ⟨rfl, rfl, rfl, by decide +kernel, rfl, by decide +kernel, by decide +kernel⟩
theorem F__law_word (T : Tx w K mg) : Lw3 P w K mg base (Str.ofString "_law_word") 10 sp__law_word := by
  obtain ⟨fd, F⟩ := T.d__law_word
  refine ⟨_, fd, (Str.ofString "_law_call"), N__law_word, _, _, _, t__law_word, T.g__law_word, F, sc__law_word, (FunD.bindsN F fun _ _ _ _ _ _ us hl => match us, hl with | [_], _ => rfl), rfl, .inl rfl, by decide, by decide, fun L tl cdv A outer s H E hr act => ?_, vc__law_word⟩
  have nd := (sc__law_word).nd
  have tk := tk_of (P := P) (w := w) (K := K) (mg := mg) (base := base) (N := N__law_word) (qual := (Str.ofString "_law_word")) (scope := defScope s__law_word) (f := (He.fAd K ((Str.ofString "_law_word"), none))) (cdv := cdv) (A := A) (outer := outer) (s := s) (H := H) (E := E)
  exact (scons_ (set_ 1 cs_ nd)
    (scons_ (try_ rfl rfl nd tk T.exm (fun _ _ _ tk pas => (sone_ (expr_ (act _ _ _ _ _ tk)))) (.consA 2 ⟨rfl, by decide +kernel, .inl T.g_ForestError⟩ rfl rfl (fun _ _ _ _ _ hz hf => (scons_ (set_ 3 (lst_ false (cons_ (isie_ T.exi hz hf T.f_isinstance (isc_oe T.g_NoShape) (v_ 2)) (cons_ (isie_ T.exi hz hf T.f_isinstance (isc_oe T.g_NoHouse) (v_ 2)) (cons_ (isie_ T.exi hz hf T.f_isinstance (isc_oe T.g_NoNumber) (v_ 2)) nil_)))) nd)
    (scons_ (set_ 1 cs_ nd)
    (sone_ (sif_ (tw_ (wand_ (tcm_ o_eqs (m_ PySem.F.plainAttrs_list PySem.F.slot_list_count PySem.F.type_list_count ty_list me_count (v_ 3) (cons_ cb_ nil_)) ci_ (nomark _)) (w1and_ (tv_ (isie_ T.exi hz hf T.f_isinstance (isc_ve T.f_ValueError) (v_ 2)))))) (sone_ (set_ 1 (ix_ (lst_ false (cons_ cs_ (cons_ cs_ (cons_ cs_ nil_)))) (m_ PySem.F.plainAttrs_list PySem.F.slot_list_index PySem.F.type_list_index ty_list me_index (v_ 3) (cons_ cb_ nil_)) (fun _ _ => rfl)) nd)) snil_))))) .nil))
    (sone_ (ret_ (v_ 1)))))
set_option maxHeartbeats 4000000 in
theorem sc_law : FnScope N_law [(Str.ofString "_law_script")] (defScope s_law) := ⟨rfl, rfl, rfl, by decide +kernel, rfl, by decide +kernel, by decide +kernel⟩
set_option maxHeartbeats 8000000 in
theorem F_law (T : Tx w K mg) (Pt : Addr) : ∃ fd, (∀ (s : Shared) (u : Value), BindsTo s fd ⟨[u], []⟩ [((Str.ofString "_law_script"), u)]) ∧ ∀ base : Heap, LamX.TabB base mg (He.codeOf K ((Str.ofString "law"), none)) Pt → FnOk P w K mg base (L2.CX P w) 71 (ga K (Str.ofString "law")) fd [(Str.ofString "_law_script")] (liftSp ⟨K, Z0⟩ (sp_law Pt)) := by
  obtain ⟨fd, F⟩ := T.d_law
  refine ⟨fd, fun s u => (FunD.bindsA (ps := [(Str.ofString "_law_script")]) F fun _ _ _ _ _ _ us hl => match us, hl with | [_], _ => rfl) s [u] rfl, fun base TB => fn3_ofc F (code_of F) sc_law (fun ds G Q E h => by unfold sp_law at h; split at h <;> first | rfl | exact h.elim) ⟨t_law Pt, fun A outer s H E hr => ?_, vc_law Pt⟩⟩
  have nd := (sc_law).nd
  have tk := tk_of (P := P) (w := w) (K := K) (mg := mg) (base := base) (N := N_law) (qual := (Str.ofString "law")) (scope := defScope s_law) (f := (He.fAd K ((Str.ofString "law"), none))) (cdv := .ref (He.codeOf K ((Str.ofString "law"), none))) (A := A) (outer := outer) (s := s) (H := H) (E := E)
  have pas := pas_of (P := P) (w := w) (K := K) (mg := mg) (base := base) (N := N_law) (qual := (Str.ofString "law")) (scope := defScope s_law) (f := (He.fAd K ((Str.ofString "law"), none))) (cdv := .ref (He.codeOf K ((Str.ofString "law"), none))) (A := A) (outer := outer) (s := s) (H := H) (E := E)
  exact (scons_ (set_ 1 (call_ (F__law_hand T) hr (by decide) tk (cons_ (v_ 0) nil_)) nd)
    (scons_ (for_ (.n 2) pas rfl (irng1_ T.f_range (cons_ ci_ nil_)) (tg1_ 2 nd) (scons_ (unp_ [5, 6] (call_ (F__law_trees T) hr (by decide) tk (cons_ (v_ 1) (cons_ (op_ (o_add false) ci_ (call_ (F__law_draw T) hr (by decide) tk (cons_ (v_ 1) (cons_ ci_ nil_)))) nil_))) (tgt_ rfl (pgs_cons (tg1_ 5 nd) (pgs_cons (tg1_ 6 nd) pgs_nil))))
    (scons_ (set_ 3 (call_ (F__law_shape T) hr (by decide) tk (cons_ (call_ (F__law_laid T) hr (by decide) tk (cons_ (v_ 1) (cons_ (v_ 5) (cons_ (v_ 6) nil_)))) nil_)) nd)
    (sone_ (for_ (.n 4) pas rfl (irng1_ T.f_range (cons_ ci_ nil_)) (tg1_ 4 nd) (scons_ (set_ 7 (v_ 3) nd)
    (scons_ (sif_ (tcm_ o_gt (call_ (F__law_draw T) hr (by decide) tk (cons_ (v_ 1) (cons_ ci_ nil_))) ci_ (nomark _)) (sone_ (set_ 7 (call_ (F__law_bent T) hr (by decide) tk (cons_ (v_ 1) (cons_ (v_ 3) (cons_ (fz_ (mk_ T.m_Forest (F_Forest___init__ T) T.g_Forest hr (by decide) tk (cons_ (tup_ (cons_ cn_ nil_)) (cons_ (tup_ (cons_ ci_ nil_)) nil_)))) nil_)))) nd)) snil_)
    (scons_ (set_ 8 (lst_ true (cons_ (bf_ b_len T.f_len (by decide +kernel) (cons_ (v_ 3) nil_)) (cons_ (neg_ ci_) (cons_ cb_ (cons_ cn_ (cons_ cs_ (cons_ (tup_ (cons_ ci_ nil_)) (cons_ (op_ o_pow ci_ ci_) (cons_ (call_ (F__law_deep T) hr (by decide) tk (cons_ ci_ nil_)) (cons_ (call_ (F__law_deep T) hr (by decide) tk (cons_ ci_ nil_)) (cons_ emp_ nil_))))))))))) nd)
    (scons_ (expr_ (m_ PySem.F.plainAttrs_list PySem.F.slot_list_append PySem.F.type_list_append ty_list me_append (v_ 8) (cons_ (fz_ (mk_ T.m_Forest (F_Forest___init__ T) T.g_Forest hr (by decide) tk (cons_ (tup_ (cons_ cn_ nil_)) (cons_ (tup_ (cons_ ci_ nil_)) nil_)))) nil_)))
    (scons_ (set_ 9 (call_ (F__law_some T) hr (by decide) tk (cons_ (v_ 1) (cons_ (op_ (o_add false) (op_ (o_mul false) (lst_ false (cons_ (call_ (F__law_draw T) hr (by decide) tk (cons_ (v_ 1) (cons_ (bf_ b_len T.f_len (by decide +kernel) (cons_ (v_ 3) nil_)) nil_))) nil_)) ci_) (v_ 8)) nil_))) nd)
    (scons_ (set_ 10 cs_ nd)
    (scons_ (sif_ (tnot_ (tv_ (call_ (F__law_is_shape T) hr (by decide) tk (cons_ (v_ 7) nil_)))) (sone_ (set_ 10 cs_ nd)) (sone_ (sif_ (tnot_ (tv_ (call_ (F__law_is_number T) hr (by decide) tk (cons_ (v_ 9) (cons_ (bf_ b_len T.f_len (by decide +kernel) (cons_ (v_ 7) nil_)) nil_))))) (sone_ (set_ 10 cs_ nd)) snil_)))
    (scons_ (sif_ (tcm_ (o_ne hr) (lamwc_ (F__law_word T) TB hr (by decide) (LamX.lamS_by (sc := defScope s_law) (by decide +kernel)) (fun _ _ _ _ _ _ _ hr => (call_ (F_reached T) hr (by decide) takes_lam (cons_ (v_ 7) (cons_ (v_ 9) nil_)))) (by decide)) (v_ 10) (nomark _)) (sone_ (ret_ cb_)) snil_)
    (scons_ (set_ 11 (call_ (F__law_some T) hr (by decide) tk (cons_ (v_ 1) (cons_ (lst_ false (cons_ ci_ (cons_ ci_ (cons_ ci_ (cons_ ci_ (cons_ (neg_ ci_) (cons_ cb_ (cons_ cn_ (cons_ cs_ (cons_ (tup_ (cons_ ci_ nil_)) (cons_ (call_ (F__law_deep T) hr (by decide) tk (cons_ ci_ nil_)) (cons_ (fz_ (mk_ T.m_Forest (F_Forest___init__ T) T.g_Forest hr (by decide) tk (cons_ (tup_ (cons_ cn_ nil_)) (cons_ (tup_ (cons_ ci_ nil_)) nil_)))) nil_)))))))))))) nil_))) nd)
    (scons_ (set_ 10 (if_ (tw_ (wand_ (tv_ (call_ (F__law_is_number T) hr (by decide) tk (cons_ (v_ 11) (cons_ ci_ nil_)))) (w1and_ (tcm_ o_gt (v_ 11) ci_ (nomark _))))) cs_ cs_) nd)
    (sone_ (sif_ (tcm_ (o_ne hr) (lamwc_ (F__law_word T) TB hr (by decide) (LamX.lamS_by (sc := defScope s_law) (by decide +kernel)) (fun _ _ _ _ _ _ _ hr => (call_ (F_is_paper T) hr (by decide) takes_lam (cons_ (v_ 11) (cons_ cn_ nil_)))) (by decide)) (v_ 10) (nomark _)) (sone_ (ret_ cb_)) snil_)))))))))))))))))
    (sone_ (ret_ cb_))))
end
theorem law_start (Pt : Addr) (ns : List Int) (Q : QK) (E : EK) (l : ns.length ≤ 63) (h : ∀ G, Q (.bl true) G) : sp_law Pt [.sl (ns.map D.int)] (fun b => if b = Pt then some (.tb (Str.ofString "law" ++ (".<locals>." : Str) ++ ("<lambda>" : Str))) else none) Q E :=
  ⟨fun x hx => by obtain ⟨i, _, e⟩ := List.mem_map.mp hx; exact ⟨i, e.symm⟩, by simpa using l, if_pos rfl, h⟩
/-! ### the head -/
def dd_comes_to_none : He.DefD := ⟨((Str.ofString "comes_to_none"), none), (Str.ofString "comes_to_none"), (Str.ofString "comes_to_none"), defArgs s_comes_to_none, defBody s_comes_to_none, defScope s_comes_to_none, [], []⟩
def dd_is_integer : He.DefD := ⟨((Str.ofString "is_integer"), none), (Str.ofString "is_integer"), (Str.ofString "is_integer"), defArgs s_is_integer, defBody s_is_integer, defScope s_is_integer, [], []⟩
def dd_is_within : He.DefD := ⟨((Str.ofString "is_within"), none), (Str.ofString "is_within"), (Str.ofString "is_within"), defArgs s_is_within, defBody s_is_within, defScope s_is_within, [], []⟩
def dd_is_below : He.DefD := ⟨((Str.ofString "is_below"), none), (Str.ofString "is_below"), (Str.ofString "is_below"), defArgs s_is_below, defBody s_is_below, defScope s_is_below, [], []⟩
def dd_is_sized : He.DefD := ⟨((Str.ofString "is_sized"), none), (Str.ofString "is_sized"), (Str.ofString "is_sized"), defArgs s_is_sized, defBody s_is_sized, defScope s_is_sized, [], []⟩
def dd_are_parents : He.DefD := ⟨((Str.ofString "are_parents"), none), (Str.ofString "are_parents"), (Str.ofString "are_parents"), defArgs s_are_parents, defBody s_are_parents, defScope s_are_parents, [], []⟩
def dd_Forest___init__ : He.DefD := ⟨((Str.ofString "Forest"), some (Str.ofString "__init__")), (Str.ofString "__init__"), (Str.ofString "Forest.__init__"), defArgs s_Forest___init__, defBody s_Forest___init__, defScope s_Forest___init__, [], []⟩
def dd__law_deep : He.DefD := ⟨((Str.ofString "_law_deep"), none), (Str.ofString "_law_deep"), (Str.ofString "_law_deep"), defArgs s__law_deep, defBody s__law_deep, defScope s__law_deep, [], []⟩
def dd__law_draw : He.DefD := ⟨((Str.ofString "_law_draw"), none), (Str.ofString "_law_draw"), (Str.ofString "_law_draw"), defArgs s__law_draw, defBody s__law_draw, defScope s__law_draw, [], []⟩
def dd__law_some : He.DefD := ⟨((Str.ofString "_law_some"), none), (Str.ofString "_law_some"), (Str.ofString "_law_some"), defArgs s__law_some, defBody s__law_some, defScope s__law_some, [], []⟩
def dd__law_bent : He.DefD := ⟨((Str.ofString "_law_bent"), none), (Str.ofString "_law_bent"), (Str.ofString "_law_bent"), defArgs s__law_bent, defBody s__law_bent, defScope s__law_bent, [], []⟩
def dd__law_hand : He.DefD := ⟨((Str.ofString "_law_hand"), none), (Str.ofString "_law_hand"), (Str.ofString "_law_hand"), defArgs s__law_hand, defBody s__law_hand, defScope s__law_hand, [], []⟩
def dd__law_is_number : He.DefD := ⟨((Str.ofString "_law_is_number"), none), (Str.ofString "_law_is_number"), (Str.ofString "_law_is_number"), defArgs s__law_is_number, defBody s__law_is_number, defScope s__law_is_number, [], []⟩
def dd__law_is_integer : He.DefD := ⟨((Str.ofString "_law_is_integer"), none), (Str.ofString "_law_is_integer"), (Str.ofString "_law_is_integer"), defArgs s__law_is_integer, defBody s__law_is_integer, defScope s__law_is_integer, [], []⟩
def dd__law_is_shape : He.DefD := ⟨((Str.ofString "_law_is_shape"), none), (Str.ofString "_law_is_shape"), (Str.ofString "_law_is_shape"), defArgs s__law_is_shape, defBody s__law_is_shape, defScope s__law_is_shape, [], []⟩
def dd__law_planted : He.DefD := ⟨((Str.ofString "_law_planted"), none), (Str.ofString "_law_planted"), (Str.ofString "_law_planted"), defArgs s__law_planted, defBody s__law_planted, defScope s__law_planted, [], []⟩
def dd__law_shuffled : He.DefD := ⟨((Str.ofString "_law_shuffled"), none), (Str.ofString "_law_shuffled"), (Str.ofString "_law_shuffled"), defArgs s__law_shuffled, defBody s__law_shuffled, defScope s__law_shuffled, [], []⟩
def dd__law_rows_of : He.DefD := ⟨((Str.ofString "_law_rows_of"), none), (Str.ofString "_law_rows_of"), (Str.ofString "_law_rows_of"), defArgs s__law_rows_of, defBody s__law_rows_of, defScope s__law_rows_of, [], []⟩
def dd__law_laid : He.DefD := ⟨((Str.ofString "_law_laid"), none), (Str.ofString "_law_laid"), (Str.ofString "_law_laid"), defArgs s__law_laid, defBody s__law_laid, defScope s__law_laid, [], []⟩
def dd__law_shape : He.DefD := ⟨((Str.ofString "_law_shape"), none), (Str.ofString "_law_shape"), (Str.ofString "_law_shape"), defArgs s__law_shape, defBody s__law_shape, defScope s__law_shape, [], []⟩
def dd__law_trees : He.DefD := ⟨((Str.ofString "_law_trees"), none), (Str.ofString "_law_trees"), (Str.ofString "_law_trees"), defArgs s__law_trees, defBody s__law_trees, defScope s__law_trees, [], []⟩
def dd_check_within : He.DefD := ⟨((Str.ofString "check_within"), none), (Str.ofString "check_within"), (Str.ofString "check_within"), defArgs s_check_within, defBody s_check_within, defScope s_check_within, [], []⟩
def dd_is_number : He.DefD := ⟨((Str.ofString "is_number"), none), (Str.ofString "is_number"), (Str.ofString "is_number"), defArgs s_is_number, defBody s_is_number, defScope s_is_number, [], []⟩
def dd_rank_of : He.DefD := ⟨((Str.ofString "rank_of"), none), (Str.ofString "rank_of"), (Str.ofString "rank_of"), defArgs s_rank_of, defBody s_rank_of, defScope s_rank_of, [], []⟩
def dd_most_of : He.DefD := ⟨((Str.ofString "most_of"), none), (Str.ofString "most_of"), (Str.ofString "most_of"), defArgs s_most_of, defBody s_most_of, defScope s_most_of, [], []⟩
def dd_is_paper : He.DefD := ⟨((Str.ofString "is_paper"), none), (Str.ofString "is_paper"), (Str.ofString "is_paper"), defArgs s_is_paper, defBody s_is_paper, defScope s_is_paper, [], []⟩
def dd_replaced : He.DefD := ⟨((Str.ofString "replaced"), none), (Str.ofString "replaced"), (Str.ofString "replaced"), defArgs s_replaced, defBody s_replaced, defScope s_replaced, [], []⟩
def dd_changed : He.DefD := ⟨((Str.ofString "changed"), none), (Str.ofString "changed"), (Str.ofString "changed"), defArgs s_changed, defBody s_changed, defScope s_changed, [], []⟩
def dd_sons_of : He.DefD := ⟨((Str.ofString "sons_of"), none), (Str.ofString "sons_of"), (Str.ofString "sons_of"), defArgs s_sons_of, defBody s_sons_of, defScope s_sons_of, [], []⟩
def dd_with_more : He.DefD := ⟨((Str.ofString "with_more"), none), (Str.ofString "with_more"), (Str.ofString "with_more"), defArgs s_with_more, defBody s_with_more, defScope s_with_more, [], []⟩
def dd_after_handing : He.DefD := ⟨((Str.ofString "after_handing"), none), (Str.ofString "after_handing"), (Str.ofString "after_handing"), defArgs s_after_handing, defBody s_after_handing, defScope s_after_handing, [], []⟩
def dd_is_son : He.DefD := ⟨((Str.ofString "is_son"), none), (Str.ofString "is_son"), (Str.ofString "is_son"), defArgs s_is_son, defBody s_is_son, defScope s_is_son, [], []⟩
def dd_side_of : He.DefD := ⟨((Str.ofString "side_of"), none), (Str.ofString "side_of"), (Str.ofString "side_of"), defArgs s_side_of, defBody s_side_of, defScope s_side_of, [], []⟩
def dd_after_turn : He.DefD := ⟨((Str.ofString "after_turn"), none), (Str.ofString "after_turn"), (Str.ofString "after_turn"), defArgs s_after_turn, defBody s_after_turn, defScope s_after_turn, [], []⟩
def dd_after_step : He.DefD := ⟨((Str.ofString "after_step"), none), (Str.ofString "after_step"), (Str.ofString "after_step"), defArgs s_after_step, defBody s_after_step, defScope s_after_step, [], []⟩
def dd_down_to : He.DefD := ⟨((Str.ofString "down_to"), none), (Str.ofString "down_to"), (Str.ofString "down_to"), defArgs s_down_to, defBody s_down_to, defScope s_down_to, [], []⟩
def dd_to_top : He.DefD := ⟨((Str.ofString "to_top"), none), (Str.ofString "to_top"), (Str.ofString "to_top"), defArgs s_to_top, defBody s_to_top, defScope s_to_top, [], []⟩
def dd_met_from : He.DefD := ⟨((Str.ofString "met_from"), none), (Str.ofString "met_from"), (Str.ofString "met_from"), defArgs s_met_from, defBody s_met_from, defScope s_met_from, [], []⟩
def dd_spliced : He.DefD := ⟨((Str.ofString "spliced"), none), (Str.ofString "spliced"), (Str.ofString "spliced"), defArgs s_spliced, defBody s_spliced, defScope s_spliced, [], []⟩
def dd_all_weights : He.DefD := ⟨((Str.ofString "all_weights"), none), (Str.ofString "all_weights"), (Str.ofString "all_weights"), defArgs s_all_weights, defBody s_all_weights, defScope s_all_weights, [], []⟩
def dd_sum_of_ranks : He.DefD := ⟨((Str.ofString "sum_of_ranks"), none), (Str.ofString "sum_of_ranks"), (Str.ofString "sum_of_ranks"), defArgs s_sum_of_ranks, defBody s_sum_of_ranks, defScope s_sum_of_ranks, [], []⟩
def dd_after_reaching : He.DefD := ⟨((Str.ofString "after_reaching"), none), (Str.ofString "after_reaching"), (Str.ofString "after_reaching"), defArgs s_after_reaching, defBody s_after_reaching, defScope s_after_reaching, [], []⟩
def dd_check_house : He.DefD := ⟨((Str.ofString "check_house"), none), (Str.ofString "check_house"), (Str.ofString "check_house"), defArgs s_check_house, defBody s_check_house, defScope s_check_house, [], []⟩
def dd_comes_out : He.DefD := ⟨((Str.ofString "comes_out"), none), (Str.ofString "comes_out"), (Str.ofString "comes_out"), defArgs s_comes_out, defBody s_comes_out, defScope s_comes_out, [], []⟩
def dd_is_place : He.DefD := ⟨((Str.ofString "is_place"), none), (Str.ofString "is_place"), (Str.ofString "is_place"), defArgs s_is_place, defBody s_is_place, defScope s_is_place, [], []⟩
def dd_is_part : He.DefD := ⟨((Str.ofString "is_part"), none), (Str.ofString "is_part"), (Str.ofString "is_part"), defArgs s_is_part, defBody s_is_part, defScope s_is_part, [], []⟩
def dd_is_right_shape : He.DefD := ⟨((Str.ofString "is_right_shape"), none), (Str.ofString "is_right_shape"), (Str.ofString "is_right_shape"), defArgs s_is_right_shape, defBody s_is_right_shape, defScope s_is_right_shape, [], []⟩
def dd_check_shape : He.DefD := ⟨((Str.ofString "check_shape"), none), (Str.ofString "check_shape"), (Str.ofString "check_shape"), defArgs s_check_shape, defBody s_check_shape, defScope s_check_shape, [], []⟩
def dd_reached : He.DefD := ⟨((Str.ofString "reached"), none), (Str.ofString "reached"), (Str.ofString "reached"), defArgs s_reached, defBody s_reached, defScope s_reached, [], []⟩
def dd__law_word : He.DefD := ⟨((Str.ofString "_law_word"), none), (Str.ofString "_law_word"), (Str.ofString "_law_word"), defArgs s__law_word, defBody s__law_word, defScope s__law_word, [], []⟩
def dd_law : He.DefD := ⟨((Str.ofString "law"), none), (Str.ofString "law"), (Str.ofString "law"), defArgs s_law, defBody s_law, defScope s_law, [], []⟩
def fn : List He.DefD := [dd_comes_to_none, dd_is_integer, dd_is_within, dd_is_below, dd_is_sized, dd_are_parents, dd_Forest___init__, dd__law_deep, dd__law_draw, dd__law_some, dd__law_bent, dd__law_hand, dd__law_is_number, dd__law_is_integer, dd__law_is_shape, dd__law_planted, dd__law_shuffled, dd__law_rows_of, dd__law_laid, dd__law_shape, dd__law_trees, dd_check_within, dd_is_number, dd_rank_of, dd_most_of, dd_is_paper, dd_replaced, dd_changed, dd_sons_of, dd_with_more, dd_after_handing, dd_is_son, dd_side_of, dd_after_turn, dd_after_step, dd_down_to, dd_to_top, dd_met_from, dd_spliced, dd_all_weights, dd_sum_of_ranks, dd_after_reaching, dd_check_house, dd_comes_out, dd_is_place, dd_is_part, dd_is_right_shape, dd_check_shape, dd_reached, dd__law_word, dd_law]
def fa : List He.Fa := [.free (Str.ofString "isinstance"), .free (Str.ofString "int"), .free (Str.ofString "bool"), .glo (Str.ofString "is_integer"), .glo (Str.ofString "is_within"), .free (Str.ofString "tuple"), .free (Str.ofString "len"), .exc (Str.ofString "NoNumber"), .glo (Str.ofString "NoNumber"), .free (Str.ofString "range"), .int (Str.ofString "MOST_HOUSES") 64, .glo (Str.ofString "is_sized"), .glo (Str.ofString "is_below"), .free (Str.ofString "all"), .glo (Str.ofString "comes_to_none"), .glo (Str.ofString "are_parents"), .cls (Str.ofString "Forest"), .noat (Str.ofString "Forest") (Str.ofString "parents"), .noat (Str.ofString "Forest") (Str.ofString "worths"), .exc (Str.ofString "NoHouse"), .glo (Str.ofString "NoHouse"), .int (Str.ofString "PARTS") 6, .int (Str.ofString "TURNED") 3, .glo (Str.ofString "is_place"), .int (Str.ofString "LEFT") 1, .int (Str.ofString "RIGHT") 2, .int (Str.ofString "ADDED") 4, .int (Str.ofString "VALUE") 5, .int (Str.ofString "UP") 0, .glo (Str.ofString "is_part"), .glo (Str.ofString "sons_of"), .glo (Str.ofString "comes_out"), .glo (Str.ofString "is_right_shape"), .exc (Str.ofString "NoShape"), .glo (Str.ofString "NoShape"), .free (Str.ofString "enumerate"), .glo (Str.ofString "all_weights"), .glo (Str.ofString "rank_of"), .free (Str.ofString "sum"), .glo (Str.ofString "replaced"), .glo (Str.ofString "with_more"), .glo (Str.ofString "changed"), .glo (Str.ofString "after_handing"), .glo (Str.ofString "side_of"), .glo (Str.ofString "is_son"), .glo (Str.ofString "after_turn"), .glo (Str.ofString "down_to"), .glo (Str.ofString "after_step"), .glo (Str.ofString "to_top"), .glo (Str.ofString "met_from"), .glo (Str.ofString "spliced"), .glo (Str.ofString "sum_of_ranks"), .glo (Str.ofString "check_shape"), .glo (Str.ofString "check_house"), .glo (Str.ofString "after_reaching"), .int (Str.ofString "MOST_BY_RANK") 30, .int (Str.ofString "MOST_BESIDE") 7, .glo (Str.ofString "check_within"), .glo (Str.ofString "is_number"), .int (Str.ofString "TIMES") 5, .glo (Str.ofString "most_of"), .free (Str.ofString "abs"), .glo (Str.ofString "_law_draw"), .free (Str.ofString "list"), .glo (Str.ofString "_law_shuffled"), .glo (Str.ofString "_law_some"), .glo (Str.ofString "_law_planted"), .glo (Str.ofString "_law_rows_of"), .glo (Str.ofString "ForestError"), .free (Str.ofString "ValueError"), .glo (Str.ofString "_law_is_number"), .glo (Str.ofString "_law_is_integer"), .glo (Str.ofString "_law_deep"), .glo (Str.ofString "_law_hand"), .glo (Str.ofString "_law_trees"), .glo (Str.ofString "_law_laid"), .glo (Str.ofString "_law_shape"), .glo (Str.ofString "Forest"), .mkr (Str.ofString "Forest"), .glo (Str.ofString "_law_bent"), .glo (Str.ofString "_law_is_shape"), .glo (Str.ofString "reached"), .glo (Str.ofString "_law_word"), .glo (Str.ofString "is_paper"), .glo (Str.ofString "law")]
def ts : List He.Tab := []
def exAll (K : PySem.W.Frag) : Bool := isfB OC K && (exiB EXI K && (exmB EXM K && (true)))
def tf : List He.Defn := [((Str.ofString "law"), none)]
theorem tx_of {w : World} {K : PySem.W.Frag} {h : Heap} {mg : Str → Option Value} (X : K.In h) (G : h.Ns mainGlobals mg) (c : He.SaysX fa fn ts tf exAll w h K) : Tx w K mg where
  f_isinstance := He.free_ok X G (c.t.d.fact 0 (f := .free (Str.ofString "isinstance")) rfl)
  f_int := He.free_ok X G (c.t.d.fact 1 (f := .free (Str.ofString "int")) rfl)
  isf := isf_ok (He.ba c.more).1
  f_bool := He.free_ok X G (c.t.d.fact 2 (f := .free (Str.ofString "bool")) rfl)
  g_is_integer := He.glo_ok X G (c.t.d.fact 3 (f := .glo (Str.ofString "is_integer")) rfl)
  g_is_within := He.glo_ok X G (c.t.d.fact 4 (f := .glo (Str.ofString "is_within")) rfl)
  f_tuple := He.free_ok X G (c.t.d.fact 5 (f := .free (Str.ofString "tuple")) rfl)
  f_len := He.free_ok X G (c.t.d.fact 6 (f := .free (Str.ofString "len")) rfl)
  x_NoNumber := excF_ok (c.t.d.fact 7 (f := .exc (Str.ofString "NoNumber")) rfl)
  g_NoNumber := He.glo_ok X G (c.t.d.fact 8 (f := .glo (Str.ofString "NoNumber")) rfl)
  f_range := He.free_ok X G (c.t.d.fact 9 (f := .free (Str.ofString "range")) rfl)
  i_MOST_HOUSES := He.int_ok X G (c.t.d.fact 10 (f := .int (Str.ofString "MOST_HOUSES") 64) rfl)
  g_is_sized := He.glo_ok X G (c.t.d.fact 11 (f := .glo (Str.ofString "is_sized")) rfl)
  g_is_below := He.glo_ok X G (c.t.d.fact 12 (f := .glo (Str.ofString "is_below")) rfl)
  f_all := He.free_ok X G (c.t.d.fact 13 (f := .free (Str.ofString "all")) rfl)
  g_comes_to_none := He.glo_ok X G (c.t.d.fact 14 (f := .glo (Str.ofString "comes_to_none")) rfl)
  g_are_parents := He.glo_ok X G (c.t.d.fact 15 (f := .glo (Str.ofString "are_parents")) rfl)
  c_Forest := He.cls_ok (c.t.d.fact 16 (f := .cls (Str.ofString "Forest")) rfl)
  n_Forest_parents := He.noat_ok (c.t.d.fact 17 (f := .noat (Str.ofString "Forest") (Str.ofString "parents")) rfl)
  n_Forest_worths := He.noat_ok (c.t.d.fact 18 (f := .noat (Str.ofString "Forest") (Str.ofString "worths")) rfl)
  x_NoHouse := excF_ok (c.t.d.fact 19 (f := .exc (Str.ofString "NoHouse")) rfl)
  g_NoHouse := He.glo_ok X G (c.t.d.fact 20 (f := .glo (Str.ofString "NoHouse")) rfl)
  i_PARTS := He.int_ok X G (c.t.d.fact 21 (f := .int (Str.ofString "PARTS") 6) rfl)
  i_TURNED := He.int_ok X G (c.t.d.fact 22 (f := .int (Str.ofString "TURNED") 3) rfl)
  g_is_place := He.glo_ok X G (c.t.d.fact 23 (f := .glo (Str.ofString "is_place")) rfl)
  i_LEFT := He.int_ok X G (c.t.d.fact 24 (f := .int (Str.ofString "LEFT") 1) rfl)
  i_RIGHT := He.int_ok X G (c.t.d.fact 25 (f := .int (Str.ofString "RIGHT") 2) rfl)
  i_ADDED := He.int_ok X G (c.t.d.fact 26 (f := .int (Str.ofString "ADDED") 4) rfl)
  i_VALUE := He.int_ok X G (c.t.d.fact 27 (f := .int (Str.ofString "VALUE") 5) rfl)
  i_UP := He.int_ok X G (c.t.d.fact 28 (f := .int (Str.ofString "UP") 0) rfl)
  g_is_part := He.glo_ok X G (c.t.d.fact 29 (f := .glo (Str.ofString "is_part")) rfl)
  g_sons_of := He.glo_ok X G (c.t.d.fact 30 (f := .glo (Str.ofString "sons_of")) rfl)
  g_comes_out := He.glo_ok X G (c.t.d.fact 31 (f := .glo (Str.ofString "comes_out")) rfl)
  g_is_right_shape := He.glo_ok X G (c.t.d.fact 32 (f := .glo (Str.ofString "is_right_shape")) rfl)
  x_NoShape := excF_ok (c.t.d.fact 33 (f := .exc (Str.ofString "NoShape")) rfl)
  g_NoShape := He.glo_ok X G (c.t.d.fact 34 (f := .glo (Str.ofString "NoShape")) rfl)
  f_enumerate := He.free_ok X G (c.t.d.fact 35 (f := .free (Str.ofString "enumerate")) rfl)
  g_all_weights := He.glo_ok X G (c.t.d.fact 36 (f := .glo (Str.ofString "all_weights")) rfl)
  g_rank_of := He.glo_ok X G (c.t.d.fact 37 (f := .glo (Str.ofString "rank_of")) rfl)
  f_sum := He.free_ok X G (c.t.d.fact 38 (f := .free (Str.ofString "sum")) rfl)
  g_replaced := He.glo_ok X G (c.t.d.fact 39 (f := .glo (Str.ofString "replaced")) rfl)
  g_with_more := He.glo_ok X G (c.t.d.fact 40 (f := .glo (Str.ofString "with_more")) rfl)
  g_changed := He.glo_ok X G (c.t.d.fact 41 (f := .glo (Str.ofString "changed")) rfl)
  g_after_handing := He.glo_ok X G (c.t.d.fact 42 (f := .glo (Str.ofString "after_handing")) rfl)
  g_side_of := He.glo_ok X G (c.t.d.fact 43 (f := .glo (Str.ofString "side_of")) rfl)
  g_is_son := He.glo_ok X G (c.t.d.fact 44 (f := .glo (Str.ofString "is_son")) rfl)
  g_after_turn := He.glo_ok X G (c.t.d.fact 45 (f := .glo (Str.ofString "after_turn")) rfl)
  g_down_to := He.glo_ok X G (c.t.d.fact 46 (f := .glo (Str.ofString "down_to")) rfl)
  g_after_step := He.glo_ok X G (c.t.d.fact 47 (f := .glo (Str.ofString "after_step")) rfl)
  g_to_top := He.glo_ok X G (c.t.d.fact 48 (f := .glo (Str.ofString "to_top")) rfl)
  g_met_from := He.glo_ok X G (c.t.d.fact 49 (f := .glo (Str.ofString "met_from")) rfl)
  g_spliced := He.glo_ok X G (c.t.d.fact 50 (f := .glo (Str.ofString "spliced")) rfl)
  g_sum_of_ranks := He.glo_ok X G (c.t.d.fact 51 (f := .glo (Str.ofString "sum_of_ranks")) rfl)
  g_check_shape := He.glo_ok X G (c.t.d.fact 52 (f := .glo (Str.ofString "check_shape")) rfl)
  g_check_house := He.glo_ok X G (c.t.d.fact 53 (f := .glo (Str.ofString "check_house")) rfl)
  g_after_reaching := He.glo_ok X G (c.t.d.fact 54 (f := .glo (Str.ofString "after_reaching")) rfl)
  i_MOST_BY_RANK := He.int_ok X G (c.t.d.fact 55 (f := .int (Str.ofString "MOST_BY_RANK") 30) rfl)
  i_MOST_BESIDE := He.int_ok X G (c.t.d.fact 56 (f := .int (Str.ofString "MOST_BESIDE") 7) rfl)
  g_check_within := He.glo_ok X G (c.t.d.fact 57 (f := .glo (Str.ofString "check_within")) rfl)
  g_is_number := He.glo_ok X G (c.t.d.fact 58 (f := .glo (Str.ofString "is_number")) rfl)
  i_TIMES := He.int_ok X G (c.t.d.fact 59 (f := .int (Str.ofString "TIMES") 5) rfl)
  g_most_of := He.glo_ok X G (c.t.d.fact 60 (f := .glo (Str.ofString "most_of")) rfl)
  f_abs := He.free_ok X G (c.t.d.fact 61 (f := .free (Str.ofString "abs")) rfl)
  g__law_draw := He.glo_ok X G (c.t.d.fact 62 (f := .glo (Str.ofString "_law_draw")) rfl)
  f_list := He.free_ok X G (c.t.d.fact 63 (f := .free (Str.ofString "list")) rfl)
  g__law_shuffled := He.glo_ok X G (c.t.d.fact 64 (f := .glo (Str.ofString "_law_shuffled")) rfl)
  g__law_some := He.glo_ok X G (c.t.d.fact 65 (f := .glo (Str.ofString "_law_some")) rfl)
  g__law_planted := He.glo_ok X G (c.t.d.fact 66 (f := .glo (Str.ofString "_law_planted")) rfl)
  g__law_rows_of := He.glo_ok X G (c.t.d.fact 67 (f := .glo (Str.ofString "_law_rows_of")) rfl)
  g_ForestError := He.glo_ok X G (c.t.d.fact 68 (f := .glo (Str.ofString "ForestError")) rfl)
  exi := exiF_ok (He.ba (He.ba c.more).2).1
  f_ValueError := He.free_ok X G (c.t.d.fact 69 (f := .free (Str.ofString "ValueError")) rfl)
  exm := exmF_ok (He.ba (He.ba (He.ba c.more).2).2).1
  g__law_is_number := He.glo_ok X G (c.t.d.fact 70 (f := .glo (Str.ofString "_law_is_number")) rfl)
  g__law_is_integer := He.glo_ok X G (c.t.d.fact 71 (f := .glo (Str.ofString "_law_is_integer")) rfl)
  g__law_deep := He.glo_ok X G (c.t.d.fact 72 (f := .glo (Str.ofString "_law_deep")) rfl)
  g__law_hand := He.glo_ok X G (c.t.d.fact 73 (f := .glo (Str.ofString "_law_hand")) rfl)
  g__law_trees := He.glo_ok X G (c.t.d.fact 74 (f := .glo (Str.ofString "_law_trees")) rfl)
  g__law_laid := He.glo_ok X G (c.t.d.fact 75 (f := .glo (Str.ofString "_law_laid")) rfl)
  g__law_shape := He.glo_ok X G (c.t.d.fact 76 (f := .glo (Str.ofString "_law_shape")) rfl)
  g_Forest := He.glo_ok X G (c.t.d.fact 77 (f := .glo (Str.ofString "Forest")) rfl)
  m_Forest := He.mkr_ok (c.t.d.fact 78 (f := .mkr (Str.ofString "Forest")) rfl)
  g__law_bent := He.glo_ok X G (c.t.d.fact 79 (f := .glo (Str.ofString "_law_bent")) rfl)
  g__law_is_shape := He.glo_ok X G (c.t.d.fact 80 (f := .glo (Str.ofString "_law_is_shape")) rfl)
  g_reached := He.glo_ok X G (c.t.d.fact 81 (f := .glo (Str.ofString "reached")) rfl)
  g__law_word := He.glo_ok X G (c.t.d.fact 82 (f := .glo (Str.ofString "_law_word")) rfl)
  g_is_paper := He.glo_ok X G (c.t.d.fact 83 (f := .glo (Str.ofString "is_paper")) rfl)
  g_law := He.glo_ok X G (c.t.d.fact 84 (f := .glo (Str.ofString "law")) rfl)
  d_comes_to_none := by obtain ⟨fd, F⟩ := c.t.d.def_ 0 (d := dd_comes_to_none) rfl; exact ⟨fd, F⟩
  d_is_integer := by obtain ⟨fd, F⟩ := c.t.d.def_ 1 (d := dd_is_integer) rfl; exact ⟨fd, F⟩
  d_is_within := by obtain ⟨fd, F⟩ := c.t.d.def_ 2 (d := dd_is_within) rfl; exact ⟨fd, F⟩
  d_is_below := by obtain ⟨fd, F⟩ := c.t.d.def_ 3 (d := dd_is_below) rfl; exact ⟨fd, F⟩
  d_is_sized := by obtain ⟨fd, F⟩ := c.t.d.def_ 4 (d := dd_is_sized) rfl; exact ⟨fd, F⟩
  d_are_parents := by obtain ⟨fd, F⟩ := c.t.d.def_ 5 (d := dd_are_parents) rfl; exact ⟨fd, F⟩
  d_Forest___init__ := by obtain ⟨fd, F⟩ := c.t.d.def_ 6 (d := dd_Forest___init__) rfl; exact ⟨fd, F⟩
  d__law_deep := by obtain ⟨fd, F⟩ := c.t.d.def_ 7 (d := dd__law_deep) rfl; exact ⟨fd, F⟩
  d__law_draw := by obtain ⟨fd, F⟩ := c.t.d.def_ 8 (d := dd__law_draw) rfl; exact ⟨fd, F⟩
  d__law_some := by obtain ⟨fd, F⟩ := c.t.d.def_ 9 (d := dd__law_some) rfl; exact ⟨fd, F⟩
  d__law_bent := by obtain ⟨fd, F⟩ := c.t.d.def_ 10 (d := dd__law_bent) rfl; exact ⟨fd, F⟩
  d__law_hand := by obtain ⟨fd, F⟩ := c.t.d.def_ 11 (d := dd__law_hand) rfl; exact ⟨fd, F⟩
  d__law_is_number := by obtain ⟨fd, F⟩ := c.t.d.def_ 12 (d := dd__law_is_number) rfl; exact ⟨fd, F⟩
  d__law_is_integer := by obtain ⟨fd, F⟩ := c.t.d.def_ 13 (d := dd__law_is_integer) rfl; exact ⟨fd, F⟩
  d__law_is_shape := by obtain ⟨fd, F⟩ := c.t.d.def_ 14 (d := dd__law_is_shape) rfl; exact ⟨fd, F⟩
  d__law_planted := by obtain ⟨fd, F⟩ := c.t.d.def_ 15 (d := dd__law_planted) rfl; exact ⟨fd, F⟩
  d__law_shuffled := by obtain ⟨fd, F⟩ := c.t.d.def_ 16 (d := dd__law_shuffled) rfl; exact ⟨fd, F⟩
  d__law_rows_of := by obtain ⟨fd, F⟩ := c.t.d.def_ 17 (d := dd__law_rows_of) rfl; exact ⟨fd, F⟩
  d__law_laid := by obtain ⟨fd, F⟩ := c.t.d.def_ 18 (d := dd__law_laid) rfl; exact ⟨fd, F⟩
  d__law_shape := by obtain ⟨fd, F⟩ := c.t.d.def_ 19 (d := dd__law_shape) rfl; exact ⟨fd, F⟩
  d__law_trees := by obtain ⟨fd, F⟩ := c.t.d.def_ 20 (d := dd__law_trees) rfl; exact ⟨fd, F⟩
  d_check_within := by obtain ⟨fd, F⟩ := c.t.d.def_ 21 (d := dd_check_within) rfl; exact ⟨fd, F⟩
  d_is_number := by obtain ⟨fd, F⟩ := c.t.d.def_ 22 (d := dd_is_number) rfl; exact ⟨fd, F⟩
  d_rank_of := by obtain ⟨fd, F⟩ := c.t.d.def_ 23 (d := dd_rank_of) rfl; exact ⟨fd, F⟩
  d_most_of := by obtain ⟨fd, F⟩ := c.t.d.def_ 24 (d := dd_most_of) rfl; exact ⟨fd, F⟩
  d_is_paper := by obtain ⟨fd, F⟩ := c.t.d.def_ 25 (d := dd_is_paper) rfl; exact ⟨fd, F⟩
  d_replaced := by obtain ⟨fd, F⟩ := c.t.d.def_ 26 (d := dd_replaced) rfl; exact ⟨fd, F⟩
  d_changed := by obtain ⟨fd, F⟩ := c.t.d.def_ 27 (d := dd_changed) rfl; exact ⟨fd, F⟩
  d_sons_of := by obtain ⟨fd, F⟩ := c.t.d.def_ 28 (d := dd_sons_of) rfl; exact ⟨fd, F⟩
  d_with_more := by obtain ⟨fd, F⟩ := c.t.d.def_ 29 (d := dd_with_more) rfl; exact ⟨fd, F⟩
  d_after_handing := by obtain ⟨fd, F⟩ := c.t.d.def_ 30 (d := dd_after_handing) rfl; exact ⟨fd, F⟩
  d_is_son := by obtain ⟨fd, F⟩ := c.t.d.def_ 31 (d := dd_is_son) rfl; exact ⟨fd, F⟩
  d_side_of := by obtain ⟨fd, F⟩ := c.t.d.def_ 32 (d := dd_side_of) rfl; exact ⟨fd, F⟩
  d_after_turn := by obtain ⟨fd, F⟩ := c.t.d.def_ 33 (d := dd_after_turn) rfl; exact ⟨fd, F⟩
  d_after_step := by obtain ⟨fd, F⟩ := c.t.d.def_ 34 (d := dd_after_step) rfl; exact ⟨fd, F⟩
  d_down_to := by obtain ⟨fd, F⟩ := c.t.d.def_ 35 (d := dd_down_to) rfl; exact ⟨fd, F⟩
  d_to_top := by obtain ⟨fd, F⟩ := c.t.d.def_ 36 (d := dd_to_top) rfl; exact ⟨fd, F⟩
  d_met_from := by obtain ⟨fd, F⟩ := c.t.d.def_ 37 (d := dd_met_from) rfl; exact ⟨fd, F⟩
  d_spliced := by obtain ⟨fd, F⟩ := c.t.d.def_ 38 (d := dd_spliced) rfl; exact ⟨fd, F⟩
  d_all_weights := by obtain ⟨fd, F⟩ := c.t.d.def_ 39 (d := dd_all_weights) rfl; exact ⟨fd, F⟩
  d_sum_of_ranks := by obtain ⟨fd, F⟩ := c.t.d.def_ 40 (d := dd_sum_of_ranks) rfl; exact ⟨fd, F⟩
  d_after_reaching := by obtain ⟨fd, F⟩ := c.t.d.def_ 41 (d := dd_after_reaching) rfl; exact ⟨fd, F⟩
  d_check_house := by obtain ⟨fd, F⟩ := c.t.d.def_ 42 (d := dd_check_house) rfl; exact ⟨fd, F⟩
  d_comes_out := by obtain ⟨fd, F⟩ := c.t.d.def_ 43 (d := dd_comes_out) rfl; exact ⟨fd, F⟩
  d_is_place := by obtain ⟨fd, F⟩ := c.t.d.def_ 44 (d := dd_is_place) rfl; exact ⟨fd, F⟩
  d_is_part := by obtain ⟨fd, F⟩ := c.t.d.def_ 45 (d := dd_is_part) rfl; exact ⟨fd, F⟩
  d_is_right_shape := by obtain ⟨fd, F⟩ := c.t.d.def_ 46 (d := dd_is_right_shape) rfl; exact ⟨fd, F⟩
  d_check_shape := by obtain ⟨fd, F⟩ := c.t.d.def_ 47 (d := dd_check_shape) rfl; exact ⟨fd, F⟩
  d_reached := by obtain ⟨fd, F⟩ := c.t.d.def_ 48 (d := dd_reached) rfl; exact ⟨fd, F⟩
  d__law_word := by obtain ⟨fd, F⟩ := c.t.d.def_ 49 (d := dd__law_word) rfl; exact ⟨fd, F⟩
  d_law := by obtain ⟨fd, F⟩ := c.t.d.def_ 50 (d := dd_law) rfl; exact ⟨fd, F⟩
def names0 : List Str := [(Str.ofString "__name__"), (Str.ofString "ForestError"), (Str.ofString "BadForest"), (Str.ofString "NoHouse"), (Str.ofString "NoNumber"), (Str.ofString "NoShape"), (Str.ofString "MOST_HOUSES"), (Str.ofString "is_integer"), (Str.ofString "is_within"), (Str.ofString "is_number"), (Str.ofString "is_below"), (Str.ofString "is_sized"), (Str.ofString "check_within"), (Str.ofString "replaced"), (Str.ofString "comes_to_none"), (Str.ofString "are_parents"), (Str.ofString "Forest"), (Str.ofString "check_house"), (Str.ofString "UP"), (Str.ofString "LEFT"), (Str.ofString "RIGHT"), (Str.ofString "TURNED"), (Str.ofString "ADDED"), (Str.ofString "VALUE"), (Str.ofString "PARTS"), (Str.ofString "is_place"), (Str.ofString "is_part"), (Str.ofString "sons_of"), (Str.ofString "comes_out"), (Str.ofString "is_right_shape")]
def names1 : List Str := [(Str.ofString "check_shape"), (Str.ofString "is_son"), (Str.ofString "rank_of"), (Str.ofString "all_weights"), (Str.ofString "sum_of_ranks"), (Str.ofString "changed"), (Str.ofString "with_more"), (Str.ofString "after_handing"), (Str.ofString "side_of"), (Str.ofString "after_turn"), (Str.ofString "TIMES"), (Str.ofString "MOST_BY_RANK"), (Str.ofString "MOST_BESIDE"), (Str.ofString "down_to"), (Str.ofString "after_step"), (Str.ofString "to_top"), (Str.ofString "met_from"), (Str.ofString "spliced"), (Str.ofString "after_reaching"), (Str.ofString "reached"), (Str.ofString "most_of"), (Str.ofString "is_paper"), (Str.ofString "_law_hand"), (Str.ofString "_law_draw"), (Str.ofString "_law_some"), (Str.ofString "_law_shuffled"), (Str.ofString "_law_deep"), (Str.ofString "_law_trees"), (Str.ofString "_law_rows_of"), (Str.ofString "_law_planted")]
def names2 : List Str := [(Str.ofString "_law_laid"), (Str.ofString "_law_shape"), (Str.ofString "_law_is_number"), (Str.ofString "_law_word"), (Str.ofString "_law_is_integer"), (Str.ofString "_law_is_shape"), (Str.ofString "_law_bent")]
def names : List Str := names0 ++ names1 ++ names2
abbrev R : PySem.W.OpenRow := PySem.W.OpenLaw.row PySem.Challenge.rw_cutlinked_k15_reachings_refused
abbrev hk : PySem.W.Hook := He.hookX 6 fa fn ts tf exAll
def ob (s : PySem.W.SharedT) : He.AlX := He.obsX 6 fa fn ts tf exAll (HandSHeadRun.getT s)
theorem ob_eq (s : PySem.W.SharedT) : ob s = hk.obs s.abs := He.obsX_eq (HandSHeadRun.getT_eq s)
set_option maxHeartbeats 0 in
theorem run (w : World) : HandSHeadRun.RunEq R (PySem.W.view R.prog [72]) hk ob 6000 names w := by
  intro os
  kernel_rfl
end C3
open PySem PySem.W PySem.Calls PyProof.Rows
set_option maxRecDepth 100000 in
set_option maxHeartbeats 0 in
theorem PySem.Challenge.cw_cutlinked_k15_reachings_refused_holds : PySem.Challenge.rw_cutlinked_k15_reachings_refused.Holds := by
  w_on; o_law
  refine HandSHeadRun.head_any (r := OpenLaw.row PySem.Challenge.rw_cutlinked_k15_reachings_refused) (q := view (OpenLaw.row PySem.Challenge.rw_cutlinked_k15_reachings_refused).prog [72]) (H := C3.hk) (ob := C3.ob) (M := 6000) (loose := C3.names) (d := HandSHeadRun.topDef (OpenLaw.row PySem.Challenge.rw_cutlinked_k15_reachings_refused).prog 72) (kwd := []) C3.ob_eq
    (by kernel_rfl) (fun s => by kernel_rfl) C3.run (by kernel_rfl) (by kernel_rfl) (by kernel_rfl) (by rfl) (by first | assumption | decide +kernel) (by decide +kernel) ⟨rfl, rfl, rfl, rfl, rfl, by decide +kernel⟩ ?hw ?hc
  case hw => w_witness2
  case hc =>
    refine L3.walk3t (qn := (PySem.Str.ofString "law" ++ (".<locals>." : PySem.Str) ++ ("<lambda>" : PySem.Str))) (l := PySem.Challenge.rw_cutlinked_k15_reachings_refused) (n := 63) (k := 71) (x := (Str.ofString "_law_script")) (sp := C3.sp_law) rfl (by decide) (by kernel_rfl) ⟨rfl, by decide, by decide⟩ ?F C3.law_start
    intro w mg fa h Y G hmg0
    obtain ⟨K, KX, c⟩ := Y
    have T := C3.tx_of KX G c
    have hmg : mg (Str.ofString "law") = some (.ref fa) := by
      have e : (HandSHeadRun.topDef (OpenLaw.row PySem.Challenge.rw_cutlinked_k15_reachings_refused).prog 72).name = Str.ofString "law" := by kernel_rfl
      rw [← e]
      exact hmg0
    have e := hmg.symm.trans T.g_law
    cases e
    obtain ⟨fd, hb, hF⟩ := C3.F_law (P := (PySem.Challenge.rw_cutlinked_k15_reachings_refused).prog) (w := w) T (He.cT K (PySem.Str.ofString "law", none)).2
    have m : ((PySem.Str.ofString "law", none) : He.Defn) ∈ C3.tf := List.mem_singleton.mpr rfl
    exact ⟨K, fd, _, _, KX, c.hd _ m, c.out _ m, c.empty _ m, hb, fun base TB => hF base TB⟩
