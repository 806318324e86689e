import PyProof.Rows.All
import Wide.All
import OpenK.AllK
import Wide.FinOn
import HandS.ForMost
import HandS.CallSlots
import HandS.ExcInit
import HandS.TryMany
import HandS.TryOnly
import HandS.ExcField
import HandS.ExcIs
import HandS.Small
import HandS.IsInst
import HandS.Defaults
import HandS.Head2
import HandS.HeadEnd
import HandS.HeadHook3
import HandS.TupAny
import HandS.TupMul
import HandS.Rev
import HandS.Zip
import HandS.Conv
import HandS.OwnEq
import HandS.Flow
import HandS.Style
import HandS.Wide
import HandS.Lambda
import HandS.EndTab
import HandS.HeadHook4
import HandS.Ends
import KE.GoesEnum
import KE.GoesMore
import PyProof.EnumMake
import KE.KDictZip
import HandS.ExcValue
import KE.KLam
import KE.KNestM
import HandS.HeadWalk
import PyProof.EqAt
import HandS.SortRule
import HandS.SortInts
import HandS.TupLe
import KE.DataMinMax
import KE.KExcIs
import HandS.More
import PyProof.NeKinds
import HandS.RaiseMore
import PyProof.ReprRoads
import PyProof.StrOps2
import PyProof.ListStr
import PySem.Challenge.RW_cutlinked_k35_whole_things_written_and_r
set_option Elab.async false
set_option linter.all false
set_option maxRecDepth 100000
set_option maxHeartbeats 4000000
/-! L3: deep data over the hand layer. -/
namespace L3
open PySem PySem.Spec PyProof.Rows L2
open He (ga)

/-! ### data -/
/-- the exception that an except suite holds: where, its class, its dict -/
structure Zx where
  a : Addr
  c : Value
  d : Option Addr
structure K3 where
  f : PySem.W.Frag
  z : Zx
abbrev Z0 : Zx := ⟨0, .none, none⟩
abbrev Cxk (X : Cx) (Z : Zx) : K3 := ⟨X.K, Z⟩
inductive D where
  | non | bl (b : Bool) | int (i : Int) | str (x : Str)
  | tup (xs : List D)
  | fl (xs : List D)
  | sl (xs : List D)
  | ob (c : Str) (ns : List Str) (xs : List D)
  | emp
  | ref (a : Addr)
  | ex (c : Str)
  | exf (c f : Str) (y : D)
  | fn (x : Str)
  | lam (f c : Addr) (q : Str) (xs : List D) (vs : List V)
inductive GO where
  | lst (xs : List D) | dic (kvs : List (Key × D)) | ins (c : Str) (fs : List (Str × D)) | tb (q : Str)
abbrev Gp := Addr → Option GO
def up (G : Gp) (a : Addr) (o : GO) : Gp := fun b => if b = a then some o else G b
def dl (G : Gp) (a : Addr) : Gp := fun b => if b = a then none else G b
theorem up_same {G : Gp} {a : Addr} {o : GO} : up G a o a = some o := if_pos rfl
theorem up_ne {G : Gp} {a b : Addr} {o : GO} (h : b ≠ a) : up G a o b = G b := if_neg h
theorem dl_same {G : Gp} {a : Addr} : dl G a a = none := if_pos rfl
theorem dl_ne {G : Gp} {a b : Addr} (h : b ≠ a) : dl G a b = G b := if_neg h
theorem up_up {G : Gp} {a : Addr} {o u : GO} : up (up G a o) a u = up G a u := by
  funext b; unfold up; split <;> rfl
theorem up_self {G : Gp} {a : Addr} {o : GO} (h : G a = some o) : up G a o = G := by
  funext b; unfold up; split
  · rename_i e; rw [e, h]
  · rfl
theorem dl_up {G : Gp} {a : Addr} {o : GO} (h : G a = none) : dl (up G a o) a = G := by
  funext b; unfold dl up; split
  · rename_i e; rw [e, h]
  · rfl
theorem up_comm {G : Gp} {a b : Addr} {o u : GO} (h : a ≠ b) : up (up G b u) a o = up (up G a o) b u := by
  funext c; unfold up
  by_cases h1 : c = a
  · subst h1; rw [if_pos rfl, if_neg h, if_pos rfl]
  · rw [if_neg h1]; by_cases h2 : c = b
    · rw [if_pos h2, if_pos h2]
    · rw [if_neg h2, if_neg h2, if_neg h1]

/-- an exception: its class, its field -/
structure X3 where
  c : Str
  f : Option (Str × D) := none

/-- the written part's lists -/
def KL (K : PySem.W.Frag) (a : Addr) (xs : List V) : Prop :=
  ∃ (o : Obj) (its : Array Value) (n : Nat), K.lookup a = some o ∧ o.cls = .type "list" ∧ o.dict = none ∧ o.data = .seq its n ∧ its.size ≤ sizeLine ∧ Vals xs its.toList
/-- a list that is only read -/
def SqF (K : K3) (G : Gp) (H : Hp) (a : Addr) (vs : List V) : Prop := (Rd H a (.lst vs) ∧ G a = none) ∨ KL K.f a vs
mutual
inductive Dv (K : K3) (G : Gp) (H : Hp) : D → V → Prop
  | non : Dv K G H .non .non
  | bl (b : Bool) : Dv K G H (.bl b) (.bl b)
  | int (i : Int) : Dv K G H (.int i) (.int i)
  | str (x : Str) : Dv K G H (.str x) (.str x)
  | tup {a : Addr} {vs : List V} {xs : List D} : SqT K.f H a vs → DvL K G H xs vs → Dv K G H (.tup xs) (.ref a)
  | fl {a : Addr} {vs : List V} {xs : List D} : H a = some (.lst vs) → G a = none → DvL K G H xs vs → Dv K G H (.fl xs) (.ref a)
  | sl {a : Addr} {vs : List V} {xs : List D} : SqF K G H a vs → DvL K G H xs vs → Dv K G H (.sl xs) (.ref a)
  | ob {a dx : Addr} {c : Str} {ns : List Str} {vs : List V} {xs : List D} : H a = some (.ins (ga K.f c) dx (ns.zip vs)) → ns.length = vs.length → G a = none → DvL K G H xs vs → Dv K G H (.ob c ns xs) (.ref a)
  | emp {a : Addr} {kvs : List (Key × V)} : H a = some (.dK kvs) → G a = none → Dv K G H .emp (.ref a)
  | ref (a : Addr) : Dv K G H (.ref a) (.ref a)
  | ex {c : Str} : K.z.c = .ref (ga K.f c) → K.z.d = none → Dv K G H (.ex c) (.ref K.z.a)
  | fn (x : Str) : Dv K G H (.fn x) (.ref (ga K.f x))
  | lam {f c : Addr} {q : Str} {xs : List D} {vs : List V} : H c = some (LamX.CodeO c q) → G c = none → DvL K G H xs vs → Dv K G H (.lam f c q xs vs) (.ref f)
  | exf {c f : Str} {y : D} {d : Addr} {v : V} : K.z.c = .ref (ga K.f c) → K.z.d = some d → H d = some (.xd [(f, v)]) → Dv K G H y v → Dv K G H (.exf c f y) (.ref K.z.a)
inductive DvL (K : K3) (G : Gp) (H : Hp) : List D → List V → Prop
  | nil : DvL K G H [] []
  | cons {d : D} {v : V} {ds : List D} {vs : List V} : Dv K G H d v → DvL K G H ds vs → DvL K G H (d :: ds) (v :: vs)
end

def OkO (K : K3) (G : Gp) (H : Hp) (a : Addr) : GO → Prop
  | .tb q => LamX.TabS H a q
  | .lst xs => ∃ vs, H a = some (.lst vs) ∧ DvL K G H xs vs
  | .dic kvs => ∃ vs, H a = some (.dK ((kvs.map (·.1)).zip vs)) ∧ DvL K G H (kvs.map (·.2)) vs
  | .ins c fs => ∃ dx vs, H a = some (.ins (ga K.f c) dx ((fs.map (·.1)).zip vs)) ∧ DvL K G H (fs.map (·.2)) vs
def GH (K : K3) (G : Gp) (H : Hp) : Prop := ∀ a o, G a = some o → OkO K G H a o
/-- what is outside G is kept, and stays outside -/
def Keep (G : Gp) (H : Hp) (G' : Gp) (H' : Hp) : Prop := ∀ a o, H a = some o → G a = none → H' a = some o ∧ G' a = none

section
variable {K : K3} {G G' G1 G2 : Gp} {H H' H1 H2 : Hp}
theorem Keep.refl : Keep G H G H := fun _ _ h g => ⟨h, g⟩
theorem Keep.trans (a : Keep G H G1 H1) (b : Keep G1 H1 G2 H2) : Keep G H G2 H2 := fun c o h g => let ⟨h1, g1⟩ := a c o h g; b c o h1 g1
theorem DvL.length : ∀ {xs : List D} {vs : List V}, DvL K G H xs vs → xs.length = vs.length
  | _, _, .nil => rfl
  | _, _, .cons _ r => congrArg Nat.succ (DvL.length r)
theorem DvL.get : ∀ {xs : List D} {vs : List V} {i : Nat} {d : D}, DvL K G H xs vs → xs[i]? = some d → ∃ v, vs[i]? = some v ∧ Dv K G H d v
  | _, _, _, _, .nil, e => by simp at e
  | _, _, 0, _, .cons r _, e => by simp at e; subst e; exact ⟨_, rfl, r⟩
  | _, _, i + 1, d, .cons _ t, e => by
    obtain ⟨u, h1, h2⟩ := DvL.get (i := i) (d := d) t (by simpa using e)
    exact ⟨u, by simpa using h1, h2⟩
theorem DvL.append : ∀ {xs ys : List D} {us ws : List V}, DvL K G H xs us → DvL K G H ys ws → DvL K G H (xs ++ ys) (us ++ ws)
  | _, _, _, _, .nil, s => s
  | _, _, _, _, .cons r t, s => .cons r (DvL.append t s)
theorem DvL.take : ∀ {xs : List D} {us : List V} (n : Nat), DvL K G H xs us → DvL K G H (xs.take n) (us.take n)
  | _, _, 0, _ => .nil
  | _, _, _ + 1, .nil => .nil
  | _, _, n + 1, .cons r t => .cons r (DvL.take n t)
theorem DvL.drop : ∀ {xs : List D} {us : List V} (n : Nat), DvL K G H xs us → DvL K G H (xs.drop n) (us.drop n)
  | _, _, 0, r => r
  | _, _, _ + 1, .nil => .nil
  | _, _, n + 1, .cons _ t => DvL.drop n t
theorem DvL.set {d : D} {u : V} (r : Dv K G H d u) : ∀ {xs : List D} {us : List V} (i : Nat), DvL K G H xs us → DvL K G H (xs.set i d) (us.set i u)
  | _, _, _, .nil => .nil
  | _, _, 0, .cons _ t => .cons r t
  | _, _, i + 1, .cons q t => .cons q (DvL.set r i t)
theorem DvL.dropLast : ∀ {xs : List D} {us : List V}, DvL K G H xs us → DvL K G H xs.dropLast us.dropLast
  | _, _, .nil => .nil
  | _, _, .cons _ .nil => .nil
  | _, _, .cons r (.cons q t) => .cons r (DvL.dropLast (.cons q t))
theorem DvL.eraseIdx : ∀ {xs : List D} {us : List V} (i : Nat), DvL K G H xs us → DvL K G H (xs.eraseIdx i) (us.eraseIdx i)
  | _, _, _, .nil => .nil
  | _, _, 0, .cons _ t => t
  | _, _, i + 1, .cons r t => .cons r (DvL.eraseIdx i t)
theorem DvL.reverse {xs : List D} {us : List V} (h : DvL K G H xs us) : DvL K G H xs.reverse us.reverse := by
  induction xs generalizing us with
  | nil => cases h; exact .nil
  | cons x xs ih =>
    cases h with
    | cons r t =>
      rw [List.reverse_cons, List.reverse_cons]
      exact (ih t).append (.cons r .nil)
theorem DvL.rep {d : D} {v : V} (r : Dv K G H d v) : ∀ n, DvL K G H (List.replicate n d) (List.replicate n v)
  | 0 => .nil
  | n + 1 => .cons r (DvL.rep r n)
theorem DvL.flat {xs : List D} {us : List V} (h : DvL K G H xs us) : ∀ k : Nat, DvL K G H (List.replicate k xs).flatten (List.replicate k us).flatten
  | 0 => .nil
  | k + 1 => by
    rw [List.replicate_succ, List.replicate_succ, List.flatten_cons, List.flatten_cons]
    exact h.append (h.flat k)

theorem GH.none_of (g : GH K G H) {a : Addr} {o : HO} (h : H a = some o) (hl : ∀ xs, o ≠ .lst xs) (hd : ∀ kvs, o ≠ .dK kvs) (hi : ∀ C dx fs, o ≠ .ins C dx fs) (ht : ∀ ps, o ≠ .tbl ps := by intros; intro z; cases z) : G a = none := by
  cases e : G a with
  | none => rfl
  | some u =>
    have q := g a u e
    cases u with
    | lst xs => obtain ⟨vs, h2, _⟩ := q; rw [h] at h2; exact absurd (Option.some.inj h2) (hl _)
    | dic kvs => obtain ⟨vs, h2, _⟩ := q; rw [h] at h2; exact absurd (Option.some.inj h2) (hd _)
    | ins c fs => obtain ⟨dx, vs, h2, _⟩ := q; rw [h] at h2; exact absurd (Option.some.inj h2) (hi _ _ _)
    | tb c => obtain ⟨ps, h2, _⟩ := q; rw [h] at h2; exact absurd (Option.some.inj h2) (ht _)
theorem GH.some_of (g : GH K G H) {a : Addr} {o : GO} (h : G a = some o) : ∃ u, H a = some u := by
  have q := g a o h
  cases o with
  | lst xs => obtain ⟨vs, h2, _⟩ := q; exact ⟨_, h2⟩
  | dic kvs => obtain ⟨vs, h2, _⟩ := q; exact ⟨_, h2⟩
  | ins c fs => obtain ⟨dx, vs, h2, _⟩ := q; exact ⟨_, h2⟩
  | tb c => obtain ⟨ps, h2, _⟩ := q; exact ⟨_, h2⟩
theorem GH.free (g : GH K G H) {a : Addr} (h : H a = none) : G a = none := by
  cases e : G a with
  | none => rfl
  | some o => obtain ⟨u, h2⟩ := g.some_of e; rw [h] at h2; cases h2
theorem sqT_keep (g : GH K G H) (k : Keep G H G' H') {a : Addr} {vs : List V} (s : SqT K.f H a vs) : SqT K.f H' a vs := by
  rcases s with (h | ⟨o, h⟩) | h
  · exact .inl (.inl (k a _ h (g.none_of h (by intros; intro z; cases z) (by intros; intro z; cases z) (by intros; intro z; cases z))).1)
  · exact .inl (.inr ⟨o, (k a _ h (g.none_of h (by intros; intro z; cases z) (by intros; intro z; cases z) (by intros; intro z; cases z))).1⟩)
  · exact .inr h
theorem SqF.sql {a : Addr} {vs : List V} (s : SqF K G H a vs) : SqL K.f H a vs := by
  rcases s with ⟨h, _⟩ | h
  · exact .inl h
  · exact .inr h
theorem SqF.of (g : GH K G H) {a : Addr} {vs : List V} (s : SqL K.f H a vs) (n : G a = none) : SqF K G H a vs := by
  rcases s with h | h
  · exact .inl ⟨h, n⟩
  · exact .inr h
theorem SqF.keep (k : Keep G H G' H') {a : Addr} {vs : List V} (s : SqF K G H a vs) : SqF K G' H' a vs := by
  rcases s with ⟨h | ⟨o, h⟩, n⟩ | h
  · obtain ⟨h1, h2⟩ := k a _ h n; exact .inl ⟨.inl h1, h2⟩
  · obtain ⟨h1, h2⟩ := k a _ h n; exact .inl ⟨.inr ⟨o, h1⟩, h2⟩
  · exact .inr h
mutual
theorem Dv.keep (g : GH K G H) (k : Keep G H G' H') : ∀ {d : D} {v : V}, Dv K G H d v → Dv K G' H' d v
  | _, _, .non => .non
  | _, _, .bl b => .bl b
  | _, _, .int b => .int b
  | _, _, .str b => .str b
  | _, _, .tup s r => .tup (sqT_keep g k s) (DvL.keep g k r)
  | _, _, .fl h n r => .fl (k _ _ h n).1 (k _ _ h n).2 (DvL.keep g k r)
  | _, _, .sl s r => .sl (s.keep k) (DvL.keep g k r)
  | _, _, .ob h l n r => .ob (k _ _ h n).1 l (k _ _ h n).2 (DvL.keep g k r)
  | _, _, .emp h n => .emp (k _ _ h n).1 (k _ _ h n).2
  | _, _, .ref a => .ref a
  | _, _, .ex h h2 => .ex h h2
  | _, _, .fn x => .fn x
  | _, _, .lam h n r => .lam (k _ _ h n).1 (k _ _ h n).2 (DvL.keep g k r)
  | _, _, .exf h h1 h2 r => .exf h h1 (k _ _ h2 (g.none_of h2 (by intros; intro z; cases z) (by intros; intro z; cases z) (by intros; intro z; cases z))).1 (Dv.keep g k r)
theorem DvL.keep (g : GH K G H) (k : Keep G H G' H') : ∀ {d : List D} {v : List V}, DvL K G H d v → DvL K G' H' d v
  | _, _, .nil => .nil
  | _, _, .cons r t => .cons (Dv.keep g k r) (DvL.keep g k t)
end
theorem OkO.keep (g : GH K G H) (k : Keep G H G' H') {a : Addr} {o : GO} (h : OkO K G H a o) (e : H' a = H a) : OkO K G' H' a o := by
  cases o with
  | lst xs => obtain ⟨vs, h2, r⟩ := h; exact ⟨vs, e.trans h2, r.keep g k⟩
  | dic kvs => obtain ⟨vs, h2, r⟩ := h; exact ⟨vs, e.trans h2, r.keep g k⟩
  | ins c fs => obtain ⟨dx, vs, h2, r⟩ := h; exact ⟨dx, vs, e.trans h2, r.keep g k⟩
  | tb q =>
    obtain ⟨ps, h1, h2, h3⟩ := h
    refine ⟨ps, e.trans h1, h2, fun pos cv hc => ?_⟩
    obtain ⟨c, e1, e2⟩ := h3 pos cv hc
    exact ⟨c, e1, (k c _ e2 (g.none_of e2 (by intros; intro z; unfold LamX.CodeO at z; cases z) (by intros; intro z; unfold LamX.CodeO at z; cases z) (by intros; intro z; unfold LamX.CodeO at z; cases z) (by intros; intro z; unfold LamX.CodeO at z; cases z))).1⟩
/-! ### steps of the heap -/
/-- a new object, not in G -/
theorem Keep.new {p : Addr} {o : HO} (n : H p = none) : Keep G H G (upd H p o) := fun a u h e => ⟨by rw [upd_ne (ne_of_none h n)]; exact h, e⟩
theorem GH.new (g : GH K G H) {p : Addr} {o : HO} (n : H p = none) : GH K G (upd H p o) := fun a u h => by
  obtain ⟨w, q⟩ := g.some_of h
  exact (g a u h).keep g (Keep.new n) (upd_ne (ne_of_none q n))
/-- a new object, into G -/
theorem Keep.newG {p : Addr} {o : HO} {u : GO} (n : H p = none) : Keep G H (up G p u) (upd H p o) := fun a w h e => by
  have ne := ne_of_none h n
  exact ⟨by rw [upd_ne ne]; exact h, by rw [up_ne ne]; exact e⟩
theorem GH.newG (g : GH K G H) {p : Addr} {o : HO} {u : GO} (n : H p = none) (q : OkO K (up G p u) (upd H p o) p u) : GH K (up G p u) (upd H p o) := fun a w h => by
  by_cases e : a = p
  · subst e; rw [up_same] at h; cases h; exact q
  · rw [up_ne e] at h
    exact (g a w h).keep g (Keep.newG n) (upd_ne e)
/-- an object of G, changed -/
theorem Keep.set {p : Addr} {o : HO} {u u' : GO} (n : G p = some u) : Keep G H (up G p u') (upd H p o) := fun a w h e => by
  have ne : a ≠ p := fun z => by rw [z, n] at e; cases e
  exact ⟨by rw [upd_ne ne]; exact h, by rw [up_ne ne]; exact e⟩
theorem GH.set (g : GH K G H) {p : Addr} {o : HO} {u u' : GO} (n : G p = some u) (q : OkO K (up G p u') (upd H p o) p u') : GH K (up G p u') (upd H p o) := fun a w h => by
  by_cases e : a = p
  · subst e; rw [up_same] at h; cases h; exact q
  · rw [up_ne e] at h
    exact (g a w h).keep g (Keep.set n) (upd_ne e)
/-- less of G -/
def Sub (G' G : Gp) : Prop := ∀ a o, G' a = some o → G a = some o
theorem Sub.refl : Sub G G := fun _ _ h => h
theorem Sub.trans (a : Sub G G1) (b : Sub G1 G2) : Sub G G2 := fun c o h => b c o (a c o h)
theorem Sub.no (s : Sub G' G) {a : Addr} (h : G a = none) : G' a = none := by
  cases e : G' a with
  | none => rfl
  | some o => rw [s a o e] at h; cases h
theorem Keep.sub (s : Sub G' G) : Keep G H G' H := fun a o h e => ⟨h, s.no e⟩
theorem GH.sub (g : GH K G H) (s : Sub G' G) : GH K G' H := fun a o h => (g a o (s a o h)).keep g (Keep.sub s) rfl
theorem Sub.dl {a : Addr} : Sub (dl G a) G := fun b o h => by
  by_cases e : b = a
  · subst e; rw [dl_same] at h; cases h
  · rw [dl_ne e] at h; exact h
theorem Sub.up {a : Addr} {o : GO} (n : G a = none) : Sub G (up G a o) := fun b u h => by
  rw [up_ne (fun z => by rw [z, n] at h; cases h)]; exact h
end
end L3
namespace L3
open PySem PySem.Spec PyProof.Rows L2
open He (ga)
abbrev St := L2.St
abbrev St3 := List (Option D)
abbrev QK := D → Gp → Prop
abbrev EK := X3 → Gp → Prop
abbrev TE3 := St3 → Gp → QK → EK → Prop
abbrev TT3 := St3 → Gp → (Bool → Gp → Prop) → EK → Prop
abbrev TA3 := St3 → Gp → (List D → Gp → Prop) → EK → Prop
structure Ends3 where
  nx : St3 → Gp → Prop
  rt : QK
  bk : St3 → Gp → Prop := fun _ _ => False
  ct : St3 → Gp → Prop := fun _ _ => False
  ex : X3 → St3 → Gp → Prop := fun _ _ _ => False
abbrev TS3 := Ends3 → St3 → Gp → Prop
/-- the slots -/
def gt (σ : St3) (i : Nat) : Option D := match σ, i with
  | [], _ => none
  | d :: _, 0 => d
  | _ :: r, i + 1 => gt r i
theorem gt_eq : ∀ (σ : St3) (i : Nat) {d : D}, gt σ i = some d → σ[i]? = some (some d)
  | [], _, _, h => by cases h
  | x :: r, 0, d, h => by
    have h' : x = some d := h
    simp [h']
  | x :: r, i + 1, d, h => by simpa using gt_eq r i h
def Rs (K : K3) (G : Gp) (H : Hp) (σ3 : St3) (σ : St) : Prop := σ3.length = σ.length ∧ ∀ (i : Nat) d, σ3[i]? = some (some d) → ∃ v, σ[i]? = some (some v) ∧ Dv K G H d v
/-- an exception's data -/
def Xv (K : K3) (G : Gp) (H : Hp) (x : X3) (c : Value) (d : Option Addr) : Prop := c = .ref (ga K.f x.c) ∧ match x.f with
  | none => d = none
  | some (f, y) => ∃ (a : Addr) (v : V), d = some a ∧ H a = some (.xd [(f, v)]) ∧ Dv K G H y v
section
variable {K : K3} {G G' G1 G2 : Gp} {H H' H1 H2 : Hp} {σ3 : St3} {σ : St}
theorem Rs.keep (g : GH K G H) (k : Keep G H G' H') (r : Rs K G H σ3 σ) : Rs K G' H' σ3 σ := ⟨r.1, fun i d e => let ⟨v, h1, h2⟩ := r.2 i d e; ⟨v, h1, h2.keep g k⟩⟩
theorem Rs.set (r : Rs K G H σ3 σ) {d : D} {v : V} (h : Dv K G H d v) (i : Nat) : Rs K G H (σ3.set i (some d)) (σ.set i (some v)) := ⟨by simp [r.1], fun j e q => by
  by_cases hj : i = j
  · subst hj
    by_cases hl : i < σ3.length
    · rw [List.getElem?_set_self hl] at q; cases q
      exact ⟨v, List.getElem?_set_self (by rw [← r.1]; exact hl), h⟩
    · rw [List.getElem?_eq_none (by simpa using hl)] at q; cases q
  · rw [List.getElem?_set_ne hj] at q ⊢
    exact r.2 j e q⟩
theorem Rs.clear (r : Rs K G H σ3 σ) (i : Nat) : Rs K G H (σ3.set i none) (σ.set i none) := ⟨by simp [r.1], fun j e q => by
  by_cases hj : i = j
  · subst hj
    by_cases hl : i < σ3.length
    · rw [List.getElem?_set_self hl] at q; cases q
    · rw [List.getElem?_eq_none (by simpa using hl)] at q; cases q
  · rw [List.getElem?_set_ne hj] at q ⊢
    exact r.2 j e q⟩
end
/-- what is wanted of a value, lifted -/
def Qk (K : K3) (G : Gp) (H : Hp) (Q3 : QK) (Q : VK) : Prop := ∀ d G' v H', Q3 d G' → GH K G' H' → Dv K G' H' d v → Keep G H G' H' → Q v H'
def Bk (K : K3) (G : Gp) (H : Hp) (Q3 : Bool → Gp → Prop) (Q : Bool → Hp → Prop) : Prop := ∀ b G' H', Q3 b G' → GH K G' H' → Keep G H G' H' → Q b H'
def Ak (K : K3) (G : Gp) (H : Hp) (Q3 : List D → Gp → Prop) (Q : List V → Hp → Prop) : Prop := ∀ d G' v H', Q3 d G' → GH K G' H' → DvL K G' H' d v → Keep G H G' H' → Q v H'
def Sk (K : K3) (G : Gp) (H : Hp) (Q3 : St3 → Gp → Prop) (Q : St → Hp → Prop) : Prop := ∀ σ3 G' σ H', Q3 σ3 G' → GH K G' H' → Rs K G' H' σ3 σ → Keep G H G' H' → Q σ H'
def Xk (K : K3) (G : Gp) (H : Hp) (E3 : EK) (E : XK) : Prop := ∀ x G' c d H', E3 x G' → GH K G' H' → Xv K G' H' x c d → Keep G H G' H' → E c d H'
structure Dk (K : K3) (G : Gp) (H : Hp) (W : WX) (D3 : Ends3) (D : Ends) : Prop where
  nx : Sk K G H D3.nx D.nx
  rt : Qk K G H D3.rt D.rt
  bk : Sk K G H D3.bk D.bk
  ct : Sk K G H D3.ct D.ct
  ex : ∀ x σ3 G' c d σ H', D3.ex x σ3 G' → GH K G' H' → Rs K G' H' σ3 σ → Xv K G' H' x c d → Keep G H G' H' → W c d σ H'
def liftE (K : K3) (W : WX) (t : TE3) : TE := fun σ H Q => ∃ σ3 G Q3 E3, GH K G H ∧ Rs K G H σ3 σ ∧ t σ3 G Q3 E3 ∧ Qk K G H Q3 Q ∧ Xk K G H E3 (fun c d H' => W c d σ H')
def liftT (K : K3) (W : WX) (t : TT3) : TT := fun σ H Q => ∃ σ3 G Q3 E3, GH K G H ∧ Rs K G H σ3 σ ∧ t σ3 G Q3 E3 ∧ Bk K G H Q3 Q ∧ Xk K G H E3 (fun c d H' => W c d σ H')
def liftA (K : K3) (W : WX) (t : TA3) : TA := fun σ H Q => ∃ σ3 G Q3 E3, GH K G H ∧ Rs K G H σ3 σ ∧ t σ3 G Q3 E3 ∧ Ak K G H Q3 Q ∧ Xk K G H E3 (fun c d H' => W c d σ H')
def liftS (K : K3) (W : WX) (t : TS3) : TS := fun D σ H => ∃ σ3 G D3, GH K G H ∧ Rs K G H σ3 σ ∧ t D3 σ3 G ∧ Dk K G H W D3 D
section
variable {K : K3} {G G' G1 G2 : Gp} {H H' H1 H2 : Hp} {W : WX}
theorem Qk.keep {Q3 : QK} {Q : VK} (k : Keep G H G' H') (q : Qk K G H Q3 Q) : Qk K G' H' Q3 Q := fun d G1 v H1 a b c e => q d G1 v H1 a b c (k.trans e)
theorem Bk.keep {Q3 : Bool → Gp → Prop} {Q : Bool → Hp → Prop} (k : Keep G H G' H') (q : Bk K G H Q3 Q) : Bk K G' H' Q3 Q := fun d G1 H1 a b e => q d G1 H1 a b (k.trans e)
theorem Ak.keep {Q3 : List D → Gp → Prop} {Q : List V → Hp → Prop} (k : Keep G H G' H') (q : Ak K G H Q3 Q) : Ak K G' H' Q3 Q := fun d G1 v H1 a b c e => q d G1 v H1 a b c (k.trans e)
theorem Sk.keep {Q3 : St3 → Gp → Prop} {Q : St → Hp → Prop} (k : Keep G H G' H') (q : Sk K G H Q3 Q) : Sk K G' H' Q3 Q := fun d G1 v H1 a b c e => q d G1 v H1 a b c (k.trans e)
theorem Xk.keep {E3 : EK} {E : XK} (k : Keep G H G' H') (q : Xk K G H E3 E) : Xk K G' H' E3 E := fun d G1 v u H1 a b c e => q d G1 v u H1 a b c (k.trans e)
theorem Dk.keep {D3 : Ends3} {D : Ends} (k : Keep G H G' H') (q : Dk K G H W D3 D) : Dk K G' H' W D3 D :=
  ⟨q.nx.keep k, q.rt.keep k, q.bk.keep k, q.ct.keep k, fun x σ3 G1 c d σ H1 a b r e f => q.ex x σ3 G1 c d σ H1 a b r e (k.trans f)⟩
end
/-! ### the judgements -/
section
variable (X : Cx) (Z : Zx) (W : WX)
def PE3 (e : Expr) (t : TE3) : Prop := PE X e (liftE (Cxk X Z) W t)
def PT3 (e : Expr) (t : TT3) : Prop := PT X e (liftT (Cxk X Z) W t)
def PW3 (e : Expr) (t : TT3) : Prop := PW X e (liftT (Cxk X Z) W t)
def PA3 (es : List Expr) (t : TA3) : Prop := PA X es (liftA (Cxk X Z) W t)
def PS3 (s : Stmt) (t : TS3) : Prop := PS X s (liftS (Cxk X Z) W t)
def PSs3 (s : List Stmt) (t : TS3) : Prop := PSs X s (liftS (Cxk X Z) W t)
end
theorem PE.imp {X : Cx} {e : Expr} {t u : TE} (h : PE X e t) (k : ∀ σ H Q, u σ H Q → t σ H Q) : PE X e u := ⟨fun pins s σ H Q I q => h.run pins s σ H Q I (k _ _ _ q)⟩
theorem PT.imp {X : Cx} {e : Expr} {t u : TT} (h : PT X e t) (k : ∀ σ H Q, u σ H Q → t σ H Q) : PT X e u := ⟨fun pins s σ H Q I q => h.run pins s σ H Q I (k _ _ _ q)⟩
theorem PW.imp {X : Cx} {e : Expr} {t u : TT} (h : PW X e t) (k : ∀ σ H Q, u σ H Q → t σ H Q) : PW X e u := ⟨fun wh pins s σ H Q I q => h.run wh pins s σ H Q I (k _ _ _ q)⟩
theorem PA.imp {X : Cx} {e : List Expr} {t u : TA} (h : PA X e t) (k : ∀ σ H Q, u σ H Q → t σ H Q) : PA X e u := ⟨fun pos pins s σ H Q I q => h.run pos pins s σ H Q I (k _ _ _ q)⟩
theorem PS.imp {X : Cx} {e : Stmt} {t u : TS} (h : PS X e t) (k : ∀ D σ H, u D σ H → t D σ H) : PS X e u := ⟨fun pins s σ H D I q => h.run pins s σ H D I (k _ _ _ q)⟩
theorem PSs.imp {X : Cx} {e : List Stmt} {t u : TS} (h : PSs X e t) (k : ∀ D σ H, u D σ H → t D σ H) : PSs X e u := ⟨fun pins s σ H D I q => h.run pins s σ H D I (k _ _ _ q)⟩
section
variable {K : K3} {G : Gp} {H : Hp} {W : WX} {σ : St} {σ3 : St3}
theorem liftE_one {t : TE3} {R3 : QK} {E3 : EK} {R : VK} (g : GH K G H) (r : Rs K G H σ3 σ) (h : t σ3 G R3 E3) (x : Xk K G H E3 (fun c d H' => W c d σ H'))
    (k : ∀ d G' v H', R3 d G' → GH K G' H' → Dv K G' H' d v → Keep G H G' H' → R v H') : liftE K W t σ H R := ⟨σ3, G, R3, E3, g, r, h, k, x⟩
end
/-! ### names, constants -/
def tv (i : Nat) : TE3 := fun σ G Q _ => ∃ d, gt σ i = some d ∧ Q d G
def tc (d : D) : TE3 := fun _ G Q _ => Q d G
section
variable {X : Cx} {Z : Zx} {W : WX} {pos : Pos}
theorem q_of {K : K3} {G : Gp} {H : Hp} {Q3 : QK} {Q : VK} {d : D} {v : V} (q : Qk K G H Q3 Q) (g : GH K G H) (h : Q3 d G) (r : Dv K G H d v) : Q v H := q d G v H h g r Keep.refl
theorem v_ (i : Nat) {x : Str} (hN : X.N[i]? = some x := by rfl) (hv : Vis X.env.scope x := by first | exact Or.inl rfl | exact Or.inr (Or.inl rfl) | exact Or.inr (Or.inr rfl)) (hd : (x == ("__debug__" : Str)) = false := by decide)
    (hcd : (x == ("__classdict__" : Str)) = false := by decide) : PE3 X Z W (.Name x pos) (tv i) := PE.imp (pe_var (i := i) hN hv hd hcd) fun σ H Q h => by
  obtain ⟨σ3, G, Q3, E3, g, r, h, q, _⟩ := h
  obtain ⟨d, e, h⟩ := h
  obtain ⟨v, e1, e2⟩ := r.2 i d (gt_eq _ _ e)
  exact ⟨v, e1, q_of q g h e2⟩
theorem pc_ {e : Expr} {d : D} {v : V} (h : PE X e (tC v)) (r : ∀ K G H, Dv K G H d v) : PE3 X Z W e (tc d) := PE.imp h fun σ H Q ⟨σ3, G, Q3, E3, g, _, h, q, x⟩ => q_of q g h (r _ _ _)
theorem ci_ {i j} : PE3 X Z W (.Constant (.int i) j pos) (tc (.int i)) := pc_ pe_int fun _ _ _ => .int i
theorem cb_ {b j} : PE3 X Z W (.Constant (.bool b) j pos) (tc (.bl b)) := pc_ pe_bl fun _ _ _ => .bl b
theorem cn_ {j} : PE3 X Z W (.Constant .none j pos) (tc .non) := pc_ pe_non fun _ _ _ => .non
theorem cs_ {x j} : PE3 X Z W (.Constant (.str x) j pos) (tc (.str x)) := pc_ pe_str fun _ _ _ => .str x
/-- a constant of the module -/
theorem cg_ {x : Str} {v : V} {u : Value} {d : D} (hm : X.mg x = some u) (r : RelV v u) (rd : ∀ G H, Dv (Cxk X Z) G H d v) (hg : Gl X x := by rfl) (hd : (x == ("__debug__" : Str)) = false := by decide) : PE3 X Z W (.Name x pos) (tc d) :=
  PE.imp (pe_glob hg hm r hd) fun σ H Q ⟨σ3, G, Q3, E3, g, _, h, q, x⟩ => q_of q g h (rd _ _)
end
end L3
namespace L3
open PySem PySem.Spec PyProof.Rows L2
open He (ga)
/-! ### new things -/
/-- a new list: written later (m), or frozen -/
def outL (m : Bool) (xs : List D) (G : Gp) (Q : QK) : Prop := match m with
  | true => ∀ p, G p = none → Q (.ref p) (up G p (.lst xs))
  | false => Q (.fl xs) G
section
variable {K : K3} {G : Gp} {H : Hp} {Q3 : QK} {Q : VK}
theorem outL_ok (m : Bool) {xs : List D} {vs : List V} (g : GH K G H) (r : DvL K G H xs vs) (q : Qk K G H Q3 Q) (h : outL m xs G Q3) {p : Addr} (n : H p = none) : Q (.ref p) (upd H p (.lst vs)) := by
  cases m with
  | true => exact q _ _ _ _ (h p (g.free n)) (g.newG n ⟨vs, upd_same, r.keep g (Keep.newG n)⟩) (.ref p) (Keep.newG n)
  | false => exact q _ _ _ _ h (g.new n) (.fl upd_same (g.free n) (r.keep g (Keep.new n))) (Keep.new n)
theorem outT_ok {xs : List D} {vs : List V} (g : GH K G H) (r : DvL K G H xs vs) (q : Qk K G H Q3 Q) (h : Q3 (.tup xs) G) {p : Addr} (n : H p = none) : Q (.ref p) (upd H p (.tup vs)) :=
  q _ _ _ _ h (g.new n) (.tup (SqT.of upd_same) (r.keep g (Keep.new n))) (Keep.new n)
end
/-- a list or tuple as it stands -/
def sq (G : Gp) : D → Option (List D)
  | .tup xs => some xs
  | .fl xs => some xs
  | .sl xs => some xs
  | .ref p => (match G p with
    | some (.lst xs) => some xs
    | _ => none)
  | _ => none
/-- a list -/
def lq (G : Gp) : D → Option (List D)
  | .fl xs => some xs
  | .sl xs => some xs
  | .ref p => (match G p with
    | some (.lst xs) => some xs
    | _ => none)
  | _ => none
/-- a list of ours (not the script) -/
def mq (G : Gp) : D → Option (List D)
  | .fl xs => some xs
  | .ref p => (match G p with
    | some (.lst xs) => some xs
    | _ => none)
  | _ => none
section
variable {K : K3} {G : Gp} {H : Hp}
theorem lq_ok {d : D} {v : V} {xs : List D} (g : GH K G H) (r : Dv K G H d v) (h : lq G d = some xs) : ∃ a vs, v = .ref a ∧ SqL K.f H a vs ∧ DvL K G H xs vs := by
  cases r with
  | fl hs n r => cases h; exact ⟨_, _, rfl, SqL.of hs, r⟩
  | sl hs r => cases h; exact ⟨_, _, rfl, hs.sql, r⟩
  | ref a =>
    unfold lq at h
    simp only at h
    split at h
    · rename_i ys e
      cases h
      obtain ⟨vs, h2, r⟩ := g a _ e
      exact ⟨_, _, rfl, SqL.of h2, r⟩
    · cases h
  | _ => cases h
theorem mq_ok {d : D} {v : V} {xs : List D} (g : GH K G H) (r : Dv K G H d v) (h : mq G d = some xs) : ∃ a vs, v = .ref a ∧ H a = some (.lst vs) ∧ DvL K G H xs vs := by
  cases r with
  | fl hs n r => cases h; exact ⟨_, _, rfl, hs, r⟩
  | ref a =>
    unfold mq at h
    simp only at h
    split at h
    · rename_i ys e
      cases h
      obtain ⟨vs, h2, r⟩ := g a _ e
      exact ⟨_, _, rfl, h2, r⟩
    · cases h
  | _ => cases h
theorem sq_ok {d : D} {v : V} {xs : List D} (g : GH K G H) (r : Dv K G H d v) (h : sq G d = some xs) : ∃ a vs, v = .ref a ∧ (SqL K.f H a vs ∨ SqT K.f H a vs) ∧ DvL K G H xs vs := by
  cases r with
  | tup hs r => cases h; exact ⟨_, _, rfl, .inr hs, r⟩
  | fl hs n r => cases h; exact ⟨_, _, rfl, .inl (SqL.of hs), r⟩
  | sl hs r => cases h; exact ⟨_, _, rfl, .inl hs.sql, r⟩
  | ref a =>
    unfold sq at h
    simp only at h
    split at h
    · rename_i ys e
      cases h
      obtain ⟨vs, h2, r⟩ := g a _ e
      exact ⟨_, _, rfl, .inl (SqL.of h2), r⟩
    · cases h
  | _ => cases h
end
/-! ### operators -/
abbrev Q2 := D → D → Gp → QK → Prop
def OpR3 (X : Cx) (Z : Zx) (f : Value → Value → Sem Value) (t : Q2) : Prop :=
  ∃ r : R2, OpR X f r ∧ ∀ G H x y v u Q3 Q, GH (Cxk X Z) G H → Dv (Cxk X Z) G H x v → Dv (Cxk X Z) G H y u → t x y G Q3 → Qk (Cxk X Z) G H Q3 Q → r v u H Q
def t2 (t : Q2) (ta tb : TE3) : TE3 := fun σ G Q E => ta σ G (fun x G1 => tb σ G1 (fun y G2 => t x y G2 Q) E) E
section
variable {X : Cx} {Z : Zx} {W : WX} {a b : Expr} {ta tb : TE3} {pos : Pos}
theorem two_ {r : R2} {t : Q2} (k : ∀ G H x y v u Q3 Q, GH (Cxk X Z) G H → Dv (Cxk X Z) G H x v → Dv (Cxk X Z) G H y u → t x y G Q3 → Qk (Cxk X Z) G H Q3 Q → r v u H Q) (σ : St) (H : Hp) (Q : VK) (h : liftE (Cxk X Z) W (t2 t ta tb) σ H Q) : tOp r (liftE (Cxk X Z) W ta) (liftE (Cxk X Z) W tb) σ H Q := by
  obtain ⟨σ3, G, Q3, E3, g, rs, h, q, x⟩ := h
  refine ⟨σ3, G, _, E3, g, rs, h, fun d1 G1 v1 H1 h1 g1 r1 k1 => ?_, x⟩
  refine ⟨σ3, G1, _, E3, g1, rs.keep g k1, h1, fun d2 G2 v2 H2 h2 g2 r2 k2 => ?_, x.keep k1⟩
  exact k G2 H2 d1 d2 v1 v2 Q3 Q g2 (r1.keep g1 k2) r2 h2 (q.keep (k1.trans k2))
theorem op_ {op : Operator} {t : Q2} (ho : OpR3 X Z (binaryOp op) t) (ha : PE3 X Z W a ta) (hb : PE3 X Z W b tb) : PE3 X Z W (.BinOp a op b pos) (t2 t ta tb) := by
  obtain ⟨r, h, k⟩ := ho
  exact PE.imp (pe_op h ha hb) (two_ k)
theorem cm_ {op : CmpOp} {t : Q2} (ho : OpR3 X Z (compareOp op) t) (ha : PE3 X Z W a ta) (hb : PE3 X Z W b tb) (hm : behindInMarks op b = false) : PE3 X Z W (.Compare a [op] [b] pos) (t2 t ta tb) := by
  obtain ⟨r, h, k⟩ := ho
  exact PE.imp (pe_cmpR h ha hb hm) (two_ k)
/-- as a test -/
def tb3 (t : TE3) : TT3 := fun σ G Q E => t σ G (fun d G1 => ∃ b, d = .bl b ∧ Q b G1) E
theorem tcm_ {op : CmpOp} {t : Q2} (ho : OpR3 X Z (compareOp op) t) (ha : PE3 X Z W a ta) (hb : PE3 X Z W b tb) (hm : behindInMarks op b = false) : PT3 X Z W (.Compare a [op] [b] pos) (tb3 (t2 t ta tb)) := by
  obtain ⟨r, h, k⟩ := ho
  refine PT.imp (pt_cmpR h ha hb hm) fun σ H Q hq => two_ (W := W) k σ H (fun x H' => ∃ k, x = .bl k ∧ Q k H') ?_
  obtain ⟨σ3, G, Q3, E3, g, rs, h, q, x⟩ := hq
  refine ⟨σ3, G, _, E3, g, rs, h, fun d G1 v H1 ⟨b, e, h1⟩ g1 r1 k1 => ?_, x⟩
  subst e
  cases r1
  exact ⟨b, rfl, q b G1 H1 h1 g1 k1⟩
end
def two64 (i : Int) : Prop := -(2 ^ 64) < i ∧ i < 2 ^ 64
def mulOk (i j : Int) : Prop := two64 i ∨ two64 j ∨ CMulW i j
def divOk (j : Int) : Prop := (j ≠ 0 ∧ j.natAbs < 1073741824)
def add3 (m : Bool) : Q2 := fun x y G Q => match x, y with
  | .int i, .int j => Q (.int (i + j)) G
  | .str i, .str j => i.length + j.length ≤ sizeLine ∧ Q (.str (i ++ j)) G
  | .tup xs, .tup ys => xs.length + ys.length ≤ sizeLine ∧ Q (.tup (xs ++ ys)) G
  | x, y => ∃ xs ys, mq G x = some xs ∧ mq G y = some ys ∧ xs.length + ys.length ≤ sizeLine ∧ outL m (xs ++ ys) G Q
def sub3 : Q2 := fun x y G Q => match x, y with
  | .int i, .int j => Q (.int (i - j)) G
  | _, _ => False
def repOk (n : Nat) (k : Int) : Prop := -(2 ^ 63) ≤ k ∧ k < 2 ^ 63 ∧ n * k.toNat ≤ sizeLine
def mul3 (m : Bool) : Q2 := fun x y G Q => match x, y with
  | .int i, .int j => mulOk i j ∧ Q (.int (i * j)) G
  | .tup xs, .int k => xs ≠ [] ∧ 2 ≤ k ∧ k ≤ 1000 ∧ xs.length ≤ 1000 ∧ Q (.tup (List.replicate k.toNat xs).flatten) G
  | x, .int k => ∃ xs, mq G x = some xs ∧ repOk xs.length k ∧ outL m (List.replicate k.toNat xs).flatten G Q
  | _, _ => False
def fdiv3 : Q2 := fun x y G Q => match x, y with
  | .int i, .int j => 0 < j ∧ j < 1073741824 ∧ Q (.int (i / j)) G
  | _, _ => False
def mod3 : Q2 := fun x y G Q => match x, y with
  | .int i, .int j => 0 < j ∧ Q (.int (i % j)) G
  | _, _ => False
def pow3 : Q2 := fun x y G Q => match x, y with
  | .int i, .int j => CPow i j ∧ Q (.int (i ^ j.toNat)) G
  | _, _ => False
section
variable {X : Cx} {Z : Zx}
theorem SqT.nonnil {K : K3} {G : Gp} {H : Hp} {xs : List D} {vs : List V} (r : DvL K G H xs vs) (h : xs ≠ []) : vs ≠ [] := by
  intro e; subst e; cases r; exact h rfl
theorem o_add (m : Bool) : OpR3 X Z (binaryOp .Add) (add3 m) := by
  refine ⟨_, op_add.or (op_add_str.or (op_catA.or op_cat)), fun G H x y v u Q3 Q g rx ry h q => ?_⟩
  unfold add3 at h
  split at h
  · cases rx; cases ry
    exact .inl ⟨_, _, rfl, rfl, q_of q g h (.int _)⟩
  · cases rx; cases ry
    exact .inr (.inl ⟨_, _, rfl, rfl, h.1, q_of q g h.2 (.str _)⟩)
  · cases rx with
    | tup s1 r1 =>
    cases ry with
    | tup s2 r2 =>
    rename_i a vs b ws
    refine .inr (.inr (.inl ⟨_, _, _, _, rfl, rfl, s1, s2, by rw [← r1.length, ← r2.length]; exact h.1, ?_⟩))
    have rr := r1.append r2
    have hq := h.2
    refine ⟨fun e => ?_, fun _ e => ?_, fun e1 e2 p n => outT_ok g rr q hq n⟩
    · subst e
      cases r1
      exact q_of q g hq (.tup s2 r2)
    · subst e
      cases r2
      rw [List.append_nil] at hq
      exact q_of q g hq (.tup s1 r1)
  · obtain ⟨xs, ys, e1, e2, l, h⟩ := h
    obtain ⟨a, vs, ea, s1, r1⟩ := mq_ok g rx e1
    obtain ⟨b, ws, eb, s2, r2⟩ := mq_ok g ry e2
    exact .inr (.inr (.inr ⟨a, b, vs, ws, ea, eb, s1, s2, by rw [← r1.length, ← r2.length]; exact l, fun p n => outL_ok m g (r1.append r2) q h n⟩))
theorem o_sub : OpR3 X Z (binaryOp .Sub) sub3 := by
  refine ⟨_, op_sub, fun G H x y v u Q3 Q g rx ry h q => ?_⟩
  unfold sub3 at h
  split at h
  · cases rx; cases ry
    exact ⟨_, _, rfl, rfl, q_of q g h (.int _)⟩
  · exact h.elim
theorem o_fdiv : OpR3 X Z (binaryOp .FloorDiv) fdiv3 := by
  refine ⟨_, op_fdiv, fun G H x y v u Q3 Q g rx ry h q => ?_⟩
  unfold fdiv3 at h
  split at h
  · cases rx; cases ry
    exact ⟨_, _, rfl, rfl, ⟨h.1, h.2.1⟩, q_of q g h.2.2 (.int _)⟩
  · exact h.elim
theorem o_mod : OpR3 X Z (binaryOp .Mod) mod3 := by
  refine ⟨_, op_mod, fun G H x y v u Q3 Q g rx ry h q => ?_⟩
  unfold mod3 at h
  split at h
  · cases rx; cases ry
    exact ⟨_, _, rfl, rfl, h.1, q_of q g h.2 (.int _)⟩
  · exact h.elim
theorem o_pow : OpR3 X Z (binaryOp .Pow) pow3 := by
  refine ⟨_, op_pow, fun G H x y v u Q3 Q g rx ry h q => ?_⟩
  unfold pow3 at h
  split at h
  · cases rx; cases ry
    exact ⟨_, _, rfl, rfl, h.1, q_of q g h.2 (.int _)⟩
  · exact h.elim
theorem o_mul (m : Bool) : OpR3 X Z (binaryOp .Mult) (mul3 m) := by
  refine ⟨_, op_mul.or (op_mulW.or (op_repT.or op_rep)), fun G H x y v u Q3 Q g rx ry h q => ?_⟩
  unfold mul3 at h
  split at h
  · cases rx; cases ry
    obtain ⟨c, h⟩ := h
    have hq := q_of q g h (.int _)
    rcases c with c | c | c
    · exact .inl ⟨_, _, rfl, rfl, .inl c, hq⟩
    · exact .inl ⟨_, _, rfl, rfl, .inr c, hq⟩
    · exact .inr (.inl ⟨_, _, rfl, rfl, c, hq⟩)
  · cases ry
    cases rx with
    | tup s r =>
    obtain ⟨h1, h2, h3, h4, h⟩ := h
    exact .inr (.inr (.inl ⟨_, _, _, rfl, rfl, s, SqT.nonnil r h1, h2, h3, by rw [← r.length]; exact h4, fun p n => outT_ok g (r.flat _) q h n⟩))
  · cases ry
    obtain ⟨xs, e1, ⟨h1, h2, h3⟩, h⟩ := h
    obtain ⟨a, vs, ea, s, r⟩ := mq_ok g rx e1
    exact .inr (.inr (.inr ⟨_, _, _, ea, rfl, s, h1, h2, by rw [← r.length]; exact h3, fun p n => outL_ok m g (r.flat _) q h n⟩))
  · exact h.elim
/-! ### comparisons of ints -/
def lt3 : Q2 := fun x y G Q => match x, y with
  | .int i, .int j => Q (.bl (decide (i < j))) G
  | _, _ => False
def le3 : Q2 := fun x y G Q => match x, y with
  | .int i, .int j => Q (.bl (decide (i ≤ j))) G
  | _, _ => False
theorem o_lt : OpR3 X Z (compareOp .Lt) lt3 := by
  refine ⟨_, op_lt, fun G H x y v u Q3 Q g rx ry h q => ?_⟩
  unfold lt3 at h
  split at h
  · cases rx; cases ry
    exact ⟨_, _, rfl, rfl, q_of q g h (.bl _)⟩
  · exact h.elim
theorem o_le : OpR3 X Z (compareOp .LtE) le3 := by
  refine ⟨_, op_le, fun G H x y v u Q3 Q g rx ry h q => ?_⟩
  unfold le3 at h
  split at h
  · cases rx; cases ry
    exact ⟨_, _, rfl, rfl, q_of q g h (.bl _)⟩
  · exact h.elim
def gt3 : Q2 := fun x y => lt3 y x
def ge3 : Q2 := fun x y => le3 y x
theorem o_gt : OpR3 X Z (compareOp .Gt) gt3 := by
  refine ⟨_, op_gt, fun G H x y v u Q3 Q g rx ry h q => ?_⟩
  unfold gt3 lt3 at h
  split at h
  · cases rx; cases ry
    exact ⟨_, _, rfl, rfl, q_of q g h (.bl _)⟩
  · exact h.elim
theorem o_ge : OpR3 X Z (compareOp .GtE) ge3 := by
  refine ⟨_, op_ge, fun G H x y v u Q3 Q g rx ry h q => ?_⟩
  unfold ge3 le3 at h
  split at h
  · cases rx; cases ry
    exact ⟨_, _, rfl, rfl, q_of q g h (.bl _)⟩
  · exact h.elim
end
end L3
namespace L3
open PySem PySem.Spec PyProof.Rows L2
open He (ga)
/-! ### texts by their letters -/
theorem ofString_inj {a b : String} : (Str.ofString a = Str.ofString b) ↔ a = b := by
  constructor
  · intro h
    have h1 := congrArg (fun z : Str => z.cps.toList) h
    have e : ∀ s : String, (Str.ofString s).cps.toList = s.toList.map Char.toNat := fun s => by
      show (cpsOfBytes 0 0 s.toByteArray.data.toList).toArray.toList = _
      rw [List.toList_toArray, cpsOfBytes_string]
    simp only [e] at h1
    have inj : ∀ l m : List Char, l.map Char.toNat = m.map Char.toNat → l = m := by
      intro l
      induction l with
      | nil => intro m h; cases m with
        | nil => rfl
        | cons _ _ => cases h
      | cons c l ih => intro m h; cases m with
        | nil => cases h
        | cons d m =>
          injection h with h1 h2
          have : c = d := Char.toNat_inj.mp h1
          rw [this, ih m h2]
    have h2 := inj _ _ h1
    have := congrArg String.ofList h2
    simpa using this
  · intro h; rw [h]
/-! ### equality -/
mutual
def eqD : D → D → Bool
  | .non, .non => true
  | .bl a, .bl b => a == b
  | .bl a, .int j => (if a then 1 else 0) == j
  | .int i, .bl b => i == (if b then 1 else 0)
  | .int i, .int j => i == j
  | .str x, .str y => x == y
  | .tup xs, .tup ys => eqL xs ys
  | .fl xs, .fl ys => eqL xs ys
  | .fl xs, .sl ys => eqL xs ys
  | .sl xs, .fl ys => eqL xs ys
  | .sl xs, .sl ys => eqL xs ys
  | _, _ => false
def eqL : List D → List D → Bool
  | [], [] => true
  | x :: xs, y :: ys => eqD x y && eqL xs ys
  | _, _ => false
end
mutual
def sh : Nat → D → Bool
  | _, .non => true
  | _, .bl _ => true
  | _, .int _ => true
  | _, .str x => PyData.strOk x
  | n + 1, .tup xs => shL n xs
  | n + 1, .fl xs => shL n xs
  | n + 1, .sl xs => shL n xs
  | _, _ => false
def shL : Nat → List D → Bool
  | _, [] => true
  | n, x :: xs => sh n x && shL n xs
end
mutual
def py : D → PyData
  | .non => .none
  | .bl b => .bool b
  | .int i => .int i
  | .str x => .str x
  | .tup xs => .tuple (pyL xs)
  | .fl xs => .list (pyL xs)
  | .sl xs => .list (pyL xs)
  | _ => .none
def pyL : List D → List PyData
  | [] => []
  | x :: xs => py x :: pyL xs
end
mutual
theorem sh_lay : ∀ (n : Nat) (d : D), sh n d = true → (py d).canLay0 = true ∧ (py d).depth ≤ n
  | _, .non, _ => by simp [py, PyData.canLay0, PyData.depth]
  | _, .bl _, _ => by simp [py, PyData.canLay0, PyData.depth]
  | _, .int _, _ => by simp [py, PyData.canLay0, PyData.depth]
  | _, .str x, h => by
    have h : PyData.strOk x = true := by simpa [sh] using h
    simp [py, PyData.canLay0, PyData.depth, h]
  | n + 1, .tup xs, h => by
    have := shL_lay n xs (by simpa [sh] using h)
    simp only [py, PyData.canLay0, PyData.depth]
    exact ⟨this.1, by omega⟩
  | n + 1, .fl xs, h => by
    have := shL_lay n xs (by simpa [sh] using h)
    simp only [py, PyData.canLay0, PyData.depth]
    exact ⟨this.1, by omega⟩
  | n + 1, .sl xs, h => by
    have := shL_lay n xs (by simpa [sh] using h)
    simp only [py, PyData.canLay0, PyData.depth]
    exact ⟨this.1, by omega⟩
  | 0, .tup xs, h => by simp [sh] at h
  | 0, .fl xs, h => by simp [sh] at h
  | 0, .sl xs, h => by simp [sh] at h
  | _, .ob _ _ _, h => by simp [sh] at h
  | _, .emp, h => by simp [sh] at h
  | _, .ref _, h => by simp [sh] at h
  | _, .ex _, h => by simp [sh] at h
  | _, .exf _ _ _, h => by simp [sh] at h
theorem shL_lay : ∀ (n : Nat) (d : List D), shL n d = true → PyData.canLayAll0 (pyL d) = true ∧ PyData.depthAll (pyL d) ≤ n
  | _, [], _ => by simp [pyL, PyData.canLayAll0, PyData.depthAll]
  | n, x :: xs, h => by
    simp only [shL, Bool.and_eq_true] at h
    have h1 := sh_lay n x h.1
    have h2 := shL_lay n xs h.2
    simp only [pyL, PyData.canLayAll0, PyData.depthAll, h1.1, h2.1, Bool.and_true, true_and]
    omega
end
theorem sh_shaped {d : D} (h : sh 64 d = true) : SeqAt.shaped (py d) = true := by
  have := sh_lay 64 d h
  unfold SeqAt.shaped
  rw [this.1, decide_eq_true this.2]; rfl
mutual
theorem eqv_py : ∀ (n : Nat) (d e : D), sh n d = true → sh n e = true → PyData.eqv (py d) (py e) = eqD d e
  | n, d, e, hd, he => by
    cases d with
    | ob _ _ _ => cases n <;> simp [sh] at hd
    | emp => cases n <;> simp [sh] at hd
    | ref _ => cases n <;> simp [sh] at hd
    | ex _ => cases n <;> simp [sh] at hd
    | exf _ _ _ => cases n <;> simp [sh] at hd
    | fn _ => cases n <;> simp [sh] at hd
    | lam _ _ _ _ _ => cases n <;> simp [sh] at hd
    | tup xs =>
      cases n with
      | zero => simp [sh] at hd
      | succ n =>
        cases e with
        | tup ys => simp only [py, PyData.eqv, eqD]; exact eqv_pyL n xs ys (by simpa [sh] using hd) (by simpa [sh] using he)
        | ob _ _ _ => simp [sh] at he
        | emp => simp [sh] at he
        | ref _ => simp [sh] at he
        | ex _ => simp [sh] at he
        | exf _ _ _ => simp [sh] at he
        | fn _ => simp [sh] at he
        | lam _ _ _ _ _ => simp [sh] at he
        | _ => simp [py, PyData.eqv, eqD]
    | fl xs =>
      cases n with
      | zero => simp [sh] at hd
      | succ n =>
        cases e with
        | fl ys => simp only [py, PyData.eqv, eqD]; exact eqv_pyL n xs ys (by simpa [sh] using hd) (by simpa [sh] using he)
        | sl ys => simp only [py, PyData.eqv, eqD]; exact eqv_pyL n xs ys (by simpa [sh] using hd) (by simpa [sh] using he)
        | ob _ _ _ => simp [sh] at he
        | emp => simp [sh] at he
        | ref _ => simp [sh] at he
        | ex _ => simp [sh] at he
        | exf _ _ _ => simp [sh] at he
        | fn _ => simp [sh] at he
        | lam _ _ _ _ _ => simp [sh] at he
        | _ => simp [py, PyData.eqv, eqD]
    | sl xs =>
      cases n with
      | zero => simp [sh] at hd
      | succ n =>
        cases e with
        | fl ys => simp only [py, PyData.eqv, eqD]; exact eqv_pyL n xs ys (by simpa [sh] using hd) (by simpa [sh] using he)
        | sl ys => simp only [py, PyData.eqv, eqD]; exact eqv_pyL n xs ys (by simpa [sh] using hd) (by simpa [sh] using he)
        | ob _ _ _ => simp [sh] at he
        | emp => simp [sh] at he
        | ref _ => simp [sh] at he
        | ex _ => simp [sh] at he
        | exf _ _ _ => simp [sh] at he
        | fn _ => simp [sh] at he
        | lam _ _ _ _ _ => simp [sh] at he
        | _ => simp [py, PyData.eqv, eqD]
    | non => cases e with
      | ob _ _ _ => cases n <;> simp [sh] at he
      | emp => cases n <;> simp [sh] at he
      | ref _ => cases n <;> simp [sh] at he
      | ex _ => cases n <;> simp [sh] at he
      | exf _ _ _ => cases n <;> simp [sh] at he
      | fn _ => cases n <;> simp [sh] at he
      | lam _ _ _ _ _ => cases n <;> simp [sh] at he
      | _ => simp [py, PyData.eqv, eqD]
    | bl b => cases e with
      | ob _ _ _ => cases n <;> simp [sh] at he
      | emp => cases n <;> simp [sh] at he
      | ref _ => cases n <;> simp [sh] at he
      | ex _ => cases n <;> simp [sh] at he
      | exf _ _ _ => cases n <;> simp [sh] at he
      | fn _ => cases n <;> simp [sh] at he
      | lam _ _ _ _ _ => cases n <;> simp [sh] at he
      | _ => simp [py, PyData.eqv, eqD]
    | int b => cases e with
      | ob _ _ _ => cases n <;> simp [sh] at he
      | emp => cases n <;> simp [sh] at he
      | ref _ => cases n <;> simp [sh] at he
      | ex _ => cases n <;> simp [sh] at he
      | exf _ _ _ => cases n <;> simp [sh] at he
      | fn _ => cases n <;> simp [sh] at he
      | lam _ _ _ _ _ => cases n <;> simp [sh] at he
      | _ => simp [py, PyData.eqv, eqD]
    | str b => cases e with
      | ob _ _ _ => cases n <;> simp [sh] at he
      | emp => cases n <;> simp [sh] at he
      | ref _ => cases n <;> simp [sh] at he
      | ex _ => cases n <;> simp [sh] at he
      | exf _ _ _ => cases n <;> simp [sh] at he
      | fn _ => cases n <;> simp [sh] at he
      | lam _ _ _ _ _ => cases n <;> simp [sh] at he
      | _ => simp [py, PyData.eqv, eqD]
theorem eqv_pyL : ∀ (n : Nat) (d e : List D), shL n d = true → shL n e = true → PyData.eqvAll (pyL d) (pyL e) = eqL d e
  | _, [], [], _, _ => by simp [pyL, PyData.eqvAll, eqL]
  | _, [], _ :: _, _, _ => by simp [pyL, PyData.eqvAll, eqL]
  | _, _ :: _, [], _, _ => by simp [pyL, PyData.eqvAll, eqL]
  | n, x :: xs, y :: ys, hd, he => by
    simp only [shL, Bool.and_eq_true] at hd he
    simp only [pyL, PyData.eqvAll, eqL]
    rw [eqv_py n x y hd.1 he.1, eqv_pyL n xs ys hd.2 he.2]
end
section
variable {K : K3} {G : Gp} {H : Hp}
mutual
theorem Dv.dp : ∀ {d : D} {v : V} {n : Nat}, Dv K G H d v → sh n d = true → Dp K.f H v (py d)
  | _, _, _, .non, _ => by simp only [py]; exact .non
  | _, _, _, .bl b, _ => by simp only [py]; exact .bl b
  | _, _, _, .int b, _ => by simp only [py]; exact .int b
  | _, _, _, .str b, _ => by simp only [py]; exact .str b
  | _, _, 0, .tup s r, h => by simp [sh] at h
  | _, _, n + 1, .tup s r, h => by simp only [py]; exact .tup s (DvL.dp r (n := n) (by simpa [sh] using h))
  | _, _, 0, .fl s n r, h => by simp [sh] at h
  | _, _, n + 1, .fl s _ r, h => by simp only [py]; exact .lst (SqL.of s) (DvL.dp r (n := n) (by simpa [sh] using h))
  | _, _, 0, .sl s r, h => by simp [sh] at h
  | _, _, n + 1, .sl s r, h => by simp only [py]; exact .lst s.sql (DvL.dp r (n := n) (by simpa [sh] using h))
  | _, _, n, .ob _ _ _ _, h => by cases n <;> simp [sh] at h
  | _, _, n, .emp _ _, h => by cases n <;> simp [sh] at h
  | _, _, n, .ref _, h => by cases n <;> simp [sh] at h
  | _, _, n, .ex _ _, h => by cases n <;> simp [sh] at h
  | _, _, n, .fn _, h => by cases n <;> simp [sh] at h
  | _, _, n, .lam _ _ _, h => by cases n <;> simp [sh] at h
  | _, _, n, .exf _ _ _ _, h => by cases n <;> simp [sh] at h
theorem DvL.dp : ∀ {d : List D} {v : List V} {n : Nat}, DvL K G H d v → shL n d = true → DpAll K.f H v (pyL d)
  | _, _, _, .nil, _ => by simp only [pyL]; exact .nil
  | _, _, n, .cons r t, h => by
    simp only [shL, Bool.and_eq_true] at h
    simp only [pyL]
    exact .cons (Dv.dp r h.1) (DvL.dp t h.2)
end
end
/-- scalars that == tells apart without a condition -/
def scD : D → D → Bool
  | .non, .non => true | .non, .int _ => true | .int _, .non => true | .non, .bl _ => true | .bl _, .non => true | .non, .str _ => true | .str _, .non => true
  | .int _, .int _ => true | .bl _, .bl _ => true | .str _, .str _ => true
  | .int _, .str _ => true | .str _, .int _ => true | .bl _, .str _ => true | .str _, .bl _ => true
  | _, _ => false
def eqOk (x y : D) : Bool := scD x y || (sh 64 x && sh 64 y)
def eq3 : Q2 := fun x y G Q => eqOk x y = true ∧ Q (.bl (eqD x y)) G
def ne3 : Q2 := fun x y G Q => eqOk x y = true ∧ Q (.bl (!eqD x y)) G
section
variable {K : K3} {G : Gp} {H : Hp}
theorem scal_of {x y : D} {v u : V} (rx : Dv K G H x v) (ry : Dv K G H y u) (h : scD x y = true) : scal v u = true ∧ decide (v = u) = eqD x y := by
  cases rx <;> cases ry <;> first | (simp [scD] at h; done) | (constructor <;> simp [scal, eqD] <;> rfl) | (constructor <;> simp [scal, eqD])
variable {X : Cx} {Z : Zx}
theorem o_eq {k : Nat} (hr : Room k X.A) : OpR3 X Z (compareOp .Eq) eq3 := by
  refine ⟨_, op_eq.or (op_eqD hr.units), fun G H x y v u Q3 Q g rx ry h q => ?_⟩
  obtain ⟨c, h⟩ := h
  cases e : scD x y with
  | true =>
    obtain ⟨h1, h2⟩ := scal_of rx ry e
    exact .inl ⟨h1, by rw [h2]; exact q_of q g h (.bl _)⟩
  | false =>
    unfold eqOk at c
    rw [e, Bool.false_or, Bool.and_eq_true] at c
    refine .inr ⟨_, _, rx.dp c.1, ry.dp c.2, sh_shaped c.1, sh_shaped c.2, ?_⟩
    rw [eqv_py 64 x y c.1 c.2]
    exact q_of q g h (.bl _)
theorem o_ne {k : Nat} (hr : Room k X.A) : OpR3 X Z (compareOp .NotEq) ne3 := by
  refine ⟨_, op_ne.or (op_neD hr.units), fun G H x y v u Q3 Q g rx ry h q => ?_⟩
  obtain ⟨c, h⟩ := h
  cases e : scD x y with
  | true =>
    obtain ⟨h1, h2⟩ := scal_of rx ry e
    exact .inl ⟨h1, by rw [h2]; exact q_of q g h (.bl _)⟩
  | false =>
    unfold eqOk at c
    rw [e, Bool.false_or, Bool.and_eq_true] at c
    refine .inr ⟨_, _, rx.dp c.1, ry.dp c.2, sh_shaped c.1, sh_shaped c.2, ?_⟩
    rw [eqv_py 64 x y c.1 c.2]
    exact q_of q g h (.bl _)
end
/-! ### is None, is True, is False -/
def isN : D → Bool
  | .non => true
  | _ => false
def isB (b : Bool) : D → Bool
  | .bl c => c == b
  | _ => false
def is3 (neg : Bool) : Q2 := fun x y G Q => match y with
  | .non => Q (.bl (if neg then !isN x else isN x)) G
  | .bl b => Q (.bl (if neg then !isB b x else isB b x)) G
  | _ => False
theorem isn_ok {K : K3} {G : Gp} {H : Hp} {x : D} {v : V} (r : Dv K G H x v) : decide (v = V.non) = isN x := by
  cases r <;> simp [isN]
theorem op_isAny {X : Cx} : OpR X (compareOp .Is) (fun x y H Q => ∃ b : Bool, y = .bl b ∧ Q (.bl (decide (x = .bl b))) H) := by
  intro pins s σ H x y v u Q I rx ry h
  obtain ⟨b, rfl, q⟩ := h
  cases (show u = Value.bool b from ry)
  cases x with
  | bl c =>
    cases (show v = Value.bool c from rx)
    refine wpAny_pure (fin_bl I q ?_)
    cases b <;> cases c <;> rfl
  | int i => obtain ⟨t, rfl⟩ := rx; exact wpAny_pure (fin_bl I q rfl)
  | str i => obtain ⟨t, rfl⟩ := rx; exact wpAny_pure (fin_bl I q rfl)
  | byt i => obtain ⟨t, rfl⟩ := rx; exact wpAny_pure (fin_bl I q rfl)
  | flt i => obtain ⟨t, rfl⟩ := rx; exact wpAny_pure (fin_bl I q rfl)
  | non => cases (show v = Value.none from rx); exact wpAny_pure (fin_bl I q rfl)
  | ref a => cases (show v = Value.ref a from rx); exact wpAny_pure (fin_bl I q rfl)
  | ty a => cases (show v = Value.type a from rx); exact wpAny_pure (fin_bl I q rfl)
theorem op_notAny {X : Cx} : OpR X (compareOp .IsNot) (fun x y H Q => ∃ b : Bool, y = .bl b ∧ Q (.bl (!decide (x = .bl b))) H) := by
  intro pins s σ H x y v u Q I rx ry h
  obtain ⟨b, rfl, q⟩ := h
  cases (show u = Value.bool b from ry)
  cases x with
  | bl c =>
    cases (show v = Value.bool c from rx)
    refine wpAny_pure (fin_bl I q ?_)
    cases b <;> cases c <;> rfl
  | int i => obtain ⟨t, rfl⟩ := rx; exact wpAny_pure (fin_bl I q rfl)
  | str i => obtain ⟨t, rfl⟩ := rx; exact wpAny_pure (fin_bl I q rfl)
  | byt i => obtain ⟨t, rfl⟩ := rx; exact wpAny_pure (fin_bl I q rfl)
  | flt i => obtain ⟨t, rfl⟩ := rx; exact wpAny_pure (fin_bl I q rfl)
  | non => cases (show v = Value.none from rx); exact wpAny_pure (fin_bl I q rfl)
  | ref a => cases (show v = Value.ref a from rx); exact wpAny_pure (fin_bl I q rfl)
  | ty a => cases (show v = Value.type a from rx); exact wpAny_pure (fin_bl I q rfl)
theorem isb_ok {K : K3} {G : Gp} {H : Hp} {x : D} {v : V} {b : Bool} (r : Dv K G H x v) : decide (v = V.bl b) = isB b x := by
  cases r <;> simp [isB] <;> rfl
section
variable {X : Cx} {Z : Zx}
theorem o_is : OpR3 X Z (compareOp .Is) (is3 false) := by
  refine ⟨_, op_isN.or op_isAny, fun G H x y v u Q3 Q g rx ry h q => ?_⟩
  unfold is3 at h
  split at h
  · cases ry
    exact .inl ⟨rfl, by rw [isn_ok rx]; exact q_of q g h (.bl _)⟩
  · cases ry
    exact .inr ⟨_, rfl, by rw [isb_ok rx]; exact q_of q g h (.bl _)⟩
  · exact h.elim
theorem o_isnot : OpR3 X Z (compareOp .IsNot) (is3 true) := by
  refine ⟨_, op_notN.or op_notAny, fun G H x y v u Q3 Q g rx ry h q => ?_⟩
  unfold is3 at h
  split at h
  · cases ry
    exact .inl ⟨rfl, by rw [isn_ok rx]; exact q_of q g h (.bl _)⟩
  · cases ry
    exact .inr ⟨_, rfl, by rw [isb_ok rx]; exact q_of q g h (.bl _)⟩
  · exact h.elim
end
end L3
namespace L3
open PySem PySem.Spec PyProof.Rows L2
open He (ga)
/-! ### x in a sequence of flat things -/
def flD : D → Bool
  | .non => true
  | .bl _ => true
  | .int _ => true
  | .str _ => true
  | _ => false
def inD (x : D) (xs : List D) : Bool := xs.any fun y => eqD y x
def in3 (neg : Bool) : Q2 := fun x y G Q => ∃ xs, sq G y = some xs ∧ flD x = true ∧ xs.all flD = true ∧ Q (.bl (if neg then !inD x xs else inD x xs)) G
section
variable {K : K3} {G : Gp} {H : Hp}
theorem fl_ok {x : D} {v : V} (r : Dv K G H x v) (h : flD x = true) : flatV v = true := by
  cases r <;> first | rfl | (simp [flD] at h)
theorem eqV_ok {x y : D} {v u : V} (rx : Dv K G H x v) (ry : Dv K G H y u) (h : flD x = true) (h' : flD y = true) : eqV v u = eqD x y := by
  cases rx <;> cases ry <;> first | (simp [flD] at h; done) | (simp [flD] at h'; done) | simp [eqV, eqD]
theorem fls_ok : ∀ {xs : List D} {vs : List V}, DvL K G H xs vs → xs.all flD = true → vs.all flatV = true
  | _, _, .nil, _ => rfl
  | _, _, .cons r t, h => by
    rw [List.all_cons, Bool.and_eq_true] at h ⊢
    exact ⟨fl_ok r h.1, fls_ok t h.2⟩
theorem inV_ok {x : D} {v : V} (rx : Dv K G H x v) (h : flD x = true) : ∀ {xs : List D} {vs : List V}, DvL K G H xs vs → xs.all flD = true → inV v vs = inD x xs
  | _, _, .nil, _ => rfl
  | _, _, .cons r t, f => by
    rw [List.all_cons, Bool.and_eq_true] at f
    have ih := inV_ok rx h t f.2
    unfold inV inD at ih ⊢
    rw [List.any_cons, List.any_cons, eqV_ok r rx f.1 h, ih]
variable {X : Cx} {Z : Zx}
theorem o_in : OpR3 X Z (compareOp .In) (in3 false) := by
  refine ⟨_, op_in_seq, fun G H x y v u Q3 Q g rx ry h q => ?_⟩
  obtain ⟨xs, e, fx, fs, h⟩ := h
  obtain ⟨a, vs, ea, s, r⟩ := sq_ok g ry e
  refine ⟨a, vs, ea, s, fl_ok rx fx, fls_ok r fs, ?_⟩
  rw [inV_ok rx fx r fs]
  exact q_of q g h (.bl _)
theorem o_notin : OpR3 X Z (compareOp .NotIn) (in3 true) := by
  refine ⟨_, op_notIn_seq, fun G H x y v u Q3 Q g rx ry h q => ?_⟩
  obtain ⟨xs, e, fx, fs, h⟩ := h
  obtain ⟨a, vs, ea, s, r⟩ := sq_ok g ry e
  refine ⟨a, vs, ea, s, fl_ok rx fx, fls_ok r fs, ?_⟩
  rw [inV_ok rx fx r fs]
  exact q_of q g h (.bl _)
end
/-! ### a < b < c -/
def tch (t t' : Q2) (ta tb tc : TE3) : TE3 := fun σ G Q E => ta σ G (fun x G1 => tb σ G1 (fun y G2 => t x y G2 fun z G3 => ∃ k, z = .bl k ∧ if k = true then tc σ G3 (fun w G4 => t' y w G4 Q) E else Q (.bl false) G3) E) E
section
variable {X : Cx} {Z : Zx} {W : WX} {a b c : Expr} {ta tb tc : TE3} {pos : Pos}
theorem chain_k {r r' : R2} {t t' : Q2} (k : ∀ G H x y v u Q3 Q, GH (Cxk X Z) G H → Dv (Cxk X Z) G H x v → Dv (Cxk X Z) G H y u → t x y G Q3 → Qk (Cxk X Z) G H Q3 Q → r v u H Q)
    (k' : ∀ G H x y v u Q3 Q, GH (Cxk X Z) G H → Dv (Cxk X Z) G H x v → Dv (Cxk X Z) G H y u → t' x y G Q3 → Qk (Cxk X Z) G H Q3 Q → r' v u H Q) (σ : St) (H : Hp) (Q : VK) (h : liftE (Cxk X Z) W (tch t t' ta tb tc) σ H Q) :
    tChain r r' (liftE (Cxk X Z) W ta) (liftE (Cxk X Z) W tb) (liftE (Cxk X Z) W tc) σ H Q := by
  obtain ⟨σ3, G, Q3, E3, g, rs, h, q, x⟩ := h
  refine ⟨σ3, G, _, E3, g, rs, h, fun d1 G1 v1 H1 h1 g1 r1 k1 => ?_, x⟩
  refine ⟨σ3, G1, _, E3, g1, rs.keep g k1, h1, fun d2 G2 v2 H2 h2 g2 r2 k2 => ?_, x.keep k1⟩
  refine k G2 H2 d1 d2 v1 v2 _ _ g2 (r1.keep g1 k2) r2 h2 fun d3 G3 v3 H3 h3 g3 r3 k3 => ?_
  obtain ⟨b, e, h3⟩ := h3
  subst e
  cases r3
  refine ⟨b, rfl, ?_⟩
  cases b with
  | true =>
    rw [if_pos rfl] at h3 ⊢
    refine ⟨σ3, G3, _, E3, g3, ((rs.keep g k1).keep g1 k2).keep g2 k3, h3, fun d4 G4 v4 H4 h4 g4 r4 k4 => ?_, x.keep ((k1.trans k2).trans k3)⟩
    exact k' G4 H4 d2 d4 v2 v4 Q3 Q g4 ((r2.keep g2 k3).keep g3 k4) r4 h4 (q.keep (((k1.trans k2).trans k3).trans k4))
  | false =>
    rw [if_neg Bool.false_ne_true] at h3 ⊢
    exact q _ _ _ _ h3 g3 (.bl false) ((k1.trans k2).trans k3)
theorem ch_ {op op' : CmpOp} {t t' : Q2} (ho : OpR3 X Z (compareOp op) t) (ho' : OpR3 X Z (compareOp op') t') (ha : PE3 X Z W a ta) (hb : PE3 X Z W b tb) (hc : PE3 X Z W c tc)
    (hm : lastMarks [op, op'] [b, c] = false := by with_unfolding_all rfl) : PE3 X Z W (.Compare a [op, op'] [b, c] pos) (tch t t' ta tb tc) := by
  obtain ⟨r, h, k⟩ := ho
  obtain ⟨r', h', k'⟩ := ho'
  exact PE.imp (pe_chain h h' ha hb hc hm) (chain_k k k')
theorem tch_ {op op' : CmpOp} {t t' : Q2} (ho : OpR3 X Z (compareOp op) t) (ho' : OpR3 X Z (compareOp op') t') (ha : PE3 X Z W a ta) (hb : PE3 X Z W b tb) (hc : PE3 X Z W c tc)
    (hm : lastMarks [op, op'] [b, c] = false := by with_unfolding_all rfl) : PT3 X Z W (.Compare a [op, op'] [b, c] pos) (tb3 (tch t t' ta tb tc)) := by
  obtain ⟨r, h, k⟩ := ho
  obtain ⟨r', h', k'⟩ := ho'
  refine PT.imp (pt_chain h h' ha hb hc hm) fun σ H Q hq => chain_k (W := W) k k' σ H (fun x H' => ∃ k, x = .bl k ∧ Q k H') ?_
  obtain ⟨σ3, G, Q3, E3, g, rs, h, q, x⟩ := hq
  refine ⟨σ3, G, _, E3, g, rs, h, fun d G1 v H1 ⟨b, e, h1⟩ g1 r1 k1 => ?_, x⟩
  subst e
  cases r1
  exact ⟨b, rfl, q b G1 H1 h1 g1 k1⟩
end
/-! ### and, or, not; if -/
def tand (ta tb : TE3) : TE3 := fun σ G Q E => ta σ G (fun x G1 => ∃ c, x = .bl c ∧ if c = true then tb σ G1 Q E else Q (.bl false) G1) E
def tor (ta tb : TE3) : TE3 := fun σ G Q E => ta σ G (fun x G1 => ∃ c, x = .bl c ∧ if c = true then Q (.bl true) G1 else tb σ G1 Q E) E
def tnot (ta : TE3) : TE3 := fun σ G Q E => ta σ G (fun x G1 => ∃ c, x = .bl c ∧ Q (.bl (!c)) G1) E
def tif (tc : TT3) (ta tb : TE3) : TE3 := fun σ G Q E => tc σ G (fun c G1 => if c = true then ta σ G1 Q E else tb σ G1 Q E) E
def Tand (ta tb : TT3) : TT3 := fun σ G Q E => ta σ G (fun c G1 => if c = true then tb σ G1 Q E else Q false G1) E
def Tor (ta tb : TT3) : TT3 := fun σ G Q E => ta σ G (fun c G1 => if c = true then Q true G1 else tb σ G1 Q E) E
def Tnot (ta : TT3) : TT3 := fun σ G Q E => ta σ G (fun c G1 => Q (!c) G1) E
section
variable {X : Cx} {Z : Zx} {W : WX} {a b c : Expr} {rest : List Expr} {ta tb : TE3} {tc td : TT3} {pos : Pos}
theorem one_ {op} {t : TE3} (h : PE3 X Z W a t) : PE3 X Z W (.BoolOp op [a] pos) t := pe_one h
theorem and_ (ha : PE3 X Z W a ta) (hb : PE3 X Z W (.BoolOp .And (b :: rest) pos) tb) : PE3 X Z W (.BoolOp .And (a :: b :: rest) pos) (tand ta tb) := PE.imp (pe_and ha hb) fun σ H Q h => by
  obtain ⟨σ3, G, Q3, E3, g, rs, h, q, x⟩ := h
  refine ⟨σ3, G, _, E3, g, rs, h, fun d1 G1 v1 H1 ⟨c, e, h1⟩ g1 r1 k1 => ?_, x⟩
  subst e
  cases r1
  refine ⟨c, rfl, ?_⟩
  cases c with
  | true => exact ⟨σ3, G1, Q3, E3, g1, rs.keep g k1, h1, q.keep k1, x.keep k1⟩
  | false => exact q _ _ _ _ h1 g1 (.bl false) k1
theorem or_ (ha : PE3 X Z W a ta) (hb : PE3 X Z W (.BoolOp .Or (b :: rest) pos) tb) : PE3 X Z W (.BoolOp .Or (a :: b :: rest) pos) (tor ta tb) := PE.imp (pe_or ha hb) fun σ H Q h => by
  obtain ⟨σ3, G, Q3, E3, g, rs, h, q, x⟩ := h
  refine ⟨σ3, G, _, E3, g, rs, h, fun d1 G1 v1 H1 ⟨c, e, h1⟩ g1 r1 k1 => ?_, x⟩
  subst e
  cases r1
  refine ⟨c, rfl, ?_⟩
  cases c with
  | false => exact ⟨σ3, G1, Q3, E3, g1, rs.keep g k1, h1, q.keep k1, x.keep k1⟩
  | true => exact q _ _ _ _ h1 g1 (.bl true) k1
theorem not_ (ha : PE3 X Z W a ta) : PE3 X Z W (.UnaryOp .Not a pos) (tnot ta) := PE.imp (pe_not ha) fun σ H Q h => by
  obtain ⟨σ3, G, Q3, E3, g, rs, h, q, x⟩ := h
  refine ⟨σ3, G, _, E3, g, rs, h, fun d1 G1 v1 H1 ⟨c, e, h1⟩ g1 r1 k1 => ?_, x⟩
  subst e
  cases r1
  exact ⟨c, rfl, q _ _ _ _ h1 g1 (.bl _) k1⟩
/-- an expression whose value is a bool, as a test -/
theorem tv_ {e : Expr} {t : TE3} (h : PE3 X Z W e t) (he : ∀ whole, isTrue e X.env whole = (do let v ← whole; standAt e.pos; holding [v] (truthy v)) := by intro _; rfl) : PT3 X Z W e (tb3 t) := PT.imp (pt_val h he) fun σ H Q h => by
  obtain ⟨σ3, G, Q3, E3, g, rs, h, q, x⟩ := h
  refine ⟨σ3, G, _, E3, g, rs, h, fun d1 G1 v1 H1 ⟨c, e, h1⟩ g1 r1 k1 => ?_, x⟩
  subst e
  cases r1
  exact ⟨c, rfl, q _ _ _ h1 g1 k1⟩
theorem w1and_ (ha : PT3 X Z W a tc) : PW3 X Z W (.BoolOp .And [a] pos) tc := pw_and1 ha
theorem w1or_ (ha : PT3 X Z W a tc) : PW3 X Z W (.BoolOp .Or [a] pos) tc := pw_or1 ha
theorem wand_ (ha : PT3 X Z W a tc) (hb : PW3 X Z W (.BoolOp .And (b :: rest) pos) td) : PW3 X Z W (.BoolOp .And (a :: b :: rest) pos) (Tand tc td) := PW.imp (pw_and ha hb) fun σ H Q h => by
  obtain ⟨σ3, G, Q3, E3, g, rs, h, q, x⟩ := h
  refine ⟨σ3, G, _, E3, g, rs, h, fun c G1 H1 h1 g1 k1 => ?_, x⟩
  cases c with
  | true => exact ⟨σ3, G1, Q3, E3, g1, rs.keep g k1, h1, q.keep k1, x.keep k1⟩
  | false => exact q _ _ _ h1 g1 k1
theorem wor_ (ha : PT3 X Z W a tc) (hb : PW3 X Z W (.BoolOp .Or (b :: rest) pos) td) : PW3 X Z W (.BoolOp .Or (a :: b :: rest) pos) (Tor tc td) := PW.imp (pw_or ha hb) fun σ H Q h => by
  obtain ⟨σ3, G, Q3, E3, g, rs, h, q, x⟩ := h
  refine ⟨σ3, G, _, E3, g, rs, h, fun c G1 H1 h1 g1 k1 => ?_, x⟩
  cases c with
  | false => exact ⟨σ3, G1, Q3, E3, g1, rs.keep g k1, h1, q.keep k1, x.keep k1⟩
  | true => exact q _ _ _ h1 g1 k1
theorem tw_ (h : PW3 X Z W a tc) : PT3 X Z W a tc := PW.pt h
theorem tnot_ (ha : PT3 X Z W a tc) : PT3 X Z W (.UnaryOp .Not a pos) (Tnot tc) := PT.imp (pt_not ha) fun σ H Q h => by
  obtain ⟨σ3, G, Q3, E3, g, rs, h, q, x⟩ := h
  exact ⟨σ3, G, _, E3, g, rs, h, fun c G1 H1 h1 g1 k1 => q _ _ _ h1 g1 k1, x⟩
theorem if_ (hc : PT3 X Z W c tc) (ha : PE3 X Z W a ta) (hb : PE3 X Z W b tb) : PE3 X Z W (.IfExp c a b pos) (tif tc ta tb) := PE.imp (pe_ifExp hc ha hb) fun σ H Q h => by
  obtain ⟨σ3, G, Q3, E3, g, rs, h, q, x⟩ := h
  refine ⟨σ3, G, _, E3, g, rs, h, fun c G1 H1 h1 g1 k1 => ?_, x⟩
  cases c with
  | true => exact ⟨σ3, G1, Q3, E3, g1, rs.keep g k1, h1, q.keep k1, x.keep k1⟩
  | false => exact ⟨σ3, G1, Q3, E3, g1, rs.keep g k1, h1, q.keep k1, x.keep k1⟩
end
/-! ### lists of expressions; displays -/
def anil : TA3 := fun _ G Q _ => Q [] G
def acons (ta : TE3) (tr : TA3) : TA3 := fun σ G Q E => ta σ G (fun x G1 => tr σ G1 (fun xs G2 => Q (x :: xs) G2) E) E
def ttup (t : TA3) : TE3 := fun σ G Q E => t σ G (fun xs G1 => xs.length ≤ sizeLine ∧ Q (.tup xs) G1) E
def tlst (m : Bool) (t : TA3) : TE3 := fun σ G Q E => t σ G (fun xs G1 => xs.length ≤ sizeLine ∧ outL m xs G1 Q) E
section
variable {X : Cx} {Z : Zx} {W : WX} {e : Expr} {es : List Expr} {te : TE3} {t : TA3} {pos : Pos}
theorem nil_ : PA3 X Z W [] anil := PA.imp pa_nil fun σ H Q h => by
  obtain ⟨σ3, G, Q3, E3, g, rs, h, q, x⟩ := h
  exact q _ _ _ _ h g .nil Keep.refl
theorem cons_ (ha : PE3 X Z W e te) (hr : PA3 X Z W es t) (hs : starEach (e :: es) X.env = (false, eval e X.env) :: starEach es X.env := by rfl) : PA3 X Z W (e :: es) (acons te t) := PA.imp (pa_cons ha hr hs) fun σ H Q h => by
  obtain ⟨σ3, G, Q3, E3, g, rs, h, q, x⟩ := h
  refine ⟨σ3, G, _, E3, g, rs, h, fun d1 G1 v1 H1 h1 g1 r1 k1 => ?_, x⟩
  refine ⟨σ3, G1, _, E3, g1, rs.keep g k1, h1, fun ds G2 vs H2 h2 g2 r2 k2 => ?_, x.keep k1⟩
  exact q _ _ _ _ h2 g2 (.cons (r1.keep g1 k2) r2) (k1.trans k2)
theorem tup_ {x1} (h : PA3 X Z W es t) : PE3 X Z W (.Tuple es x1 pos) (ttup t) := PE.imp (pe_tup h) fun σ H Q h => by
  obtain ⟨σ3, G, Q3, E3, g, rs, h, q, x⟩ := h
  refine ⟨σ3, G, _, E3, g, rs, h, fun ds G1 vs H1 ⟨l, h1⟩ g1 r1 k1 => ⟨by rw [← r1.length]; exact l, fun p n => outT_ok g1 r1 (q.keep k1) h1 n⟩, x⟩
theorem lst_ (m : Bool) (h : PA3 X Z W es t) : PE3 X Z W (.List es pos) (tlst m t) := PE.imp (pe_lst h) fun σ H Q h => by
  obtain ⟨σ3, G, Q3, E3, g, rs, h, q, x⟩ := h
  refine ⟨σ3, G, _, E3, g, rs, h, fun ds G1 vs H1 ⟨l, h1⟩ g1 r1 k1 => ⟨by rw [← r1.length]; exact l, fun p n => outL_ok m g1 r1 (q.keep k1) h1 n⟩, x⟩
end
/-! ### items, slices -/
/-- o[i] of a list, a tuple, a text -/
def ix3 : Q2 := fun x y G Q => match x, y with
  | .str z, .int i => z.length ≤ sizeLine ∧ ∃ c, atI z.cps.toList i = some c ∧ Q (.str ⟨#[c]⟩) G
  | x, .int i => ∃ xs d, sq G x = some xs ∧ atI xs i = some d ∧ Q d G
  | _, _ => False
theorem atI_ok {K : K3} {G : Gp} {H : Hp} {xs : List D} {vs : List V} {i : Int} {d : D} (r : DvL K G H xs vs) (h : atI xs i = some d) : ∃ v, atI vs i = some v ∧ Dv K G H d v := by
  unfold atI at h ⊢
  rw [← r.length]
  cases e : ixN xs.length i with
  | none => rw [e] at h; cases h
  | some j =>
    rw [e] at h
    obtain ⟨v, h1, h2⟩ := r.get (show xs[j]? = some d from h)
    exact ⟨v, h1, h2⟩
theorem DvL.cutV {K : K3} {G : Gp} {H : Hp} {xs : List D} {vs : List V} (r : DvL K G H xs vs) (lo hi : Option Int) : DvL K G H ((xs.drop (HT.sIx xs.length 0 lo)).take (HT.sIx xs.length xs.length hi - HT.sIx xs.length 0 lo)) (L2.cutV vs lo hi) := by
  unfold L2.cutV
  rw [← r.length]
  exact (r.drop _).take _
def cutD {α : Type} (xs : List α) (lo hi : Option Int) : List α := (xs.drop (HT.sIx xs.length 0 lo)).take (HT.sIx xs.length xs.length hi - HT.sIx xs.length 0 lo)
section
variable {X : Cx} {Z : Zx} {W : WX} {a b : Expr} {ta tb : TE3} {pos : Pos}
theorem ix_ (ha : PE3 X Z W a ta) (hb : PE3 X Z W b tb) (hs : PlainIx b) : PE3 X Z W (.Subscript a b pos) (t2 ix3 ta tb) := by
  refine PE.imp (pe_ix ix_seq ha hb hs) (two_ fun G H x y v u Q3 Q g rx ry h q => ?_)
  unfold ix3 at h
  split at h
  · cases rx; cases ry
    obtain ⟨l, c, e, h⟩ := h
    exact .inr (.inr ⟨_, _, c, rfl, rfl, l, e, q_of q g h (.str _)⟩)
  · cases ry
    obtain ⟨xs, d, e, e2, h⟩ := h
    obtain ⟨p, vs, ep, s, r⟩ := sq_ok g rx e
    obtain ⟨w, h1, h2⟩ := atI_ok r e2
    rcases s with s | s
    · exact .inl ⟨p, vs, _, w, ep, rfl, s, h1, q_of q g h h2⟩
    · exact .inr (.inl ⟨p, vs, _, w, ep, rfl, s, h1, q_of q g h h2⟩)
  · exact h.elim
/-- parts of a slice -/
abbrev TO3 := St3 → Gp → (Option Int → Gp → Prop) → EK → Prop
def liftO (K : K3) (W : WX) (t : TO3) : TO := fun σ H Q => ∃ σ3 G Q3 E3, GH K G H ∧ Rs K G H σ3 σ ∧ t σ3 G Q3 E3 ∧ (∀ o G' H', Q3 o G' → GH K G' H' → Keep G H G' H' → Q o H') ∧ Xk K G H E3 (fun c d H' => W c d σ H')
def PO3 (X : Cx) (Z : Zx) (W : WX) (e : Option Expr) (t : TO3) : Prop := PO X e (liftO (Cxk X Z) W t)
theorem PO.imp {e : Option Expr} {t u : TO} (h : PO X e t) (k : ∀ σ H Q, u σ H Q → t σ H Q) : PO X e u := by
  cases h with
  | mk run => exact ⟨fun pins s σ H Q I q => run pins s σ H Q I (k _ _ _ q)⟩
def onone : TO3 := fun _ G Q _ => Q none G
def osome (t : TE3) : TO3 := fun σ G Q E => t σ G (fun x G1 => ∃ i, x = .int i ∧ Q (some i) G1) E
theorem on_ : PO3 X Z W none onone := PO.imp po_none fun σ H Q h => by
  obtain ⟨σ3, G, Q3, E3, g, rs, h, q, x⟩ := h
  exact q _ _ _ h g Keep.refl
theorem os_ (h : PE3 X Z W a ta) : PO3 X Z W (some a) (osome ta) := PO.imp (po_some h) fun σ H Q h => by
  obtain ⟨σ3, G, Q3, E3, g, rs, h, q, x⟩ := h
  refine ⟨σ3, G, _, E3, g, rs, h, fun d1 G1 v1 H1 ⟨i, e, h1⟩ g1 r1 k1 => ?_, x⟩
  subst e
  cases r1
  exact ⟨i, rfl, q _ _ _ h1 g1 k1⟩
/-- x[lo:hi] of a tuple, a list -/
def sl3 (m : Bool) (x : D) (lo hi : Option Int) (G : Gp) (Q : QK) : Prop := match x with
  | .tup xs => Q (.tup (cutD xs lo hi)) G
  | .str z => z.length ≤ sizeLine ∧ Q (.str (cutS z lo hi)) G
  | x => ∃ xs, lq G x = some xs ∧ outL m (cutD xs lo hi) G Q
def tsl (m : Bool) (te : TE3) (tl th : TO3) : TE3 := fun σ G Q E => te σ G (fun x G1 => tl σ G1 (fun lo G2 => th σ G2 (fun hi G3 => sl3 m x lo hi G3 Q) E) E) E
theorem cut_whole {α : Type} {xs : List α} {lo hi : Option Int} (h : HT.sIx xs.length 0 lo = 0 ∧ HT.sIx xs.length xs.length hi = xs.length) : cutD xs lo hi = xs := by
  unfold cutD
  rw [h.1, h.2, List.drop_zero, Nat.sub_zero, List.take_length]
theorem sl_ (m : Bool) {lo hi : Option Expr} {tl th : TO3} {p2 : Pos} (ha : PE3 X Z W a ta) (hl : PO3 X Z W lo tl) (hh : PO3 X Z W hi th) : PE3 X Z W (.Subscript a (.Slice lo hi none p2) pos) (tsl m ta tl th) := by
  refine PE.imp (pe_slice (sl_tupA.or (sl_list.or sl_str)) ha hl hh) fun σ H Q h => ?_
  obtain ⟨σ3, G, Q3, E3, g, rs, h, q, x⟩ := h
  refine ⟨σ3, G, _, E3, g, rs, h, fun d1 G1 v1 H1 h1 g1 r1 k1 => ?_, x⟩
  refine ⟨σ3, G1, _, E3, g1, rs.keep g k1, h1, fun lo' G2 H2 h2 g2 k2 => ?_, x.keep k1⟩
  refine ⟨σ3, G2, _, E3, g2, (rs.keep g k1).keep g1 k2, h2, fun hi' G3 H3 h3 g3 k3 => ?_, x.keep (k1.trans k2)⟩
  have r3 := (r1.keep g1 k2).keep g2 k3
  have q3 := q.keep ((k1.trans k2).trans k3)
  clear h1 h2 r1
  unfold sl3 at h3
  split at h3
  · cases r3 with
    | tup s r =>
    rename_i xs a vs
    refine .inl ⟨a, vs, rfl, s, fun hw => ?_, fun hw p n => outT_ok g3 (r.cutV _ _) q3 h3 n⟩
    rw [← r.length] at hw
    rw [cut_whole hw] at h3
    exact q_of q3 g3 h3 (.tup s r)
  · cases r3
    exact .inr (.inr ⟨_, rfl, h3.1, q_of q3 g3 h3.2 (.str _)⟩)
  · obtain ⟨xs, e, h3⟩ := h3
    obtain ⟨p, vs, ep, s, r⟩ := lq_ok g3 r3 e
    exact .inr (.inl ⟨p, vs, ep, s, fun p n => outL_ok m g3 (r.cutV _ _) q3 h3 n⟩)
end
end L3
namespace L3
open PySem PySem.Spec PyProof.Rows L2
open He (ga)
/-! ### promises of defs -/
abbrev Sp3 := List D → Gp → QK → EK → Prop
def liftSp (K : K3) (sp : Sp3) : Sp := fun vs H Q E => ∃ ds G Q3 E3, GH K G H ∧ DvL K G H ds vs ∧ sp ds G Q3 E3 ∧ Qk K G H Q3 Q ∧ Xk K G H E3 E
/-- the module's name x is a def that keeps sp, by at most j levels -/
structure Fn3 (P : Program) (w : World) (K : PySem.W.Frag) (mg : Str → Option Value) (base : Heap) (x : Str) (j : Nat) (sp : Sp3) : Prop where
  ex : ∃ (f : Addr) (fd : FuncData) (ps : List Str), mg x = some (.ref f) ∧ PySem.W.keepIn K (.ref f) = true ∧ Binds K fd ps [] ∧ FnOk P w K mg base (L2.CX P w) j f fd ps (liftSp ⟨K, Z0⟩ sp)
def tcall (sp : Sp3) (ta : TA3) : TE3 := fun σ G Q E => ta σ G (fun ds G1 => sp ds G1 Q E) E
section
variable {X : Cx} {Z : Zx} {W : WX} {e : Expr} {es : List Expr} {ta : TA3} {pos p : Pos} {x : Str}
theorem call_k {sp : Sp3} (σ : St) (H : Hp) (Q : VK) (h : liftE (Cxk X Z0) W (tcall sp ta) σ H Q) : tCallS (liftSp (Cxk X Z0) sp) (WE W) (liftA (Cxk X Z0) W ta) σ H Q := by
  obtain ⟨σ3, G, Q3, E3, g, rs, h, q, x⟩ := h
  exact ⟨σ3, G, _, E3, g, rs, h, fun ds G1 vs H1 h1 g1 r1 k1 => ⟨ds, G1, Q3, E3, g1, r1, h1, q.keep k1, x.keep k1⟩, x⟩
theorem call_ {j k : Nat} {sp : Sp3} (F : Fn3 X.prog X.w X.K X.mg X.base x j sp) (hr : Room k X.A) (hj : j ≤ k) (tk : Takes X W) (ha : PA3 X Z0 W (e :: es) ta) (hg : Gl X x := by rfl) (hdb : (x == ("__debug__" : Str)) = false := by decide)
    (he : starEach (e :: es) X.env = (false, eval e X.env) :: starEach es X.env := by rfl) (hpl : (backTo pos (starEach es X.env)).any (·.1) = false := by rfl) : PE3 X Z0 W (.Call (.Name x p) (e :: es) [] pos) (tcall sp ta) := by
  obtain ⟨f, fd, ps, hm, hk, hb, F⟩ := F.ex
  exact PE.imp (pe_callS F (hr.mono hj) hg hm hk hb (fun σ => passAt tk σ) ha hdb he hpl) call_k
end
/-! ### built-in functions, by values -/
abbrev QL := List D → Gp → QK → Prop
def CallR3 (X : Cx) (Z : Zx) (f : Value) (t : QL) : Prop := ∃ r : List V → Hp → VK → Prop, CallR X f r ∧ ∀ G H xs vs Q3 Q, GH (Cxk X Z) G H → DvL (Cxk X Z) G H xs vs → t xs G Q3 → Qk (Cxk X Z) G H Q3 Q → r vs H Q
def tcb (t : QL) (ta : TA3) : TE3 := fun σ G Q E => ta σ G (fun ds G1 => t ds G1 Q) E
section
variable {X : Cx} {Z : Zx} {W : WX} {e : Expr} {es : List Expr} {ta : TA3} {pos p : Pos} {x : Str} {id T : String} {t : QL}
theorem cb_k {r : List V → Hp → VK → Prop} (k : ∀ G H xs vs Q3 Q, GH (Cxk X Z) G H → DvL (Cxk X Z) G H xs vs → t xs G Q3 → Qk (Cxk X Z) G H Q3 Q → r vs H Q) (σ : St) (H : Hp) (Q : VK) (h : liftE (Cxk X Z) W (tcb t ta) σ H Q) : tCB r (liftA (Cxk X Z) W ta) σ H Q := by
  obtain ⟨σ3, G, Q3, E3, g, rs, h, q, x⟩ := h
  exact ⟨σ3, G, _, E3, g, rs, h, fun ds G1 vs H1 h1 g1 r1 k1 => k G1 H1 ds vs Q3 Q g1 r1 h1 (q.keep k1), x⟩
theorem bf_ (hc : CallR3 X Z (.builtin id) t) (hm : X.mg x = none) (hv : bootBuiltins x = some (.builtin id)) (ha : PA3 X Z W (e :: es) ta) (hg : Gl X x := by rfl) (hn : x ≠ "__name__" := by decide) (hdb : (x == ("__debug__" : Str)) = false := by decide)
    (he : starEach (e :: es) X.env = (false, eval e X.env) :: starEach es X.env := by rfl) (hpl : (backTo pos (starEach es X.env)).any (·.1) = false := by rfl) : PE3 X Z W (.Call (.Name x p) (e :: es) [] pos) (tcb t ta) := by
  obtain ⟨r, h, k⟩ := hc
  exact PE.imp (pe_callB h hg hm hv ha hn hdb he hpl) (cb_k k)
theorem bt_ (hc : CallR3 X Z (.type T) t) (hm : X.mg x = none) (hv : bootBuiltins x = some (.type T)) (ha : PA3 X Z W (e :: es) ta) (hg : Gl X x := by rfl) (hn : x ≠ "__name__" := by decide) (hdb : (x == ("__debug__" : Str)) = false := by decide)
    (he : starEach (e :: es) X.env = (false, eval e X.env) :: starEach es X.env := by rfl) (hpl : (backTo pos (starEach es X.env)).any (·.1) = false := by rfl) : PE3 X Z W (.Call (.Name x p) (e :: es) [] pos) (tcb t ta) := by
  obtain ⟨r, h, k⟩ := hc
  exact PE.imp (pe_callTy h hg hm hv ha hn hdb he hpl) (cb_k k)
end
/-! #### len, abs, int, max, min, sum, list, tuple, str -/
def bLen : QL := fun ds G Q => match ds with
  | [.str z] => z.length ≤ sizeLine ∧ Q (.int z.length) G
  | [x] => ∃ xs, sq G x = some xs ∧ Q (.int xs.length) G
  | _ => False
def bAbs : QL := fun ds G Q => match ds with
  | [.int i] => Q (.int (if i < 0 then -i else i)) G
  | _ => False
def bInt : QL := fun ds G Q => match ds with
  | [.int i] => Q (.int i) G
  | [.bl b] => Q (.int (if b then 1 else 0)) G
  | _ => False
def bMax2 : QL := fun ds G Q => match ds with
  | [.int i, .int j] => Q (.int (if j > i then j else i)) G
  | _ => False
def bMin2 : QL := fun ds G Q => match ds with
  | [.int i, .int j] => Q (.int (if j < i then j else i)) G
  | _ => False
/-- the ints of a list -/
def intsD : List D → Option (List Int)
  | [] => some []
  | .int i :: r => (intsD r).map (i :: ·)
  | _ => none
def bSum : QL := fun ds G Q => match ds with
  | [x] => ∃ xs ns, lq G x = some xs ∧ intsD xs = some ns ∧ Q (.int ns.sum) G
  | _ => False
def bMax1 : QL := fun ds G Q => match ds with
  | [x] => ∃ xs ns, lq G x = some xs ∧ intsD xs = some ns ∧ 0 < ns.length ∧ ∀ m', m' ∈ ns → (∀ y, y ∈ ns → y ≤ m') → Q (.int m') G
  | _ => False
def bMin1 : QL := fun ds G Q => match ds with
  | [x] => ∃ xs ns, lq G x = some xs ∧ intsD xs = some ns ∧ 0 < ns.length ∧ ∀ m', m' ∈ ns → (∀ y, y ∈ ns → m' ≤ y) → Q (.int m') G
  | _ => False
def bList (m : Bool) : QL := fun ds G Q => match ds with
  | [x] => ∃ xs, sq G x = some xs ∧ outL m xs G Q
  | _ => False
def bTup : QL := fun ds G Q => match ds with
  | [x] => ∃ xs, sq G x = some xs ∧ Q (.tup xs) G
  | _ => False
def bStr : QL := fun ds G Q => match ds with
  | [.int i] => i.natAbs.log2 < 1920 ∧ Q (.str (toString i)) G
  | _ => False
section
variable {K : K3} {G : Gp} {H : Hp} {X : Cx} {Z : Zx}
theorem ints_ok : ∀ {xs : List D} {vs : List V} {ns : List Int}, DvL K G H xs vs → intsD xs = some ns → vs = ns.map V.int
  | [], _, _, .nil, h => by cases h; rfl
  | .int i :: r, _, ns, .cons (.int _) t, h => by
    simp only [intsD, Option.map_eq_some_iff] at h
    obtain ⟨m, h1, h2⟩ := h
    subst h2
    rw [ints_ok t h1]; rfl
  | .non :: _, _, _, _, h => by simp [intsD] at h
  | .bl _ :: _, _, _, _, h => by simp [intsD] at h
  | .str _ :: _, _, _, _, h => by simp [intsD] at h
  | .tup _ :: _, _, _, _, h => by simp [intsD] at h
  | .fl _ :: _, _, _, _, h => by simp [intsD] at h
  | .sl _ :: _, _, _, _, h => by simp [intsD] at h
  | .ob _ _ _ :: _, _, _, _, h => by simp [intsD] at h
  | .emp :: _, _, _, _, h => by simp [intsD] at h
  | .ref _ :: _, _, _, _, h => by simp [intsD] at h
  | .ex _ :: _, _, _, _, h => by simp [intsD] at h
  | .exf _ _ _ :: _, _, _, _, h => by simp [intsD] at h
theorem b_len : CallR3 X Z (.builtin "len") bLen := by
  refine ⟨_, call_len_str.or call_len_seq, fun G H xs vs Q3 Q g r h q => ?_⟩
  unfold bLen at h
  split at h
  · cases r with
    | cons r1 r2 =>
    cases r1; cases r2
    exact .inl ⟨_, rfl, h.1, q_of q g h.2 (.int _)⟩
  · cases r with
    | cons r1 r2 =>
    cases r2
    obtain ⟨xs, e, h⟩ := h
    obtain ⟨p, vs, ep, s, r⟩ := sq_ok g r1 e
    exact .inr ⟨p, vs, by rw [ep], s, by rw [← r.length]; exact q_of q g h (.int _)⟩
  · exact h.elim
theorem b_abs : CallR3 X Z (.builtin "abs") bAbs := by
  refine ⟨_, call_abs, fun G H xs vs Q3 Q g r h q => ?_⟩
  unfold bAbs at h
  split at h
  · cases r with
    | cons r1 r2 =>
    cases r1; cases r2
    exact ⟨_, rfl, q_of q g h (.int _)⟩
  · exact h.elim
theorem b_int : CallR3 X Z (.type "int") bInt := by
  refine ⟨_, call_int1, fun G H xs vs Q3 Q g r h q => ?_⟩
  unfold bInt at h
  split at h
  · cases r with
    | cons r1 r2 =>
    cases r1; cases r2
    exact .inl ⟨_, rfl, q_of q g h (.int _)⟩
  · cases r with
    | cons r1 r2 =>
    cases r1; cases r2
    exact .inr ⟨_, rfl, q_of q g h (.int _)⟩
  · exact h.elim
theorem b_max2 (hc : X.calm = true) : CallR3 X Z (.builtin "max") bMax2 := by
  refine ⟨_, call_max2 hc, fun G H xs vs Q3 Q g r h q => ?_⟩
  unfold bMax2 at h
  split at h
  · cases r with
    | cons r1 r2 =>
    cases r1
    cases r2 with
    | cons r2 r3 =>
    cases r2; cases r3
    exact ⟨_, _, rfl, q_of q g h (.int _)⟩
  · exact h.elim
theorem b_min2 (hc : X.calm = true) : CallR3 X Z (.builtin "min") bMin2 := by
  refine ⟨_, call_min2 hc, fun G H xs vs Q3 Q g r h q => ?_⟩
  unfold bMin2 at h
  split at h
  · cases r with
    | cons r1 r2 =>
    cases r1
    cases r2 with
    | cons r2 r3 =>
    cases r2; cases r3
    exact ⟨_, _, rfl, q_of q g h (.int _)⟩
  · exact h.elim
theorem b_sum (hc : X.calm = true) : CallR3 X Z (.builtin "sum") bSum := by
  refine ⟨_, cr_sum hc, fun G H xs vs Q3 Q g r h q => ?_⟩
  unfold bSum at h
  split at h
  · cases r with
    | cons r1 r2 =>
    cases r2
    obtain ⟨xs, ns, e, e2, h⟩ := h
    obtain ⟨p, vs, ep, s, r⟩ := lq_ok g r1 e
    exact ⟨p, ns, by rw [ep], by rw [← ints_ok r e2]; exact s, q_of q g h (.int _)⟩
  · exact h.elim
theorem b_max1 (hc : X.calm = true) : CallR3 X Z (.builtin "max") bMax1 := by
  refine ⟨_, cr_max hc, fun G H xs vs Q3 Q g r h q => ?_⟩
  unfold bMax1 at h
  split at h
  · cases r with
    | cons r1 r2 =>
    cases r2
    obtain ⟨xs, ns, e, e2, l, h⟩ := h
    obtain ⟨p, vs, ep, s, r⟩ := lq_ok g r1 e
    exact ⟨p, ns, by rw [ep], by rw [← ints_ok r e2]; exact s, l, fun m' h1 h2 => q_of q g (h m' h1 h2) (.int _)⟩
  · exact h.elim
theorem b_min1 (hc : X.calm = true) : CallR3 X Z (.builtin "min") bMin1 := by
  refine ⟨_, cr_min hc, fun G H xs vs Q3 Q g r h q => ?_⟩
  unfold bMin1 at h
  split at h
  · cases r with
    | cons r1 r2 =>
    cases r2
    obtain ⟨xs, ns, e, e2, l, h⟩ := h
    obtain ⟨p, vs, ep, s, r⟩ := lq_ok g r1 e
    exact ⟨p, ns, by rw [ep], by rw [← ints_ok r e2]; exact s, l, fun m' h1 h2 => q_of q g (h m' h1 h2) (.int _)⟩
  · exact h.elim
theorem b_list (m : Bool) : CallR3 X Z (.type "list") (bList m) := by
  refine ⟨_, call_list_of, fun G H xs vs Q3 Q g r h q => ?_⟩
  unfold bList at h
  split at h
  · cases r with
    | cons r1 r2 =>
    cases r2
    obtain ⟨xs, e, h⟩ := h
    obtain ⟨p, vs, ep, s, r⟩ := sq_ok g r1 e
    exact ⟨p, vs, by rw [ep], s, fun l n => outL_ok m g r q h n⟩
  · exact h.elim
theorem b_tup : CallR3 X Z (.type "tuple") bTup := by
  refine ⟨_, call_tuple_of, fun G H xs vs Q3 Q g r h q => ?_⟩
  unfold bTup at h
  split at h
  · cases r with
    | cons r1 r2 =>
    cases r2
    obtain ⟨xs, e, h⟩ := h
    obtain ⟨p, vs, ep, s, r⟩ := sq_ok g r1 e
    refine ⟨p, vs, by rw [ep], ?_⟩
    rcases s with s | s
    · exact .inl ⟨s, fun l n => outT_ok g r q h n⟩
    · exact .inr ⟨s, q_of q g h (.tup s r)⟩
  · exact h.elim
theorem b_str : CallR3 X Z (.type "str") bStr := by
  refine ⟨_, call_str_int, fun G H xs vs Q3 Q g r h q => ?_⟩
  unfold bStr at h
  split at h
  · cases r with
    | cons r1 r2 =>
    cases r1; cases r2
    exact ⟨_, rfl, h.1, q_of q g h.2 (.str _)⟩
  · exact h.elim
/-- all, any of a list of flags -/
def blsD : List D → Option (List Bool)
  | [] => some []
  | .bl i :: r => (blsD r).map (i :: ·)
  | _ => none
theorem bls_ok : ∀ {xs : List D} {vs : List V} {ns : List Bool}, DvL K G H xs vs → blsD xs = some ns → vs = ns.map V.bl
  | [], _, _, .nil, h => by cases h; rfl
  | .bl i :: r, _, ns, .cons (.bl _) t, h => by
    simp only [blsD, Option.map_eq_some_iff] at h
    obtain ⟨m, h1, h2⟩ := h
    subst h2
    rw [bls_ok t h1]; rfl
  | .non :: _, _, _, _, h => by simp [blsD] at h
  | .int _ :: _, _, _, _, h => by simp [blsD] at h
  | .str _ :: _, _, _, _, h => by simp [blsD] at h
  | .tup _ :: _, _, _, _, h => by simp [blsD] at h
  | .fl _ :: _, _, _, _, h => by simp [blsD] at h
  | .sl _ :: _, _, _, _, h => by simp [blsD] at h
  | .ob _ _ _ :: _, _, _, _, h => by simp [blsD] at h
  | .emp :: _, _, _, _, h => by simp [blsD] at h
  | .ref _ :: _, _, _, _, h => by simp [blsD] at h
  | .ex _ :: _, _, _, _, h => by simp [blsD] at h
  | .exf _ _ _ :: _, _, _, _, h => by simp [blsD] at h
def bAll : QL := fun ds G Q => match ds with
  | [x] => ∃ xs bs, lq G x = some xs ∧ blsD xs = some bs ∧ Q (.bl (bs.all id)) G
  | _ => False
def bAny : QL := fun ds G Q => match ds with
  | [x] => ∃ xs bs, lq G x = some xs ∧ blsD xs = some bs ∧ Q (.bl (bs.any id)) G
  | _ => False
theorem b_all (hc : X.calm = true) : CallR3 X Z (.builtin "all") bAll := by
  refine ⟨_, cr_all hc, fun G H xs vs Q3 Q g r h q => ?_⟩
  unfold bAll at h
  split at h
  · cases r with
    | cons r1 r2 =>
    cases r2
    obtain ⟨xs, ns, e, e2, h⟩ := h
    obtain ⟨p, vs, ep, s, r⟩ := lq_ok g r1 e
    exact ⟨p, ns, by rw [ep], by rw [← bls_ok r e2]; exact s, q_of q g h (.bl _)⟩
  · exact h.elim
theorem b_any (hc : X.calm = true) : CallR3 X Z (.builtin "any") bAny := by
  refine ⟨_, cr_any hc, fun G H xs vs Q3 Q g r h q => ?_⟩
  unfold bAny at h
  split at h
  · cases r with
    | cons r1 r2 =>
    cases r2
    obtain ⟨xs, ns, e, e2, h⟩ := h
    obtain ⟨p, vs, ep, s, r⟩ := lq_ok g r1 e
    exact ⟨p, ns, by rw [ep], by rw [← bls_ok r e2]; exact s, q_of q g h (.bl _)⟩
  · exact h.elim
end
/-! ### statements -/
def snext : TS3 := fun D σ G => D.nx σ G
def sseq (t u : TS3) : TS3 := fun D σ G => t { D with nx := u D } σ G
def sbrk : TS3 := fun D σ G => D.bk σ G
def sct : TS3 := fun D σ G => D.ct σ G
def sdrop (te : TE3) : TS3 := fun D σ G => te σ G (fun _ G1 => D.nx σ G1) (fun x G1 => D.ex x σ G1)
def sset (i : Nat) (te : TE3) : TS3 := fun D σ G => te σ G (fun d G1 => D.nx (σ.set i (some d)) G1) (fun x G1 => D.ex x σ G1)
def sret (te : TE3) : TS3 := fun D σ G => te σ G D.rt (fun x G1 => D.ex x σ G1)
def sretN : TS3 := fun D _ G => D.rt .non G
def sif (tc : TT3) (t u : TS3) : TS3 := fun D σ G => tc σ G (fun b G1 => if b = true then t D σ G1 else u D σ G1) (fun x G1 => D.ex x σ G1)
def iadd3 : Q2 := fun x y G Q => match x, y with
  | .int i, .int j => Q (.int (i + j)) G
  | .str i, .str j => i.length + j.length ≤ sizeLine ∧ Q (.str (i ++ j)) G
  | _, _ => False
def saug (i : Nat) (te : TE3) (t : Q2) : TS3 := fun D σ G => ∃ x, gt σ i = some x ∧ te σ G (fun y G1 => t x y G1 fun z G2 => D.nx (σ.set i (some z)) G2) (fun x G1 => D.ex x σ G1)
section
variable {X : Cx} {Z : Zx} {W : WX} {st : Stmt} {rest : List Stmt} {t u : TS3} {e c : Expr} {te : TE3} {tc : TT3} {pos : Pos}
theorem Dk.exk {K : K3} {G : Gp} {H : Hp} {D3 : Ends3} {D : Ends} {σ3 : St3} {σ : St} (d : Dk K G H W D3 D) (g : GH K G H) (rs : Rs K G H σ3 σ) : Xk K G H (fun x G1 => D3.ex x σ3 G1) (fun c dd H' => W c dd σ H') := fun x G' c dd H' h1 g1 xv k => d.ex x σ3 G' c dd σ H' h1 g1 (rs.keep g k) xv k
theorem snil_ : PSs3 X Z W [] snext := PSs.imp pss_nil fun D σ H h => by
  obtain ⟨σ3, G, D3, g, rs, h, d⟩ := h
  exact d.nx _ _ _ _ h g rs Keep.refl
theorem scons_ (h1 : PS3 X Z W st t) (h2 : PSs3 X Z W rest u) : PSs3 X Z W (st :: rest) (sseq t u) := PSs.imp (pss_cons h1 h2) fun D σ H h => by
  obtain ⟨σ3, G, D3, g, rs, h, d⟩ := h
  exact ⟨σ3, G, _, g, rs, h, ⟨fun σ4 G1 τ H1 h1 g1 r1 k1 => ⟨σ4, G1, D3, g1, r1, h1, d.keep k1⟩, d.rt, d.bk, d.ct, d.ex⟩⟩
theorem sone_ (h1 : PS3 X Z W st t) : PSs3 X Z W [st] t := pss_one h1
theorem pass_ : PS3 X Z W (.Pass pos) snext := PS.imp ps_pass fun D σ H h => by
  obtain ⟨σ3, G, D3, g, rs, h, d⟩ := h
  exact d.nx _ _ _ _ h g rs Keep.refl
theorem brk_ : PS3 X Z W (.Break pos) sbrk := PS.imp ps_break fun D σ H h => by
  obtain ⟨σ3, G, D3, g, rs, h, d⟩ := h
  exact d.bk _ _ _ _ h g rs Keep.refl
theorem cont_ : PS3 X Z W (.Continue pos) sct := PS.imp ps_continue fun D σ H h => by
  obtain ⟨σ3, G, D3, g, rs, h, d⟩ := h
  exact d.ct _ _ _ _ h g rs Keep.refl
theorem expr_ (he : PE3 X Z W e te) (hs : swapsWith e none pos.line X.env = pure false := by rfl) : PS3 X Z W (.Expr e pos) (sdrop te) := PS.imp (ps_expr he hs) fun D σ H h => by
  obtain ⟨σ3, G, D3, g, rs, h, d⟩ := h
  exact ⟨σ3, G, _, _, g, rs, h, fun x G1 v H1 h1 g1 r1 k1 => d.nx _ _ _ _ h1 g1 (rs.keep g k1) k1, d.exk g rs⟩
theorem set_ (i : Nat) {x : Str} {pos' : Pos} (he : PE3 X Z W e te) (hN : X.N.Nodup) (hi : X.N[i]? = some x := by rfl) (hx : Loc X.env.scope x := by first | exact Or.inl rfl | exact Or.inr rfl) (hs : swapsWith e (some (.Name x pos')) pos.line X.env = pure false := by rfl)
    (hf : X.fn x = true ∨ X.env.scope.names.lookup x = some .local := by first | exact .inl rfl | exact .inr rfl | assumption) : PS3 X Z W (.Assign [.Name x pos'] e pos) (sset i te) := PS.imp (ps_set (i := i) hN hi hx he hs hf) fun D σ H h => by
  obtain ⟨σ3, G, D3, g, rs, h, d⟩ := h
  exact ⟨σ3, G, _, _, g, rs, h, fun x G1 v H1 h1 g1 r1 k1 => d.nx _ _ _ _ h1 g1 ((rs.keep g k1).set r1 i) k1, d.exk g rs⟩
theorem ret_ (he : PE3 X Z W e te) : PS3 X Z W (.Return (some e) pos) (sret te) := PS.imp (ps_ret he) fun D σ H h => by
  obtain ⟨σ3, G, D3, g, rs, h, d⟩ := h
  exact ⟨σ3, G, _, _, g, rs, h, d.rt, d.exk g rs⟩
theorem retN_ : PS3 X Z W (.Return none pos) sretN := PS.imp ps_retN fun D σ H h => by
  obtain ⟨σ3, G, D3, g, rs, h, d⟩ := h
  exact d.rt _ _ _ _ h g .non Keep.refl
theorem sif_ {a b : List Stmt} (hc : PT3 X Z W c tc) (ha : PSs3 X Z W a t) (hb : PSs3 X Z W b u) : PS3 X Z W (.If c a b pos) (sif tc t u) := PS.imp (ps_if hc ha hb) fun D σ H h => by
  obtain ⟨σ3, G, D3, g, rs, h, d⟩ := h
  refine ⟨σ3, G, _, _, g, rs, h, fun b G1 H1 h1 g1 k1 => ?_, d.exk g rs⟩
  cases b with
  | true => exact ⟨σ3, G1, D3, g1, rs.keep g k1, h1, d.keep k1⟩
  | false => exact ⟨σ3, G1, D3, g1, rs.keep g k1, h1, d.keep k1⟩
/-- name op= e -/
def IpR3 (X : Cx) (Z : Zx) (op : Operator) (t : Q2) : Prop := ∃ r : TIp, PIp X op r ∧ ∀ G H x y v u Q3 Q, GH (Cxk X Z) G H → Dv (Cxk X Z) G H x v → Dv (Cxk X Z) G H y u → t x y G Q3 → Qk (Cxk X Z) G H Q3 Q → r v u H Q
theorem i_of {op : Operator} {t : Q2} (h : OpR3 X Z (inplaceOp op) t) : IpR3 X Z op t := by
  obtain ⟨r, h, k⟩ := h
  exact ⟨r, fun pins s σ H x y v u Q I rx ry q => h pins s σ H x y v u Q I rx ry q, k⟩
theorem aug_ (i : Nat) {x : Str} {op : Operator} {q : Q2} {pos' : Pos} (ho : IpR3 X Z op q) (he : PE3 X Z W e te) (hN : X.N.Nodup) (hi : X.N[i]? = some x := by rfl) (hx : Loc X.env.scope x := by first | exact Or.inl rfl | exact Or.inr rfl)
    (hf : X.fn x = true ∨ X.env.scope.names.lookup x = some .local := by first | exact .inl rfl | exact .inr rfl | assumption) : PS3 X Z W (.AugAssign (.Name x pos') op e pos) (saug i te q) := by
  obtain ⟨r, ho, k⟩ := ho
  refine PS.imp (ps_aug (i := i) hN hi hx he ho hf) fun D σ H h => ?_
  obtain ⟨σ3, G, D3, g, rs, h, d⟩ := h
  obtain ⟨x, e, h⟩ := h
  obtain ⟨v, e1, rv⟩ := rs.2 i x (gt_eq _ _ e)
  refine ⟨v, e1, σ3, G, _, _, g, rs, h, fun y G1 u H1 h1 g1 r1 k1 => ?_, d.exk g rs⟩
  exact k G1 H1 x y v u _ _ g1 (rv.keep g k1) r1 h1 fun z G2 w H2 h2 g2 r2 k2 => d.nx _ _ _ _ h2 g2 (((rs.keep g k1).keep g1 k2).set r2 i) (k1.trans k2)
theorem iadd_ : OpR3 X Z (inplaceOp .Add) iadd3 := by
  refine ⟨_, iop_add.or iop_add_str, fun G H x y v u Q3 Q g rx ry h q => ?_⟩
  unfold iadd3 at h
  split at h
  · cases rx; cases ry
    exact .inl ⟨_, _, rfl, rfl, q_of q g h (.int _)⟩
  · cases rx; cases ry
    exact .inr ⟨_, _, rfl, rfl, h.1, q_of q g h.2 (.str _)⟩
  · exact h.elim
theorem isub_ : OpR3 X Z (inplaceOp .Sub) sub3 := by
  refine ⟨_, iop_sub, fun G H x y v u Q3 Q g rx ry h q => ?_⟩
  unfold sub3 at h
  split at h
  · cases rx; cases ry
    exact ⟨_, _, rfl, rfl, q_of q g h (.int _)⟩
  · exact h.elim
theorem ifdiv_ : OpR3 X Z (inplaceOp .FloorDiv) fdiv3 := by
  refine ⟨_, iop_fdiv, fun G H x y v u Q3 Q g rx ry h q => ?_⟩
  unfold fdiv3 at h
  split at h
  · cases rx; cases ry
    exact ⟨_, _, rfl, rfl, ⟨h.1, h.2.1⟩, q_of q g h.2.2 (.int _)⟩
  · exact h.elim
end
/-! ### while -/
def whN (tc : TT3) (tb : TS3) (D : Ends3) : Nat → St3 → Gp → Prop
  | 0, _, _ => False
  | n + 1, σ, G => tc σ G (fun b G1 => if b = true then tb { D with nx := whN tc tb D n, ct := whN tc tb D n, bk := D.nx } σ G1 else D.nx σ G1) (fun x G1 => D.ex x σ G1)
def swhile (tc : TT3) (tb : TS3) : TS3 := fun D σ G => ∃ n, whN tc tb D n σ G
section
variable {X : Cx} {Z : Zx} {W : WX} {c : Expr} {body : List Stmt} {tb : TS3} {tc : TT3} {pos : Pos}
theorem while_ (hp : PassesOwn (model X.prog X.w) X.A X.env X.xe) (hc : PT3 X Z W c tc) (hb : PSs3 X Z W body tb) : PS3 X Z W (.While c body [] pos) (swhile tc tb) := PS.imp (ps_while hp hc hb) fun D σ H h => by
  obtain ⟨σ3, G, D3, g, rs, ⟨n, h⟩, d⟩ := h
  refine ⟨fun m σ' H' => ∃ σ4 G', GH (Cxk X Z) G' H' ∧ Rs (Cxk X Z) G' H' σ4 σ' ∧ Keep G H G' H' ∧ whN tc tb D3 m σ4 G', ⟨n, σ3, G, g, rs, Keep.refl, h⟩, ?_⟩
  rintro m σ' H' ⟨σ4, G', g', rs', k', h'⟩
  cases m with
  | zero => exact h'.elim
  | succ m =>
    refine ⟨σ4, G', _, _, g', rs', h', fun b G1 H1 h1 g1 k1 => ?_, (d.keep k').exk g' rs'⟩
    cases b with
    | true =>
      rw [if_pos rfl] at h1 ⊢
      refine ⟨fun σ5 H2 => ∃ σ6 G2, GH (Cxk X Z) G2 H2 ∧ Rs (Cxk X Z) G2 H2 σ6 σ5 ∧ Keep G H G2 H2 ∧ whN tc tb D3 m σ6 G2, fun σ5 H2 ⟨σ6, G2, a1, a2, a3, a4⟩ => ⟨m, Nat.lt_succ_self m, σ6, G2, a1, a2, a3, a4⟩, ?_⟩
      have d1 := d.keep (k'.trans k1)
      exact ⟨σ4, G1, _, g1, rs'.keep g' k1, h1, ⟨fun σ6 G2 σ5 H2 h2 g2 r2 k2 => ⟨σ6, G2, g2, r2, (k'.trans k1).trans k2, h2⟩, d1.rt, d1.nx, fun σ6 G2 σ5 H2 h2 g2 r2 k2 => ⟨σ6, G2, g2, r2, (k'.trans k1).trans k2, h2⟩, d1.ex⟩⟩
    | false =>
      rw [if_neg Bool.false_ne_true] at h1 ⊢
      exact d.nx _ _ _ _ h1 g1 (rs'.keep g' k1) (k'.trans k1)
end
end L3
namespace L3
open PySem PySem.Spec PyProof.Rows L2
open He (ga)
/-! ### targets: a name, a tuple of names -/
inductive Tg where
  | n (i : Nat) | t (is : List Nat)
def gNames : List Nat → TGs
  | [] => gNil
  | i :: is => gCons (gName i) (gNames is)
def Tg.g (K : PySem.W.Frag) : Tg → TG
  | .n i => gName i
  | .t is => gTup K is.length (gNames is)
def setD : List Nat → List D → St3 → St3
  | i :: is, d :: ds, σ => setD is ds (σ.set i (some d))
  | _, _, σ => σ
def setV : List Nat → List V → St → St
  | i :: is, d :: ds, σ => setV is ds (σ.set i (some d))
  | _, _, σ => σ
/-- the slots behind the binding -/
def Tg.b : Tg → D → St3 → (St3 → Prop) → Prop
  | .n i, d, σ, Q => Q (σ.set i (some d))
  | .t is, d, σ, Q => ∃ ds, d = .tup ds ∧ ds.length = is.length ∧ Q (setD is ds σ)
def Tg.is : Tg → List Nat
  | .n i => [i]
  | .t is => is
section
variable {K : K3} {G : Gp} {H : Hp}
theorem gNames_ok : ∀ {is : List Nat} {vs : List V} {σ : St} {H : Hp} {Q : St → Hp → Prop}, vs.length = is.length → Q (setV is vs σ) H → gNames is vs σ H Q
  | [], [], _, _, _, _, h => ⟨rfl, h⟩
  | [], _ :: _, _, _, _, l, _ => by cases l
  | _ :: _, [], _, _, _, l, _ => by cases l
  | i :: is, v :: vs, σ, H, Q, l, h => ⟨v, vs, rfl, gNames_ok (by simpa using l) h⟩
theorem setD_rs : ∀ {is : List Nat} {ds : List D} {vs : List V} {σ3 : St3} {σ : St}, DvL K G H ds vs → Rs K G H σ3 σ → Rs K G H (setD is ds σ3) (setV is vs σ)
  | [], _, _, _, _, _, r => by simpa [setD, setV] using r
  | i :: is, [], [], _, _, .nil, r => by simpa [setD, setV] using r
  | i :: is, d :: ds, v :: vs, σ3, σ, .cons q t, r => setD_rs (is := is) t (r.set q i)
/-- slots apart from some are as they were -/
def SameBut (is : List Nat) (σ σ' : St) : Prop := σ'.length = σ.length ∧ ∀ (j : Nat), j ∉ is → σ'[j]? = σ[j]?
theorem setV_same : ∀ (is : List Nat) (vs : List V) (σ : St), SameBut is σ (setV is vs σ)
  | [], _, σ => by simp [setV, SameBut]
  | i :: is, [], σ => by simp [setV, SameBut]
  | i :: is, v :: vs, σ => by
    obtain ⟨h1, h2⟩ := setV_same is vs (σ.set i (some v))
    refine ⟨by rw [setV, h1]; simp, fun j hj => ?_⟩
    simp only [List.mem_cons, not_or] at hj
    rw [setV, h2 j hj.2, List.getElem?_set_ne (Ne.symm hj.1)]
theorem Tg.run {t : Tg} {d : D} {v : V} {σ3 : St3} {σ : St} {Q3 : St3 → Prop} {Q : St → Hp → Prop} (rs : Rs K G H σ3 σ) (r : Dv K G H d v) (h : t.b d σ3 Q3) (k : ∀ σ4 σ', Q3 σ4 → Rs K G H σ4 σ' → SameBut t.is σ σ' → Q σ' H) : t.g K.f v σ H Q := by
  cases t with
  | n i =>
    refine k _ _ h (rs.set r i) ⟨by simp, fun j hj => ?_⟩
    have : j ≠ i := by simpa [Tg.is] using hj
    rw [List.getElem?_set_ne (Ne.symm this)]
  | t is =>
    obtain ⟨ds, e, l, h⟩ := h
    subst e
    cases r with
    | tup s r =>
    rename_i a vs
    have lv : vs.length = is.length := by rw [← r.length]; exact l
    exact ⟨a, vs, rfl, s, lv, gNames_ok lv (k _ _ h (setD_rs r rs) (setV_same is vs σ))⟩
end
/-! ### what is walked -/
abbrev TI3 := St3 → Gp → (List D → (Gp → Prop) → Gp → Prop) → EK → Prop
structure ItR (K : K3) (G0 : Gp) (H0 : Hp) (J : It) (xs : List D) (gd : Gp → Prop) : Prop where
  stop : ∀ G H, Keep G0 H0 G H → GH K G H → gd G → J.stop xs.length H
  go : ∀ (i : Nat) G H, i < xs.length → Keep G0 H0 G H → GH K G H → gd G → J.go i H
  yld : ∀ (i : Nat) d v G H H', xs[i]? = some d → Keep G0 H0 G H → GH K G H → gd G → J.yld i H v H' → GH K G H' ∧ Keep G H G H' ∧ Dv K G H' d v
def liftI (K : K3) (W : WX) (t : TI3) : TI := fun σ H R => ∃ σ3 G R3 E3, GH K G H ∧ Rs K G H σ3 σ ∧ t σ3 G R3 E3 ∧ (∀ xs gd G' J H', R3 xs gd G' → GH K G' H' → Keep G H G' H' → ItR K G' H' J xs gd → R J H') ∧ Xk K G H E3 (fun c d H' => W c d σ H')
def PI3 (X : Cx) (Z : Zx) (W : WX) (tg iter : Expr) (t : TI3) : Prop := PI X tg iter (liftI (Cxk X Z) W t)
theorem PI.imp {X : Cx} {tg e : Expr} {t u : TI} (h : PI X tg e t) (k : ∀ σ H Q, u σ H Q → t σ H Q) : PI X tg e u := ⟨fun pins s σ H Q I q => h.run pins s σ H Q I (k _ _ _ q)⟩
section
variable {X : Cx} {Z : Zx} {tg : Expr}
/-- a list or tuple -/
def iSeqV (K : PySem.W.Frag) (tl : TE) : TI := fun σ H R => tl σ H fun x H1 => ∃ a, x = .ref a ∧ (((∃ xs, SqL K H1 a xs) ∧ R (Itl K a) H1) ∨ ((∃ xs, SqT K H1 a xs) ∧ R (Itt K a) H1))
theorem pi_seqV {l : Expr} {tl : TE} (hl : PE X l tl) : PI X tg l (iSeqV X.K tl) := by
  refine ⟨fun pins s σ H R I h => ?_⟩
  refine thn (hl.run pins s σ H _ I h) fun v s1 ⟨x, H1, I1, r1, q1⟩ => ?_
  obtain ⟨a, e, q⟩ := q1
  subst e
  cases r1
  have nf : ∀ b ∈ [s1.heap.objs.size], FpOk X pins H1 b := fun b hb => by
    have e : b = s1.heap.objs.size := by simpa using hb
    subst e
    exact I1.fpOk (Nat.le_refl _) (I1.hok.fresh (Nat.le_refl _))
  rcases q with ⟨⟨xs, hq⟩, q⟩ | ⟨⟨xs, hq⟩, q⟩
  · obtain ⟨its, rv, p, hz⟩ := I1.list hq
    refine wpAny_pyIter_list p.isList ?_
    exact ⟨s1.heap.objs.size, [s1.heap.objs.size], _, _, H1, rfl, I1.kept (t' := s1.toks) fun b o e => Heap.get?_push_of_some _ e, turn_list a _, ⟨_, Heap.get?_push_size _ rfl, rfl, rfl⟩, nf, q⟩
  · obtain ⟨its, rv, p, hz⟩ := I1.tuple hq
    refine wpAny_pyIter_tuple (show s1.heap.IsTuple a its.toArray from p) ?_
    exact ⟨s1.heap.objs.size, [s1.heap.objs.size], _, _, H1, rfl, I1.kept (t' := s1.toks) fun b o e => Heap.get?_push_of_some _ e, turn_tuple a _, ⟨_, Heap.get?_push_size _ rfl, rfl, rfl⟩, nf, q⟩
end
/-- what must hold at each turn so that the items stay -/
def gdOf (d : D) (xs : List D) : Gp → Prop := match d with
  | .ref p => fun G => G p = some (.lst xs)
  | _ => fun _ => True
def iseq (te : TE3) : TI3 := fun σ G R E => te σ G (fun d G1 => ∃ xs, sq G1 d = some xs ∧ R xs (gdOf d xs) G1) E
def irng1 (ta : TA3) : TI3 := fun σ G R E => ta σ G (fun ds G1 => ∃ j : Int, ds = [.int j] ∧ -(2 ^ 62) ≤ j ∧ j < 2 ^ 62 ∧ R ((List.range j.toNat).map fun (i : Nat) => D.int i) (fun _ => True) G1) E
def irng2 (ta : TA3) : TI3 := fun σ G R E => ta σ G (fun ds G1 => ∃ i j : Int, ds = [.int i, .int j] ∧ (-(2 ^ 62) ≤ i ∧ i < 2 ^ 62 ∧ -(2 ^ 62) ≤ j ∧ j < 2 ^ 62) ∧ R ((List.range (j - i).toNat).map fun (k : Nat) => D.int (i + k)) (fun _ => True) G1) E
section
variable {K : K3} {G : Gp} {H : Hp}
theorem itr_list {d : D} {a : Addr} {xs : List D} (g : GH K G H) (r : Dv K G H d (.ref a)) (e : lq G d = some xs) : ItR K G H (Itl K.f a) xs (gdOf d xs) := by
  have key : ∀ G1 H1, Keep G H G1 H1 → GH K G1 H1 → gdOf d xs G1 → ∃ ws, SqL K.f H1 a ws ∧ DvL K G1 H1 xs ws := fun G1 H1 k g1 gd => by
    have r1 := r.keep g k
    have e1 : lq G1 d = some xs := by
      cases d with
      | ref p => unfold lq; simp only; rw [show G1 p = some (.lst xs) from gd]
      | _ => exact e
    obtain ⟨b, ws, eb, s, rl⟩ := lq_ok g1 r1 e1
    cases eb
    exact ⟨ws, s, rl⟩
  refine ⟨fun G1 H1 k g1 gd => ?_, fun i G1 H1 hi k g1 gd => ?_, fun i x v G1 H1 H2 hi k g1 gd y => ?_⟩
  · obtain ⟨ws, s, rl⟩ := key G1 H1 k g1 gd
    exact ⟨ws, s, by rw [rl.length]; exact Nat.le_refl _⟩
  · obtain ⟨ws, s, rl⟩ := key G1 H1 k g1 gd
    have : i < ws.length := by rw [← rl.length]; exact hi
    exact ⟨ws, ws[i], s, by simp [this]⟩
  · obtain ⟨ws, s, rl⟩ := key G1 H1 k g1 gd
    obtain ⟨eH, y⟩ := y
    subst eH
    obtain ⟨w, h1, h2⟩ := rl.get hi
    rw [y ws s] at h1
    cases h1
    exact ⟨g1, Keep.refl, h2⟩
theorem itr_tup {a : Addr} {xs : List D} (g : GH K G H) (r : Dv K G H (.tup xs) (.ref a)) : ItR K G H (Itt K.f a) xs (fun _ => True) := by
  have key : ∀ G1 H1, Keep G H G1 H1 → ∃ ws, SqT K.f H1 a ws ∧ DvL K G1 H1 xs ws := fun G1 H1 k => by
    have r1 := r.keep g k
    cases r1 with
    | tup s rl => exact ⟨_, s, rl⟩
  refine ⟨fun G1 H1 k g1 gd => ?_, fun i G1 H1 hi k g1 gd => ?_, fun i x v G1 H1 H2 hi k g1 gd y => ?_⟩
  · obtain ⟨ws, s, rl⟩ := key G1 H1 k
    exact ⟨ws, s, by rw [rl.length]; exact Nat.le_refl _⟩
  · obtain ⟨ws, s, rl⟩ := key G1 H1 k
    have : i < ws.length := by rw [← rl.length]; exact hi
    exact ⟨ws, ws[i], s, by simp [this]⟩
  · obtain ⟨ws, s, rl⟩ := key G1 H1 k
    obtain ⟨eH, y⟩ := y
    subst eH
    obtain ⟨w, h1, h2⟩ := rl.get hi
    rw [y ws s] at h1
    cases h1
    exact ⟨g1, Keep.refl, h2⟩
theorem itr_range {lo : Int} {n : Nat} : ItR K G H (Itr lo n) ((List.range n).map fun (k : Nat) => D.int (lo + k)) (fun _ => True) := by
  refine ⟨fun G1 H1 k g1 gd => ?_, fun i G1 H1 hi k g1 gd => ?_, fun i x v G1 H1 H2 hi k g1 gd y => ?_⟩
  · show n ≤ _
    simp
  · show i < n
    simpa using hi
  · obtain ⟨eH, y⟩ := y
    subst eH
    subst y
    rw [List.getElem?_map] at hi
    cases e : (List.range n)[i]? with
    | none => rw [e] at hi; cases hi
    | some j =>
      rw [e] at hi
      have : j = i := by
        obtain ⟨h1, h2⟩ := List.getElem?_eq_some_iff.mp e
        simpa using h2.symm
      subst this
      cases hi
      exact ⟨g1, Keep.refl, .int _⟩
end
section
variable {X : Cx} {Z : Zx} {W : WX} {e a b : Expr} {es : List Expr} {te : TE3} {ta : TA3} {tg : Expr} {p pos : Pos}
theorem lq_of {G : Gp} {d : D} {xs : List D} (h : sq G d = some xs) (n : ∀ ys, d ≠ .tup ys) : lq G d = some xs := by
  cases d with
  | tup ys => exact absurd rfl (n ys)
  | _ => exact h
theorem iseq_ (h : PE3 X Z W e te) : PI3 X Z W tg e (iseq te) := PI.imp (pi_seqV h) fun σ H R h => by
  obtain ⟨σ3, G, R3, E3, g, rs, h, q, x⟩ := h
  refine ⟨σ3, G, _, E3, g, rs, h, fun d G1 v H1 ⟨xs, e, h1⟩ g1 r1 k1 => ?_, x⟩
  by_cases ht : ∃ ys, d = .tup ys
  · obtain ⟨ys, rfl⟩ := ht
    cases e
    have r0 := r1
    cases r1 with
    | tup s rl => exact ⟨_, rfl, .inr ⟨⟨_, s⟩, q _ _ _ _ _ h1 g1 k1 (itr_tup g1 r0)⟩⟩
  · have e' := lq_of e fun ys z => ht ⟨ys, z⟩
    obtain ⟨a, vs, ea, s, rl⟩ := lq_ok g1 r1 e'
    subst ea
    exact ⟨_, rfl, .inl ⟨⟨_, s⟩, q _ _ _ _ _ h1 g1 k1 (itr_list g1 r1 e')⟩⟩
theorem irng1_ (hm : X.mg "range" = none) (ha : PA3 X Z W [a] ta) (hg : Gl X "range" := by rfl) (hs : starEach [a] X.env = [(false, eval a X.env)] := by rfl) : PI3 X Z W tg (.Call (.Name "range" p) [a] [] pos) (irng1 ta) :=
  PI.imp (pi_range1 hg hm ha hs) fun σ H R h => by
  obtain ⟨σ3, G, R3, E3, g, rs, h, q, x⟩ := h
  refine ⟨σ3, G, _, E3, g, rs, h, fun d G1 v H1 ⟨j, e, l1, l2, h1⟩ g1 r1 k1 => ?_, x⟩
  subst e
  cases r1 with
  | cons r1 r2 =>
  cases r1; cases r2
  have z := itr_range (K := Cxk X Z) (G := G1) (H := H1) (lo := 0) (n := j.toNat)
  simp only [Int.zero_add] at z
  exact ⟨j, rfl, l1, l2, q _ _ _ _ _ h1 g1 k1 z⟩
theorem irng2_ (hm : X.mg "range" = none) (ha : PA3 X Z W [a, b] ta) (hg : Gl X "range" := by rfl) (hs : starEach [a, b] X.env = [(false, eval a X.env), (false, eval b X.env)] := by rfl) (hs2 : starEach [b] X.env = [(false, eval b X.env)] := by rfl) :
    PI3 X Z W tg (.Call (.Name "range" p) [a, b] [] pos) (irng2 ta) :=
  PI.imp (pi_range2 hg hm ha hs hs2) fun σ H R h => by
  obtain ⟨σ3, G, R3, E3, g, rs, h, q, x⟩ := h
  refine ⟨σ3, G, _, E3, g, rs, h, fun d G1 v H1 ⟨i, j, e, l, h1⟩ g1 r1 k1 => ?_, x⟩
  subst e
  cases r1 with
  | cons r1 r2 =>
  cases r1
  cases r2 with
  | cons r2 r3 =>
  cases r2; cases r3
  exact ⟨i, j, rfl, l, q _ _ _ _ _ h1 g1 k1 itr_range⟩
end
/-! ### for -/
def forL (t : Tg) (tb : TS3) (E : Ends3) (gd : Gp → Prop) : List D → St3 → Gp → Prop
  | [], σ, G => gd G ∧ E.nx σ G
  | x :: xs, σ, G => gd G ∧ t.b x σ fun σ' => tb { E with nx := forL t tb E gd xs, ct := forL t tb E gd xs, bk := E.nx } σ' G
def sfor (ti : TI3) (t : Tg) (tb : TS3) : TS3 := fun E σ G => ti σ G (fun xs gd G1 => forL t tb E gd xs σ G1) (fun x G1 => E.ex x σ G1)
section
variable {X : Cx} {Z : Zx} {W : WX} {tg iter : Expr} {body : List Stmt} {ti : TI3} {t : Tg} {tb : TS3} {pos : Pos}
theorem for_ (t : Tg) (hp : PassesOwn (model X.prog X.w) X.A X.env X.xe) (hc : X.calm = true) (hi : PI3 X Z W tg iter ti) (hg : PG X tg (t.g X.K)) (hb : PSs3 X Z W body tb)
    (hs : ∀ x, foldedSetIterable iter X.env x = pure x := by intro _; rfl) : PS3 X Z W (.For tg iter body [] pos) (sfor ti t tb) := PS.imp (ps_for hp hc hi hg hb hs) fun D σ H h => by
  obtain ⟨σ3, G, D3, g, rs, h, d⟩ := h
  refine ⟨σ3, G, _, _, g, rs, h, fun xs gd G0 J H0 h0 g0 k0 it => ?_, d.exk g rs⟩
  refine ⟨fun i m σ' H' => m = xs.length - i ∧ i ≤ xs.length ∧ ∃ σ4 G', GH (Cxk X Z) G' H' ∧ Rs (Cxk X Z) G' H' σ4 σ' ∧ Keep G0 H0 G' H' ∧ forL t tb D3 gd (xs.drop i) σ4 G', ⟨xs.length, by simp, Nat.zero_le _, σ3, G0, g0, rs.keep g k0, Keep.refl, by simpa using h0⟩, ?_⟩
  rintro i m σ' H' ⟨rfl, hi', σ4, G', g', rs', k', h'⟩
  by_cases hlt : i < xs.length
  · obtain ⟨x, e⟩ : ∃ x, xs[i]? = some x := ⟨xs[i], by simp [hlt]⟩
    have ed : xs.drop i = x :: xs.drop (i + 1) := by
      rw [List.drop_eq_getElem_cons hlt]
      have : xs[i] = x := by rw [List.getElem?_eq_getElem hlt] at e; exact Option.some.inj e
      rw [this]
    rw [ed] at h'
    obtain ⟨hgd, h'⟩ := h'
    refine .inr ⟨it.go i G' H' hlt k' g' hgd, fun σ5 H2 => ∃ σ6 G2, GH (Cxk X Z) G2 H2 ∧ Rs (Cxk X Z) G2 H2 σ6 σ5 ∧ Keep G0 H0 G2 H2 ∧ forL t tb D3 gd (xs.drop (i + 1)) σ6 G2, fun σ5 H2 ⟨σ6, G2, a1, a2, a3, a4⟩ => ⟨_, by omega, rfl, hlt, σ6, G2, a1, a2, a3, a4⟩, fun v H2 hy => ?_⟩
    obtain ⟨g2, k2, r2⟩ := it.yld i x v G' H' H2 e k' g' hgd hy
    refine Tg.run (rs'.keep g' k2) r2 h' fun σ5 σ6 h5 r5 _ => ?_
    have kk : Keep G H G' H2 := (k0.trans k').trans k2
    have d1 := d.keep kk
    exact ⟨σ5, G', _, g2, r5, h5, ⟨fun σ7 G3 σ8 H3 h3 g3 r3 k3 => ⟨σ7, G3, g3, r3, (k'.trans k2).trans k3, h3⟩, d1.rt, d1.nx, fun σ7 G3 σ8 H3 h3 g3 r3 k3 => ⟨σ7, G3, g3, r3, (k'.trans k2).trans k3, h3⟩, d1.ex⟩⟩
  · have e : i = xs.length := by omega
    subst e
    rw [List.drop_length] at h'
    exact .inl ⟨it.stop G' H' k' g' h'.1, d.nx _ _ _ _ h'.2 g' rs' (k0.trans k')⟩
theorem tg1_ (i : Nat) {x : Str} {pos : Pos} (hN : X.N.Nodup) (hi : X.N[i]? = some x := by rfl) (hx : Loc X.env.scope x := by first | exact Or.inl rfl | exact Or.inr rfl) (hf : X.fn x = true ∨ X.env.scope.names.lookup x = some .local := by first | exact .inl rfl | exact .inr rfl | assumption) :
    PG X (.Name x pos) (Tg.g X.K (.n i)) := pg_name hN hi hx hf
theorem tgt_ {es : List Expr} {is : List Nat} {k : Nat} {pos : Pos} (hc : X.calm = true) (h : PGs X es (gNames is)) (hn : (assignEach es X.env).length = is.length := by rfl) (hst : (assignEach es X.env).findIdx? (·.1) = none := by rfl) :
    PG X (.Tuple es k pos) (Tg.g X.K (.t is)) := pg_tup hc h hn hst
end
/-! ### comprehensions -/
def wipeD (σ : St3) : List Nat → St3
  | [] => σ
  | v :: vs => (wipeD σ vs).set v none
/-- the turns of a comprehension; p: the list that grows -/
def lcL (t : Tg) (tt : TT3) (te : TE3) (gd : Gp → Prop) (σ : St3) (p : Addr) (Q : Gp → Prop) : List D → Gp → Prop
  | [], G => gd G ∧ Q G
  | x :: xs, G => gd G ∧ t.b x σ fun σ' => tt σ' G (fun b G1 => if b = true then te σ' G1 (fun d G2 => ∃ acc, G2 p = some (.lst acc) ∧ acc.length < sizeLine ∧ lcL t tt te gd σ p Q xs (up G2 p (.lst (acc ++ [d])))) (fun _ _ => False) else lcL t tt te gd σ p Q xs G1) (fun _ _ => False)
def lcEnd (m : Bool) (p : Addr) (Q : QK) (G : Gp) : Prop := match m with
  | true => (∃ acc, G p = some (.lst acc)) ∧ Q (.ref p) G
  | false => ∃ acc, G p = some (.lst acc) ∧ Q (.fl acc) (dl G p)
/-- [e for t in it if c] -/
def tlc (m : Bool) (ti : TI3) (t : Tg) (tt : TT3) (te : TE3) (vs : List Nat) : TE3 := fun σ G Q E => ti σ G (fun xs gd G1 => ∀ p, G1 p = none → lcL t tt te gd (wipeD σ vs) p (lcEnd m p Q) xs (up G1 p (.lst []))) E
def Tyes : TT3 := fun _ G Q _ => Q true G
section
variable {K : K3} {G : Gp} {H : Hp}
theorem wipeD_rs {σ3 : St3} {σ : St} (r : Rs K G H σ3 σ) : ∀ vs, Rs K G H (wipeD σ3 vs) (wipe σ vs)
  | [] => r
  | v :: vs => (wipeD_rs r vs).clear v
theorem wipe_get {σ : St} : ∀ {vs : List Nat} {j : Nat}, j ∉ vs → (wipe σ vs)[j]? = σ[j]?
  | [], _, _ => rfl
  | v :: vs, j, h => by
    simp only [List.mem_cons, not_or] at h
    unfold wipe
    rw [List.getElem?_set_ne (Ne.symm h.1), wipe_get h.2]
theorem wipe_at {σ : St} : ∀ {vs : List Nat} {j : Nat}, j ∈ vs → j < σ.length → (wipe σ vs)[j]? = some none
  | v :: vs, j, h, hl => by
    unfold wipe
    by_cases e : v = j
    · subst e
      exact List.getElem?_set_self (by rw [wipe_length]; exact hl)
    · rw [List.getElem?_set_ne e]
      rcases List.mem_cons.mp h with h | h
      · exact absurd h.symm e
      · exact wipe_at h hl
theorem wipe_same {σ σ' : St} {is vs : List Nat} (h : SameBut is (wipe σ vs) σ') (sub : ∀ i ∈ is, i ∈ vs) : wipe σ' vs = wipe σ vs := by
  obtain ⟨h1, h2⟩ := h
  rw [wipe_length] at h1
  apply List.ext_getElem?
  intro j
  by_cases hv : j ∈ vs
  · by_cases hl : j < σ.length
    · rw [wipe_at hv hl, wipe_at hv (by rw [h1]; exact hl)]
    · rw [List.getElem?_eq_none (by rw [wipe_length, h1]; omega), List.getElem?_eq_none (by rw [wipe_length]; omega)]
  · rw [wipe_get hv, h2 j (fun z => hv (sub j z))]
variable {X : Cx} {Z : Zx} {W : WX} {elt tg iter : Expr} {ifs : List Expr} {scope : Scope} {own : List (Str × Nat)} {ti : TI3} {t : Tg} {tt : TT3} {te : TE3} {pos : Pos}
/-- no exception leaves a comprehension -/
abbrev W0 : WX := fun _ _ _ _ => False
theorem lc_k (m : Bool) (sub : ∀ i ∈ t.is, i ∈ own.map (·.2)) (σ : St) (H : Hp) (Q : VK) (h : liftE (Cxk X Z) W (tlc m ti t tt te (own.map (·.2))) σ H Q) :
    tLc (liftI (Cxk X Z) W ti) (t.g X.K) (liftT (Cxk X Z) W0 tt) (liftE (Cxk X Z) W0 te) (own.map (·.2)) σ H Q := by
  obtain ⟨σ3, G, Q3, E3, g, rs, h, q, x⟩ := h
  refine ⟨σ3, G, _, E3, g, rs, h, fun xs gd G0 J H0 h0 g0 k0 it => ?_, x⟩
  intro p n
  have kD : Keep G0 H0 (up G0 p (.lst [])) (upd H0 p (.lst [])) := Keep.newG n
  have gD : GH (Cxk X Z) (up G0 p (.lst [])) (upd H0 p (.lst [])) := g0.newG n ⟨[], upd_same, .nil⟩
  have hp : ∀ {a : Addr} {o : HO}, H0 a = some o → a ≠ p := fun h => ne_of_none h n
  refine ⟨fun i mm H' => mm = xs.length - i ∧ i ≤ xs.length ∧ ∃ G', GH (Cxk X Z) G' H' ∧ Keep G0 H0 G' H' ∧ lcL t tt te gd (wipeD σ3 (own.map (·.2))) p (lcEnd m p Q3) (xs.drop i) G', ⟨xs.length, by simp, Nat.zero_le _, _, gD, kD, by simpa using h0 p (g0.free n)⟩, ?_⟩
  rintro i mm H' ⟨rfl, hi', G', g', k', h'⟩
  by_cases hlt : i < xs.length
  · obtain ⟨x, e⟩ : ∃ x, xs[i]? = some x := ⟨xs[i], by simp [hlt]⟩
    have ed : xs.drop i = x :: xs.drop (i + 1) := by
      rw [List.drop_eq_getElem_cons hlt]
      have : xs[i] = x := by rw [List.getElem?_eq_getElem hlt] at e; exact Option.some.inj e
      rw [this]
    rw [ed] at h'
    obtain ⟨hgd, h'⟩ := h'
    refine .inr ⟨it.go i G' H' hlt k' g' hgd, fun H2 => ∃ G2, GH (Cxk X Z) G2 H2 ∧ Keep G0 H0 G2 H2 ∧ lcL t tt te gd (wipeD σ3 (own.map (·.2))) p (lcEnd m p Q3) (xs.drop (i + 1)) G2, fun H2 ⟨G2, a1, a2, a3⟩ => ⟨_, by omega, rfl, hlt, G2, a1, a2, a3⟩, fun v H2 hy => ?_⟩
    obtain ⟨g2, k2, r2⟩ := it.yld i x v G' H' H2 e k' g' hgd hy
    have rs2 : Rs (Cxk X Z) G' H2 (wipeD σ3 (own.map (·.2))) (wipe σ (own.map (·.2))) := wipeD_rs (((rs.keep g k0).keep g0 k').keep g' k2) _
    refine Tg.run rs2 r2 h' fun σ5 σ6 h5 r5 sb => ⟨wipe_same sb sub, ?_⟩
    refine ⟨σ5, G', _, _, g2, r5, h5, fun b G3 H3 h3 g3 k3 => ?_, fun _ _ _ _ _ z => z.elim⟩
    cases b with
    | true =>
      rw [if_pos rfl] at h3 ⊢
      refine ⟨σ5, G3, _, _, g3, r5.keep g2 k3, h3, fun d G4 w H4 h4 g4 r4 k4 => ?_, fun _ _ _ _ _ z => z.elim⟩
      obtain ⟨acc, ep, l, h4⟩ := h4
      obtain ⟨avs, e1, rl⟩ := g4 p _ ep
      refine ⟨avs, e1, by rw [← rl.length]; exact l, up G4 p (.lst (acc ++ [d])), ?_, ?_, h4⟩
      · exact g4.set ep ⟨avs ++ [w], upd_same, (rl.append (.cons r4 .nil)).keep g4 (Keep.set ep)⟩
      · exact (((k'.trans k2).trans k3).trans k4).trans (Keep.set ep)
    | false =>
      rw [if_neg Bool.false_ne_true] at h3 ⊢
      exact ⟨G3, g3, (k'.trans k2).trans k3, h3⟩
  · have e : i = xs.length := by omega
    subst e
    rw [List.drop_length] at h'
    refine .inl ⟨it.stop G' H' k' g' h'.1, ?_⟩
    have h2 := h'.2
    have kk := k0.trans k'
    cases m with
    | true => exact q _ _ _ _ h2.2 g' (.ref p) kk
    | false =>
      obtain ⟨acc, ep, h2⟩ := h2
      obtain ⟨avs, e1, rl⟩ := g' p _ ep
      exact q _ _ _ _ h2 (g'.sub Sub.dl) (.fl e1 dl_same (rl.keep g' (Keep.sub Sub.dl))) (kk.trans (Keep.sub Sub.dl))
theorem lc_ (m : Bool) (t : Tg) (hc : X.calm = true) (hN : X.N.Nodup) (hi : PI3 X Z W tg iter ti) (ok : BlkOk X.N X.env.scope scope own) (sub : ∀ i ∈ t.is, i ∈ own.map (·.2))
    (hg : ∀ (s : Shared) (H : Hp) (C : Addr) (cl : List (Str × Addr)) (fp : List Addr), PG (X.blk s H scope (compEnvC scope cl C X.env) fp) tg (t.g X.K)) (ht : ∀ (s : Shared) (H : Hp) (C : Addr) (cl : List (Str × Addr)) (fp : List Addr), PTs (X.blk s H scope (compEnvC scope cl C X.env) fp) ifs (liftT (Cxk X Z) W0 tt))
    (he : ∀ (s : Shared) (H : Hp) (C : Addr) (cl : List (Str × Addr)) (fp : List Addr), PE3 (X.blk s H scope (compEnvC scope cl C X.env) fp) Z W0 elt te) (hs : ∀ x, foldedSetIterable iter X.env x = pure x := by intro _; rfl) :
    PE3 X Z W (.ListComp elt [⟨tg, iter, ifs, 0⟩] scope pos) (tlc m ti t tt te (own.map (·.2))) := PE.imp (pe_lc (te := liftE (Cxk X Z) W0 te) hc hN hi ok hg ht he hs) (lc_k m sub)
/-- name = [..] -/
theorem setLc_ (i : Nat) (m : Bool) (t : Tg) {y : Str} {py spos : Pos} (hc : X.calm = true) (hN : X.N.Nodup) (hi : PI3 X Z W tg iter ti) (ok : BlkOk X.N X.env.scope scope own) (sub : ∀ i ∈ t.is, i ∈ own.map (·.2))
    (hg : ∀ (s : Shared) (H : Hp) (C : Addr) (cl : List (Str × Addr)) (fp : List Addr), PG (X.blk s H scope (compEnvC scope cl C X.env) fp) tg (t.g X.K)) (ht : ∀ (s : Shared) (H : Hp) (C : Addr) (cl : List (Str × Addr)) (fp : List Addr), PTs (X.blk s H scope (compEnvC scope cl C X.env) fp) ifs (liftT (Cxk X Z) W0 tt))
    (he : ∀ (s : Shared) (H : Hp) (C : Addr) (cl : List (Str × Addr)) (fp : List Addr), PE3 (X.blk s H scope (compEnvC scope cl C X.env) fp) Z W0 elt te)
    (hsw : swapsWith (.ListComp elt [⟨tg, iter, ifs, 0⟩] scope pos) (some (.Name y py)) spos.line X.env = pure true) (hyl : X.env.scope.names.lookup y = some .local := by rfl) (hy : X.N[i]? = some y := by rfl) (hs : ∀ x, foldedSetIterable iter X.env x = pure x := by intro _; rfl) :
    PS3 X Z W (.Assign [.Name y py] (.ListComp elt [⟨tg, iter, ifs, 0⟩] scope pos) spos) (sset i (tlc m ti t tt te (own.map (·.2)))) := PS.imp (ps_setLc (te := liftE (Cxk X Z) W0 te) (i := i) hc hN hy hyl hsw hi ok hg ht he hs) fun D σ H h => by
  obtain ⟨σ3, G, D3, g, rs, h, d⟩ := h
  exact lc_k (W := W) m sub σ H (fun x H1 => D.nx (σ.set i (some x)) H1) ⟨σ3, G, _, _, g, rs, h, fun x G1 v H1 h1 g1 r1 k1 => d.nx _ _ _ _ h1 g1 ((rs.keep g k1).set r1 i) k1, d.exk g rs⟩
theorem no_if : ∀ {X : Cx} {Z : Zx}, PTs X [] (liftT (Cxk X Z) W0 Tyes) := ⟨fun pins s σ H Q I h => pts_nil.run pins s σ H Q I (by
  obtain ⟨σ3, G, Q3, E3, g, rs, h, q, x⟩ := h
  exact q _ _ _ h g Keep.refl)⟩
theorem if1_ {X : Cx} {Z : Zx} {c : Expr} {tc : TT3} (h : PT3 X Z W0 c tc) : PTs X [c] (liftT (Cxk X Z) W0 tc) := pts_one h
end
/-! #### pure comprehensions -/
/-- where each turn leaves G as it is -/
theorem lcL_pure {t : Tg} {tt : TT3} {te : TE3} {gd : Gp → Prop} {σ : St3} {p : Addr} {Q : Gp → Prop} {G : Gp} (f : D → Option D) (np : G p = none) : ∀ (xs acc : List D),
    (∀ x ∈ xs, ∀ G', Sub G G' → ∀ R : Option D → Gp → Prop, R (f x) G' → t.b x σ fun σ' => tt σ' G' (fun b G1 => if b = true then te σ' G1 (fun d G2 => R (some d) G2) (fun _ _ => False) else R none G1) (fun _ _ => False)) →
    (∀ G', Sub G G' → gd G') → acc.length + xs.length ≤ sizeLine → Q (up G p (.lst (acc ++ xs.filterMap f))) → lcL t tt te gd σ p Q xs (up G p (.lst acc))
  | [], acc, _, hg, _, h => ⟨hg _ (Sub.up np), by simpa using h⟩
  | x :: xs, acc, hs, hg, l, h => by
    have hlen : acc.length < sizeLine := by simp at l; omega
    refine ⟨hg _ (Sub.up np), ?_⟩
    refine hs x (by simp) (up G p (.lst acc)) (Sub.up np) (fun o G2 => match o with
      | some d => ∃ acc, G2 p = some (.lst acc) ∧ acc.length < sizeLine ∧ lcL t tt te gd σ p Q xs (up G2 p (.lst (acc ++ [d])))
      | none => lcL t tt te gd σ p Q xs G2) ?_
    have ih := lcL_pure (t := t) (tt := tt) (te := te) (gd := gd) (σ := σ) (p := p) (Q := Q) f np xs
    cases e : f x with
    | none =>
      rw [List.filterMap_cons, e] at h
      exact ih acc (fun y hy => hs y (by simp [hy])) hg (by simp at l; omega) h
    | some d =>
      rw [List.filterMap_cons, e] at h
      refine ⟨acc, up_same, hlen, ?_⟩
      rw [up_up]
      exact ih (acc ++ [d]) (fun y hy => hs y (by simp [hy])) hg (by simp at l ⊢; omega) (by simpa using h)
theorem lc_pure {m : Bool} {t : Tg} {tt : TT3} {te : TE3} {gd : Gp → Prop} {σ : St3} {Q : QK} {G : Gp} {xs : List D} (f : D → Option D)
    (hs : ∀ x ∈ xs, ∀ G', Sub G G' → ∀ R : Option D → Gp → Prop, R (f x) G' → t.b x σ fun σ' => tt σ' G' (fun b G1 => if b = true then te σ' G1 (fun d G2 => R (some d) G2) (fun _ _ => False) else R none G1) (fun _ _ => False))
    (hg : ∀ G', Sub G G' → gd G') (l : xs.length ≤ sizeLine) (h : outL m (xs.filterMap f) G Q) : ∀ p, G p = none → lcL t tt te gd σ p (lcEnd m p Q) xs (up G p (.lst [])) := fun p np => by
  refine lcL_pure f np xs [] hs hg (by simpa using l) ?_
  cases m with
  | true => exact ⟨⟨_, up_same⟩, by simpa using h p np⟩
  | false => exact ⟨_, up_same, by rw [dl_up np]; simpa [outL] using h⟩
end L3
namespace L3
open PySem PySem.Spec PyProof.Rows L2
open He (ga)
/-! ### methods of lists -/
abbrev QM := D → List D → Gp → QK → Prop
def isL (x : D) (G : Gp) : Prop := ∃ xs, lq G x = some xs
def isS (x : D) (G : Gp) : Prop := ∃ z, x = .str z
def MtR3 (X : Cx) (Z : Zx) (id : String) (t : QM) : Prop := ∃ r : V → List V → Hp → VK → Prop, MtR X id r ∧ ∀ G H x v xs vs Q3 Q, GH (Cxk X Z) G H → Dv (Cxk X Z) G H x v → DvL (Cxk X Z) G H xs vs → t x xs G Q3 → Qk (Cxk X Z) G H Q3 Q → r v vs H Q
def tmeth (ty : D → Gp → Prop) (t : QM) (to : TE3) (ta : TA3) : TE3 := fun σ G Q E => to σ G (fun x G1 => ty x G1 ∧ ta σ G1 (fun ds G2 => t x ds G2 Q) E) E
def tmeth0 (ty : D → Gp → Prop) (t : QM) (to : TE3) : TE3 := fun σ G Q E => to σ G (fun x G1 => ty x G1 ∧ t x [] G1 Q) E
def TyOk (K : K3) (T : String) (ty : D → Gp → Prop) : Prop := ∀ G H x v, GH K G H → Dv K G H x v → ty x G → tyV K.f T v H
theorem ty_list {K : K3} : TyOk K "list" isL := fun G H x v g r ⟨xs, e⟩ => by
  obtain ⟨a, vs, ea, s, rl⟩ := lq_ok g r e
  subst ea
  exact .inl ⟨rfl, vs, s⟩
theorem ty_str {K : K3} : TyOk K "str" isS := fun G H x v g r ⟨z, e⟩ => by
  subst e
  cases r
  rfl
section
variable {X : Cx} {Z : Zx} {W : WX} {o e : Expr} {es : List Expr} {to : TE3} {ta : TA3} {name : Str} {apos cpos : Pos} {T id : String} {t : QM} {ty : D → Gp → Prop}
theorem m_ (pa : PlainAttrs T) (slot : Slot T name id) (hty : typeOf (.builtin id) = pure (.type "method_descriptor")) (tk : TyOk (Cxk X Z) T ty) (hm : MtR3 X Z id t) (ho : PE3 X Z W o to) (ha : PA3 X Z W (e :: es) ta)
    (hbase : attributeBase o name X.env (eval o X.env) = eval o X.env := by rfl)
    (hfew : ((backTo cpos (starEach (e :: es) X.env)).all (fun x => !x.1) && (backToKw cpos (keywordEach [] X.env)).all (fun x => x.1.isSome)
      && decide ((e :: es).length + ([] : List Keyword).length + (if ([] : List Keyword).isEmpty then 0 else 1) < 30)) = true := by rfl)
    (hline : (apos.endLine == cpos.line) = true := by rfl) (hs : starEach (e :: es) X.env = (false, eval e X.env) :: starEach es X.env := by rfl) (hplain : (backTo cpos (starEach es X.env)).any (·.1) = false := by rfl) :
    PE3 X Z W (.Call (.Attribute o name apos) (e :: es) [] cpos) (tmeth ty t to ta) := by
  obtain ⟨r, h, k⟩ := hm
  refine PE.imp (pe_bm pa slot hty h ho ha hbase hfew hline hs hplain) fun σ H Q h => ?_
  obtain ⟨σ3, G, Q3, E3, g, rs, h, q, x⟩ := h
  refine ⟨σ3, G, _, E3, g, rs, h, fun d1 G1 v1 H1 ⟨t1, h1⟩ g1 r1 k1 => ⟨tk _ _ _ _ g1 r1 t1, ?_⟩, x⟩
  refine ⟨σ3, G1, _, E3, g1, rs.keep g k1, h1, fun ds G2 vs H2 h2 g2 r2 k2 => ?_, x.keep k1⟩
  exact k G2 H2 d1 v1 ds vs Q3 Q g2 (r1.keep g1 k2) r2 h2 (q.keep (k1.trans k2))
theorem m0_ (pa : PlainAttrs T) (slot : Slot T name id) (hty : typeOf (.builtin id) = pure (.type "method_descriptor")) (tk : TyOk (Cxk X Z) T ty) (hm : MtR3 X Z id t) (ho : PE3 X Z W o to)
    (hbase : attributeBase o name X.env (eval o X.env) = eval o X.env := by rfl) (hline : (apos.endLine == cpos.line) = true := by rfl) : PE3 X Z W (.Call (.Attribute o name apos) [] [] cpos) (tmeth0 ty t to) := by
  obtain ⟨r, h, k⟩ := hm
  refine PE.imp (pe_bm0 pa slot hty h ho hbase hline) fun σ H Q h => ?_
  obtain ⟨σ3, G, Q3, E3, g, rs, h, q, x⟩ := h
  exact ⟨σ3, G, _, E3, g, rs, h, fun d1 G1 v1 H1 ⟨t1, h1⟩ g1 r1 k1 => ⟨tk _ _ _ _ g1 r1 t1, k G1 H1 d1 v1 [] [] Q3 Q g1 r1 .nil h1 (q.keep k1)⟩, x⟩
end
def mAppend : QM := fun x ds G Q => match x, ds with
  | .ref p, [y] => ∃ xs, G p = some (.lst xs) ∧ xs.length < sizeLine ∧ Q .non (up G p (.lst (xs ++ [y])))
  | _, _ => False
def mExtend : QM := fun x ds G Q => match x, ds with
  | .ref p, [y] => ∃ xs ys, G p = some (.lst xs) ∧ mq G y = some ys ∧ xs.length + ys.length ≤ sizeLine ∧ Q .non (up G p (.lst (xs ++ ys)))
  | _, _ => False
def mPop : QM := fun x ds G Q => match x, ds with
  | .ref p, [] => ∃ xs y, G p = some (.lst xs) ∧ xs[xs.length - 1]? = some y ∧ Q y (up G p (.lst xs.dropLast))
  | _, _ => False
def mPopAt : QM := fun x ds G Q => match x, ds with
  | .ref p, [.int i] => ∃ xs k y, G p = some (.lst xs) ∧ -(2 ^ 63) ≤ i ∧ i < 2 ^ 63 ∧ seqIndex? i xs.length = some k ∧ xs[k]? = some y ∧ Q y (up G p (.lst (xs.eraseIdx k)))
  | _, _ => False
def mIndex : QM := fun x ds G Q => match ds with
  | [y] => ∃ xs j z, lq G x = some xs ∧ flD y = true ∧ xs.all flD = true ∧ xs[j]? = some z ∧ eqD z y = true ∧ (∀ (m : Nat) z', m < j → xs[m]? = some z' → eqD z' y = false) ∧ Q (.int (j : Nat)) G
  | _ => False
section
variable {X : Cx} {Z : Zx}
theorem mut_ok {K : K3} {G : Gp} {H : Hp} {p : Addr} {xs ys : List D} {vs ws : List V} {Q3 : QK} {Q : VK} {d : D} {v : V} (g : GH K G H) (e : G p = some (.lst xs)) (r : DvL K G H ys ws) (rv : Dv K G H d v) (q : Qk K G H Q3 Q) (h : Q3 d (up G p (.lst ys))) : Q v (upd H p (.lst ws)) :=
  q _ _ _ _ h (g.set e ⟨ws, upd_same, r.keep g (Keep.set e)⟩) (rv.keep g (Keep.set e)) (Keep.set e)
theorem me_append : MtR3 X Z "list.append" mAppend := by
  refine ⟨_, mt_append, fun G H x v xs vs Q3 Q g rx r h q => ?_⟩
  unfold mAppend at h
  split at h
  · cases rx
    cases r with
    | cons r1 r2 =>
    cases r2
    obtain ⟨xs, e, l, h⟩ := h
    obtain ⟨ws, e1, rl⟩ := g _ _ e
    exact ⟨_, ws, _, rfl, rfl, e1, by rw [← rl.length]; exact l, mut_ok (vs := ws) g e (rl.append (.cons r1 .nil)) .non q h⟩
  · exact h.elim
theorem me_extend : MtR3 X Z "list.extend" mExtend := by
  refine ⟨_, mt_extend, fun G H x v xs vs Q3 Q g rx r h q => ?_⟩
  unfold mExtend at h
  split at h
  · cases rx
    cases r with
    | cons r1 r2 =>
    cases r2
    obtain ⟨xs, ys, e, e2, l, h⟩ := h
    obtain ⟨ws, e1, rl⟩ := g _ _ e
    obtain ⟨b, us, eb, e3, rl2⟩ := mq_ok g r1 e2
    subst eb
    exact ⟨_, b, ws, us, rfl, rfl, e1, e3, by rw [← rl.length, ← rl2.length]; exact l, mut_ok (vs := ws) g e (rl.append rl2) .non q h⟩
  · exact h.elim
theorem me_pop : MtR3 X Z "list.pop" mPop := by
  refine ⟨_, mt_pop, fun G H x v xs vs Q3 Q g rx r h q => ?_⟩
  unfold mPop at h
  split at h
  · cases rx
    cases r
    obtain ⟨xs, y, e, e2, h⟩ := h
    obtain ⟨ws, e1, rl⟩ := g _ _ e
    obtain ⟨w, e3, r3⟩ := rl.get e2
    exact ⟨_, ws, w, rfl, rfl, e1, by rw [← rl.length]; exact e3, mut_ok (vs := ws) g e rl.dropLast r3 q h⟩
  · exact h.elim
theorem me_popAt : MtR3 X Z "list.pop" mPopAt := by
  refine ⟨_, mt_popAt, fun G H x v xs vs Q3 Q g rx r h q => ?_⟩
  unfold mPopAt at h
  split at h
  · cases rx
    cases r with
    | cons r1 r2 =>
    cases r1; cases r2
    obtain ⟨xs, k, y, e, l1, l2, e4, e2, h⟩ := h
    obtain ⟨ws, e1, rl⟩ := g _ _ e
    obtain ⟨w, e3, r3⟩ := rl.get e2
    exact ⟨_, ws, _, k, w, rfl, rfl, e1, l1, l2, by rw [← rl.length]; exact e4, e3, mut_ok (vs := ws) g e (rl.eraseIdx k) r3 q h⟩
  · exact h.elim
theorem me_index : MtR3 X Z "list.index" mIndex := by
  refine ⟨_, mt_index, fun G H x v xs vs Q3 Q g rx r h q => ?_⟩
  unfold mIndex at h
  split at h
  · cases r with
    | cons r1 r2 =>
    cases r2
    obtain ⟨ys, j, z, e, fy, fs, ez, eq, no, h⟩ := h
    obtain ⟨a, ws, ea, s, rl⟩ := lq_ok g rx e
    obtain ⟨w, e3, r3⟩ := rl.get ez
    have fz : flD z = true := List.all_eq_true.mp fs z (List.mem_of_getElem? ez)
    refine ⟨a, ws, _, j, w, ea, rfl, s, fl_ok r1 fy, fls_ok rl fs, e3, by rw [eqV_ok r3 r1 fz fy]; exact eq, fun m u hm hu => ?_, q_of q g h (.int _)⟩
    obtain ⟨z', ez'⟩ : ∃ z', ys[m]? = some z' := by
      have : m < ys.length := by rw [rl.length]; exact (List.getElem?_eq_some_iff.mp hu).1
      exact ⟨ys[m], by simp [this]⟩
    obtain ⟨u', eu', ru'⟩ := rl.get ez'
    rw [hu] at eu'; cases eu'
    rw [eqV_ok ru' r1 (List.all_eq_true.mp fs z' (List.mem_of_getElem? ez')) fy]
    exact no m z' hm ez'
  · exact h.elim
end
/-! ### o[i] = v -/
abbrev QS := D → D → D → Gp → (Gp → Prop) → Prop
def PSet3 (X : Cx) (Z : Zx) (t : QS) : Prop := ∃ r : TSet, PSet X r ∧ ∀ G H o i x ov iv v Q3 (Q : Hp → Prop), GH (Cxk X Z) G H → Dv (Cxk X Z) G H o ov → Dv (Cxk X Z) G H i iv → Dv (Cxk X Z) G H x v → t o i x G Q3 → (∀ G' H', Q3 G' → GH (Cxk X Z) G' H' → Keep G H G' H' → Q H') → r ov iv v H Q
def setL3 : QS := fun o i x G Q => match o, i with
  | .ref p, .int k => ∃ xs j, G p = some (.lst xs) ∧ ixN xs.length k = some j ∧ Q (up G p (.lst (xs.set j x)))
  | _, _ => False
theorem se_list {X : Cx} {Z : Zx} : PSet3 X Z setL3 := by
  refine ⟨_, set_list, fun G H o i x ov iv v Q3 Q g ro ri rx h q => ?_⟩
  unfold setL3 at h
  split at h
  · cases ro; cases ri
    obtain ⟨xs, j, e, l, h⟩ := h
    obtain ⟨ws, e1, rl⟩ := g _ _ e
    exact ⟨_, ws, _, j, rfl, rfl, e1, by rw [← rl.length]; exact l, q _ _ h (g.set e ⟨_, upd_same, (DvL.set rx j rl).keep g (Keep.set e)⟩) (Keep.set e)⟩
  · exact h.elim
def ssub (to ti te : TE3) (t : QS) : TS3 := fun E σ G => te σ G (fun x G1 => to σ G1 (fun o G2 => ti σ G2 (fun i G3 => t o i x G3 fun G4 => E.nx σ G4) (fun x G1 => E.ex x σ G1)) (fun x G1 => E.ex x σ G1)) (fun x G1 => E.ex x σ G1)
section
variable {X : Cx} {Z : Zx} {W : WX} {o i e : Expr} {to ti te : TE3} {t : QS} {tpos pos : Pos}
theorem setIx_ (hs : PSet3 X Z t) (ho : PE3 X Z W o to) (hi : PE3 X Z W i ti) (he : PE3 X Z W e te)
    (ha : ∀ v, assign (.Subscript o i tpos) X.env v = (do
      let ov ← holding [v] (eval o X.env)
      let iv ← holding [v, ov] (eval i X.env)
      standAt tpos
      holding [v, ov, iv] (setItem ov iv v)
      release [v, ov, iv] []) := by intro _; rfl)
    (hsw : swapsWithSole [.Subscript o i tpos] e pos.line X.env = pure false := by rfl) (hw : swappedStores [.Subscript o i tpos] e X.env = pure none := by rfl)
    (h1 : (assignEach [.Subscript o i tpos] X.env).map (·.2) = [assign (.Subscript o i tpos) X.env] := by rfl) : PS3 X Z W (.Assign [.Subscript o i tpos] e pos) (ssub to ti te t) := by
  obtain ⟨r, hs, k⟩ := hs
  refine PS.imp (ps_asg he (pg_sub ho hi hs ha) hsw hw h1) fun D σ H h => ?_
  obtain ⟨σ3, G, D3, g, rs, h, d⟩ := h
  refine ⟨σ3, G, _, _, g, rs, h, fun x G1 v H1 h1 g1 r1 k1 => ?_, d.exk g rs⟩
  refine ⟨σ3, G1, _, _, g1, rs.keep g k1, h1, fun x2 G2 v2 H2 h2 g2 r2 k2 => ?_, (d.keep k1).exk g1 (rs.keep g k1)⟩
  refine ⟨σ3, G2, _, _, g2, (rs.keep g k1).keep g1 k2, h2, fun x3 G3 v3 H3 h3 g3 r3 k3 => ?_, ((d.keep k1).keep k2).exk g2 ((rs.keep g k1).keep g1 k2)⟩
  refine k G3 H3 x2 x3 x v2 v3 v _ _ g3 (r2.keep g2 k3) r3 ((r1.keep g1 k2).keep g2 k3) h3 fun G4 H4 h4 g4 k4 => ?_
  exact d.nx _ _ _ _ h4 g4 ((((rs.keep g k1).keep g1 k2).keep g2 k3).keep g3 k4) (((k1.trans k2).trans k3).trans k4)
end
/-! ### freezing -/
/-- a list that is written no more -/
def fz (d : D) (G : Gp) (Q : QK) : Prop := match d with
  | .ref p => (match G p with
    | some (.lst xs) => Q (.fl xs) (dl G p)
    | some (.ins c fs) => Q (.ob c (fs.map (·.1)) (fs.map (·.2))) (dl G p)
    | _ => Q d G)
  | _ => Q d G
def tfz (te : TE3) : TE3 := fun σ G Q E => te σ G (fun d G1 => fz d G1 Q) E
theorem fz_ok {K : K3} {G : Gp} {H : Hp} {Q3 : QK} {Q : VK} {d : D} {v : V} (g : GH K G H) (r : Dv K G H d v) (h : fz d G Q3) (q : Qk K G H Q3 Q) : Q v H := by
  unfold fz at h
  split at h
  · rename_i p
    split at h
    · rename_i xs e
      obtain ⟨vs, e1, rl⟩ := g p _ e
      cases r
      exact q _ _ _ _ h (g.sub Sub.dl) (.fl e1 dl_same (rl.keep g (Keep.sub Sub.dl))) (Keep.sub Sub.dl)
    · rename_i c fs e
      obtain ⟨dx, vs, e1, rl⟩ := g p _ e
      cases r
      refine q _ _ _ _ h (g.sub Sub.dl) (.ob e1 ?_ dl_same (rl.keep g (Keep.sub Sub.dl))) (Keep.sub Sub.dl)
      have := rl.length
      simpa using this
    · exact q_of q g h r
  · exact q_of q g h r
theorem fz_ {X : Cx} {Z : Zx} {W : WX} {e : Expr} {te : TE3} (h : PE3 X Z W e te) : PE3 X Z W e (tfz te) := PE.imp h fun σ H Q h => by
  obtain ⟨σ3, G, Q3, E3, g, rs, h, q, x⟩ := h
  exact ⟨σ3, G, _, E3, g, rs, h, fun d G1 v H1 h1 g1 r1 k1 => fz_ok g1 r1 h1 (q.keep k1), x⟩
/-! ### a def keeps its promise -/
/-- at a def's end: less of G may be kept -/
def dn (Q : QK) : QK := fun d G => ∃ G', Sub G' G ∧ Q d G'
def fnEnds (Q : QK) (E : EK) : Ends3 := { nx := fun _ G => dn Q .non G, rt := dn Q, ex := fun x _ G => ∃ G', Sub G' G ∧ E x G' }
def start3 (N : List Str) (ds : List D) : St3 := ds.map some ++ List.replicate (N.length - ds.length) none
section
variable {P : Program} {w : World} {K : K3} {mg : Str → Option Value} {base : Heap}
theorem start_rs {G : Gp} {H : Hp} {ds : List D} {vs : List V} (N : List Str) (r : DvL K G H ds vs) : Rs K G H (start3 N ds) (L2.start N vs) := by
  unfold start3 L2.start
  rw [r.length]
  refine ⟨by simp [r.length], fun i d e => ?_⟩
  by_cases hi : i < ds.length
  · rw [List.getElem?_append_left (by simpa using hi), List.getElem?_map] at e
    cases e2 : ds[i]? with
    | none => rw [e2] at e; cases e
    | some x =>
      rw [e2] at e; cases e
      obtain ⟨v, h1, h2⟩ := r.get e2
      refine ⟨v, ?_, h2⟩
      rw [List.getElem?_append_left (by simp; rw [← r.length]; exact hi), List.getElem?_map, h1]; rfl
  · rw [List.getElem?_append_right (by simpa using hi), List.getElem?_replicate] at e
    split at e <;> cases e
theorem Xv.sub {G G' : Gp} {H : Hp} {x : X3} {c : Value} {d : Option Addr} (g : GH K G H) (s : Sub G' G) (h : Xv K G H x c d) : Xv K G' H x c d := by
  obtain ⟨h1, h2⟩ := h
  refine ⟨h1, ?_⟩
  cases e : x.f with
  | none => rw [e] at h2; exact h2
  | some p =>
    obtain ⟨f, y⟩ := p
    rw [e] at h2
    obtain ⟨a, v, e1, e2, r⟩ := h2
    exact ⟨a, v, e1, e2, r.keep g (Keep.sub s)⟩
/-- THE RULE for a def -/
theorem fn3_of {K : PySem.W.Frag} {x qual : Str} {params : Arguments} {body : List Stmt} {scope : Scope} {f : Addr} {fd : FuncData} {N ps : List Str} {k : Nat} {sp : Sp3}
    (F : FunD K x qual params body scope [] [] f fd) (S : FnScope N ps scope) (len : ∀ ds G Q E, sp ds G Q E → ds.length = ps.length)
    (hbody : ∃ t : TS3, (∀ (cdv : Value) (A : Around) (outer : List Env) (s : Shared) (H : Hp) (E : XK), Room k (A.deeper (envOfC qual scope s.heap.objs.size f cdv)) →
        PSs3 (cxOf (L2.CX P w) P w K mg base N qual scope f cdv A outer s H E) Z0 (fun c d _ H' => E c d H') body t) ∧
      ∀ ds G Q E, sp ds G Q E → t (fnEnds Q E) (start3 N ds) G) : FnOk P w K mg base (L2.CX P w) (k + 1) f fd ps (liftSp ⟨K, Z0⟩ sp) := by
  obtain ⟨t, hb, hv⟩ := hbody
  refine F.ok S (fun vs H Q E h => ?_) (fun cdv A outer s H vs Q E hr h => ?_)
  · obtain ⟨ds, G, Q3, E3, g, r, h, _⟩ := h
    rw [← r.length]
    exact len _ _ _ _ h
  · refine ⟨_, hb cdv A outer s H E hr, ?_⟩
    obtain ⟨ds, G, Q3, E3, g, r, h, q, x⟩ := h
    refine ⟨start3 N ds, G, fnEnds Q3 E3, g, start_rs N r, hv ds G Q3 E3 h, ⟨fun σ3 G1 σ H1 ⟨G2, s2, h1⟩ g1 r1 k1 => ?_, fun d G1 v H1 ⟨G2, s2, h1⟩ g1 r1 k1 => ?_, fun _ _ _ _ z => z.elim, fun _ _ _ _ z => z.elim, fun x3 σ3 G1 c d σ H1 ⟨G2, s2, h1⟩ g1 r1 xv k1 => ?_⟩⟩
    · exact q _ _ _ _ h1 (g1.sub s2) .non (k1.trans (Keep.sub s2))
    · exact q _ _ _ _ h1 (g1.sub s2) (r1.keep g1 (Keep.sub s2)) (k1.trans (Keep.sub s2))
    · exact x _ _ _ _ _ h1 (g1.sub s2) (xv.sub g1 s2) (k1.trans (Keep.sub s2))
theorem fn3 {K : PySem.W.Frag} {x : Str} {params : Arguments} {body : List Stmt} {scope : Scope} {f : Addr} {fd : FuncData} {N ps : List Str} {k : Nat} {sp : Sp3} (hm : mg x = some (.ref f))
    (F : FunD K x x params body scope [] [] f fd) (S : FnScope N ps scope) (hb : Binds K fd ps []) (len : ∀ ds G Q E, sp ds G Q E → ds.length = ps.length)
    (hbody : ∃ t : TS3, (∀ (cdv : Value) (A : Around) (outer : List Env) (s : Shared) (H : Hp) (E : XK), Room k (A.deeper (envOfC x scope s.heap.objs.size f cdv)) →
        PSs3 (cxOf (L2.CX P w) P w K mg base N x scope f cdv A outer s H E) Z0 (fun c d _ H' => E c d H') body t) ∧
      ∀ ds G Q E, sp ds G Q E → t (fnEnds Q E) (start3 N ds) G) : Fn3 P w K mg base x (k + 1) sp := ⟨f, fd, ps, hm, F.kp, hb, fn3_of F S len hbody⟩
end
end L3
namespace L3
open PySem PySem.Spec PyProof.Rows L2
open He (ga)
/-! ### a statement, an expression that is never reached -/
theorem sdead_ {X : Cx} {Z : Zx} {W : WX} {st : Stmt} : PS3 X Z W st (fun _ _ _ => False) := ⟨fun _ _ _ _ _ _ h => by obtain ⟨_, _, _, _, _, h, _⟩ := h; exact h.elim⟩
theorem ssdead_ {X : Cx} {Z : Zx} {W : WX} {st : List Stmt} : PSs3 X Z W st (fun _ _ _ => False) := ⟨fun _ _ _ _ _ _ h => by obtain ⟨_, _, _, _, _, h, _⟩ := h; exact h.elim⟩
theorem edead_ {X : Cx} {Z : Zx} {W : WX} {e : Expr} : PE3 X Z W e (fun _ _ _ _ => False) := ⟨fun _ _ _ _ _ _ h => by obtain ⟨_, _, _, _, _, _, h, _⟩ := h; exact h.elim⟩
/-! ### types -/
inductive Bt where
  | non | bl | int | str | tup | lst | dic
  deriving DecidableEq
def Bt.n : Bt → String
  | .non => "NoneType" | .bl => "bool" | .int => "int" | .str => "str" | .tup => "tuple" | .lst => "list" | .dic => "dict"
def Bt.all : List Bt := [.non, .bl, .int, .str, .tup, .lst, .dic]
theorem Bt.mem (t : Bt) : t ∈ Bt.all := by cases t <;> decide
inductive Ty3 where
  | b (t : Bt) | o (c : Str)
def Ty3.v (K : PySem.W.Frag) : Ty3 → Value
  | .b t => .type t.n
  | .o c => .ref (ga K c)
def tyD (G : Gp) : D → Option Ty3
  | .non => some (.b .non)
  | .bl _ => some (.b .bl)
  | .int _ => some (.b .int)
  | .str _ => some (.b .str)
  | .tup _ => some (.b .tup)
  | .fl _ => some (.b .lst)
  | .sl _ => some (.b .lst)
  | .ob c _ _ => some (.o c)
  | .emp => some (.b .dic)
  | .ref a => (match G a with
    | some (.lst _) => some (.b .lst)
    | some (.dic _) => some (.b .dic)
    | some (.ins c _) => some (.o c)
    | some (.tb _) => none
    | none => none)
  | _ => none
/-- a class whose instances are looked at -/
structure OwnC (K : PySem.W.Frag) (c : Str) : Prop where
  cl : Cls K (ga K c)
  ha : PySem.W.findIn K (.ref (ga K c)) "__class__" = some (some (.builtin "object.__class__"))
  hn : PySem.W.specialIn K (.builtin "object.__class__") "__get__" = some (some (.builtin "getset_descriptor.__get__"))
  htk : PySem.W.takesIn K (.builtin "object.__class__") = some true
  hm : PySem.W.mroIn K (ga K c) (.type "object") = some true
structure IsF (K : PySem.W.Frag) (OC : List Str) : Prop where
  own : ∀ c ∈ OC, OwnC K c
  ob : ∀ c ∈ OC, ∀ T : Bt, PySem.W.kitOne K (.ref (ga K c)) (.type T.n) = some false
  bo : ∀ c ∈ OC, ∀ T : Bt, PySem.W.kitOne K (.type T.n) (.ref (ga K c)) = some false
  oo : ∀ c ∈ OC, ∀ d ∈ OC, PySem.W.kitOne K (.ref (ga K c)) (.ref (ga K d)) = some (c == d)
def isfB (OC : List Str) (K : PySem.W.Frag) : Bool := OC.all fun c => (He.Fa.ok K (.cls c) && (decide (PySem.W.findIn K (.ref (ga K c)) "__class__" = some (some (.builtin "object.__class__"))) && (decide (PySem.W.specialIn K (.builtin "object.__class__") "__get__" = some (some (.builtin "getset_descriptor.__get__"))) &&
  (decide (PySem.W.takesIn K (.builtin "object.__class__") = some true) && decide (PySem.W.mroIn K (ga K c) (.type "object") = some true))))) &&
  ((Bt.all.all fun T => decide (PySem.W.kitOne K (.ref (ga K c)) (.type T.n) = some false) && decide (PySem.W.kitOne K (.type T.n) (.ref (ga K c)) = some false)) &&
  OC.all fun d => decide (PySem.W.kitOne K (.ref (ga K c)) (.ref (ga K d)) = some (c == d)))
theorem isf_ok {K : PySem.W.Frag} {OC : List Str} (h : isfB OC K = true) : IsF K OC := by
  have key : ∀ c ∈ OC, _ := fun c hc => He.ba (List.all_eq_true.mp h c hc)
  refine ⟨fun c hc => ?_, fun c hc T => ?_, fun c hc T => ?_, fun c hc d hd => ?_⟩
  · obtain ⟨h1, _⟩ := key c hc
    obtain ⟨h1, h2⟩ := He.ba h1
    obtain ⟨h2, h3⟩ := He.ba h2
    obtain ⟨h3, h4⟩ := He.ba h3
    obtain ⟨h4, h5⟩ := He.ba h4
    exact ⟨He.cls_ok h1, of_decide_eq_true h2, of_decide_eq_true h3, of_decide_eq_true h4, of_decide_eq_true h5⟩
  · obtain ⟨_, h1⟩ := key c hc
    obtain ⟨h1, _⟩ := He.ba h1
    exact of_decide_eq_true (He.ba (List.all_eq_true.mp h1 T T.mem)).1
  · obtain ⟨_, h1⟩ := key c hc
    obtain ⟨h1, _⟩ := He.ba h1
    exact of_decide_eq_true (He.ba (List.all_eq_true.mp h1 T T.mem)).2
  · obtain ⟨_, h1⟩ := key c hc
    obtain ⟨_, h1⟩ := He.ba h1
    exact of_decide_eq_true (List.all_eq_true.mp h1 d hd)
/-- is it of this built-in type -/
def isT (OC : List Str) (T : Bt) : Ty3 → Option Bool
  | .b U => some (decide (U = T) || (decide (U = .bl) && decide (T = .int)))
  | .o c => if OC.contains c then some false else none
/-- .. of this own class -/
def isO (OC : List Str) (C : Str) : Ty3 → Option Bool
  | .b _ => some false
  | .o c => if OC.contains c then some (c == C) else none
/-- .. of one of these -/
def isA (OC : List Str) (Ts : List Bt) : Ty3 → Option Bool
  | .b U => some (Ts.any fun T => decide (U = T) || (decide (U = .bl) && decide (T = .int)))
  | .o c => if OC.contains c then some false else none
theorem kitB_all : ∀ U T : Bt, kitB U.n T.n = some (decide (U = T) || (decide (U = .bl) && decide (T = .int))) := by
  intro U T; cases U <;> cases T <;> decide +kernel
def TbC (K : PySem.W.Frag) (u : Value) (f : Ty3 → Option Bool) : Prop := ∀ t b, f t = some b → PySem.W.kitOne K (t.v K) u = some b ∧ ∀ c, t = .o c → OwnC K c
section
variable {K : PySem.W.Frag} {OC : List Str}
theorem tb_b (F : IsF K OC) (T : Bt) : TbC K (.type T.n) (isT OC T) := fun t b h => by
  cases t with
  | b U =>
    cases h
    exact ⟨kit_ty (kitB_all U T), fun c e => by cases e⟩
  | o c =>
    unfold isT at h
    simp only at h
    split at h
    · rename_i hc
      cases h
      have hc : c ∈ OC := by simpa using hc
      exact ⟨F.ob c hc T, fun d e => by cases e; exact F.own c hc⟩
    · cases h
theorem tb_o (F : IsF K OC) (C : Str) (hC : C ∈ OC) : TbC K (.ref (ga K C)) (isO OC C) := fun t b h => by
  cases t with
  | b U =>
    cases h
    exact ⟨F.bo C hC U, fun c e => by cases e⟩
  | o c =>
    unfold isO at h
    simp only at h
    split at h
    · rename_i hc
      cases h
      have hc : c ∈ OC := by simpa using hc
      exact ⟨F.oo c hc C hC, fun d e => by cases e; exact F.own c hc⟩
    · cases h
end
section
variable {K : K3} {G : Gp} {H : Hp}
theorem tyD_ok (g : GH K G H) {x : D} {v : V} {t : Ty3} (r : Dv K G H x v) (h : tyD G x = some t) (ow : ∀ c, t = .o c → OwnC K.f c) : TyX K.f H v (t.v K.f) := by
  cases r with
  | non => cases h; exact .base .non
  | bl b => cases h; exact .base (.bl b)
  | int i => cases h; exact .base (.int i)
  | str z => cases h; exact .base (.str z)
  | tup s r =>
    cases h
    rcases s with (s | ⟨o, s⟩) | ⟨o, its, n, s1, s2, _⟩
    · exact .base (.tup s)
    · exact .fTuple s
    · exact .kTuple s1 s2
  | fl s n r => cases h; exact .base (.lst s)
  | sl s r =>
    cases h
    rcases s with ⟨s | ⟨o, s⟩, _⟩ | ⟨o, its, n, s1, s2, _⟩
    · exact .base (.lst s)
    · exact .base (.frz s)
    · exact .kList s1 s2
  | ob s l n r =>
    cases h
    have w := ow _ rfl
    exact .base (.ins s w.cl w.ha w.hn w.htk w.hm)
  | emp s n => cases h; exact .base (.dK s)
  | ref a =>
    unfold tyD at h
    simp only at h
    split at h
    · rename_i xs e
      cases h
      obtain ⟨vs, h2, _⟩ := g a _ e
      exact .base (.lst h2)
    · rename_i xs e
      cases h
      obtain ⟨vs, h2, _⟩ := g a _ e
      exact .base (.dK h2)
    · rename_i c fs e
      cases h
      obtain ⟨dx, vs, h2, _⟩ := g a _ e
      have w := ow _ rfl
      exact .base (.ins h2 w.cl w.ha w.hn w.htk w.hm)
    · cases h
    · cases h
  | ex h0 => cases h
  | fn x => cases h
  | lam h0 h1 h2 => cases h
  | exf h0 h1 h2 r => cases h
end
def tisi (f : Ty3 → Option Bool) (te : TE3) : TE3 := fun σ G Q E => te σ G (fun x G1 => ∃ t b, tyD G1 x = some t ∧ f t = some b ∧ Q (.bl b) G1) E
/-- the class as it is written -/
def IsC (X : Cx) (c : Expr) (u : Value) : Prop := ∃ cv, PE X c (tC cv) ∧ ClsV cv u
section
variable {X : Cx} {Z : Zx} {W : WX} {e c : Expr} {te : TE3} {pos p q pc : Pos} {f : Ty3 → Option Bool} {u : Value} {OC : List Str}
theorem isc_b (T : Bt) {x : Str} (hm : X.mg x = none) (hv : bootBuiltins x = some (.type T.n) := by decide +kernel) (hg : Gl X x := by rfl) (hn : x ≠ "__name__" := by decide +kernel) (hd : (x == ("__debug__" : Str)) = false := by decide +kernel) : IsC X (.Name x p) (.type T.n) :=
  ⟨.ty T.n, pe_bltn hg hm hv rfl hn hd, .ty _⟩
theorem isc_o {x : Str} (hm : X.mg x = some (.ref (ga X.K x))) (hg : Gl X x := by rfl) (hd : (x == ("__debug__" : Str)) = false := by decide +kernel) : IsC X (.Name x p) (.ref (ga X.K x)) :=
  ⟨.ref (ga X.K x), pe_glob hg hm rfl hd, .own _⟩
theorem isi_ (hi : X.mg "isinstance" = none) (hc : IsC X c u) (tb : TbC X.K u f) (he : PE3 X Z W e te) (hg : Gl X "isinstance" := by rfl)
    (he1 : starEach [e, c] X.env = (false, eval e X.env) :: starEach [c] X.env := by rfl) (he2 : starEach [c] X.env = (false, eval c X.env) :: starEach [] X.env := by rfl) (hpl : (backTo pos (starEach [c] X.env)).any (·.1) = false := by rfl) :
    PE3 X Z W (.Call (.Name "isinstance" p) [e, c] [] pos) (tisi f te) := by
  obtain ⟨cv, hc, k⟩ := hc
  refine PE.imp (pe_callB call_isi hg hi (by decide +kernel) (pa_cons he (pa_cons hc pa_nil he2) he1) (by decide) (by decide) he1 hpl) fun σ H Q h => ?_
  obtain ⟨σ3, G, Q3, E3, g, rs, h, qk, x⟩ := h
  refine ⟨σ3, G, _, E3, g, rs, h, fun d G1 v H1 ⟨t, b, h1, h2, h3⟩ g1 r1 k1 => ?_, x⟩
  obtain ⟨t1, t2⟩ := tb t b h2
  exact ⟨v, cv, _, u, b, rfl, k, tyD_ok g1 r1 h1 t2, t1, q_of (qk.keep k1) g1 h3 (.bl b)⟩
theorem kitAny_all (F : IsF X.K OC) : ∀ (Ts : List Bt) (t : Ty3) (b : Bool), isA OC Ts t = some b → PySem.W.kitAny X.K (t.v X.K) (Ts.map fun T => .type T.n) = some b ∧ ∀ c, t = .o c → OwnC X.K c
  | [], t, b, h => by
    cases t with
    | b U =>
      cases h
      exact ⟨kitAny_nil, fun c e => by cases e⟩
    | o c =>
      unfold isA at h
      simp only at h
      split at h
      · rename_i hc
        cases h
        exact ⟨kitAny_nil, fun d e => by cases e; exact F.own c (by simpa using hc)⟩
      · cases h
  | T :: Ts, t, b, h => by
    cases t with
    | b U =>
      cases h
      refine ⟨kitAny_cons (b := decide (U = T) || (decide (U = .bl) && decide (T = .int))) (kit_ty (kitB_all U T)) (fun e => ?_) (fun e => ?_), fun c e => by cases e⟩
      · rw [(kitAny_all F Ts (.b U) _ rfl).1, List.any_cons, e, Bool.false_or]
      · rw [List.any_cons, e, Bool.true_or]
    | o c =>
      unfold isA at h
      simp only at h
      split at h
      · rename_i hc
        cases h
        have hc' : c ∈ OC := by simpa using hc
        refine ⟨kitAny_cons (F.ob c hc' T) (fun _ => (kitAny_all F Ts (.o c) false ?_).1) (fun e => by cases e), fun d e => by cases e; exact F.own c hc'⟩
        unfold isA
        simp only
        rw [if_pos hc]
      · cases h
/-- isinstance(x, (T, U)) -/
theorem isi2_ (F : IsF X.K OC) (T U : Bt) {x y : Str} {k : Nat} {p1 p2 pt : Pos} (hi : X.mg "isinstance" = none) (h1 : X.mg x = none) (h2 : X.mg y = none) (he : PE3 X Z W e te) (hv1 : bootBuiltins x = some (.type T.n) := by decide +kernel) (hv2 : bootBuiltins y = some (.type U.n) := by decide +kernel)
    (hg : Gl X "isinstance" := by rfl) (hg1 : Gl X x := by rfl) (hg2 : Gl X y := by rfl) (hn1 : x ≠ "__name__" := by decide +kernel) (hd1 : (x == ("__debug__" : Str)) = false := by decide +kernel) (hn2 : y ≠ "__name__" := by decide +kernel) (hd2 : (y == ("__debug__" : Str)) = false := by decide +kernel)
    (he1 : starEach [e, .Tuple [.Name x p1, .Name y p2] k pt] X.env = (false, eval e X.env) :: starEach [.Tuple [.Name x p1, .Name y p2] k pt] X.env := by rfl) (hpl : (backTo pos (starEach [.Tuple [.Name x p1, .Name y p2] k pt] X.env)).any (·.1) = false := by rfl) :
    PE3 X Z W (.Call (.Name "isinstance" p) [e, .Tuple [.Name x p1, .Name y p2] k pt] [] pos) (tisi (isA OC [T, U]) te) := by
  refine PE.imp (pe_callB call_isiT hg hi (by decide +kernel) (pa_cons he (pa_cons (pe_tup (pa_cons (pe_bltn (v := .ty T.n) hg1 h1 hv1 rfl hn1 hd1) (pa_cons (pe_bltn (v := .ty U.n) hg2 h2 hv2 rfl hn2 hd2) pa_nil))) pa_nil) he1) (by decide) (by decide) he1 hpl) fun σ H Q h => ?_
  obtain ⟨σ3, G, Q3, E3, g, rs, h, qk, x⟩ := h
  refine ⟨σ3, G, _, E3, g, rs, h, fun d G1 v H1 ⟨t, b, h1, h2, h3⟩ g1 r1 k1 => ?_, x⟩
  obtain ⟨t1, t2⟩ := kitAny_all F [T, U] t b h2
  refine ⟨by show 2 ≤ sizeLine; decide, fun tp n => ?_⟩
  have k2 : Keep G1 H1 G1 (upd H1 tp (.tup [V.ty T.n, V.ty U.n])) := Keep.new n
  refine ⟨v, tp, _, _, _, b, rfl, upd_same, .cons (.ty T.n) (.cons (.ty U.n) .nil), tyD_ok (g1.new n) (r1.keep g1 k2) h1 t2, t1, ?_⟩
  exact q_of (qk.keep (k1.trans k2)) (g1.new n) h3 (.bl b)
end
/-! ### -x -/
def tneg (te : TE3) : TE3 := fun σ G Q E => te σ G (fun x G1 => ∃ i, x = .int i ∧ Q (.int (-i)) G1) E
section
variable {X : Cx} {Z : Zx} {W : WX} {e a b : Expr} {te : TE3} {ta : TA3} {pos : Pos}
theorem neg_ (h : PE3 X Z W e te) : PE3 X Z W (.UnaryOp .USub e pos) (tneg te) := PE.imp (pe_un un_neg h) fun σ H Q h => by
  obtain ⟨σ3, G, Q3, E3, g, rs, h, q, x⟩ := h
  refine ⟨σ3, G, _, E3, g, rs, h, fun d G1 v H1 ⟨i, e, h1⟩ g1 r1 k1 => ?_, x⟩
  subst e
  cases r1
  exact ⟨i, rfl, q_of (q.keep k1) g1 h1 (.int _)⟩
/-! ### a, b = e1, e2 -/
def spar (i j : Nat) (ta : TA3) : TS3 := fun D σ G => ta σ G (fun ds G1 => ∃ v w, ds = [v, w] ∧ D.nx ((σ.set i (some v)).set j (some w)) G1) (fun x G1 => D.ex x σ G1)
theorem par_ (i j : Nat) {x y : Str} {px py pt : Pos} {kt k2 pt2} (hc : X.calm = true) (hN : X.N.Nodup) (ha : PA3 X Z W [a, b] ta) (hi : X.N[i]? = some x := by rfl) (hj : X.N[j]? = some y := by rfl) (hij : i ≠ j := by decide)
    (hx : X.env.scope.names.lookup x = some .local := by rfl) (hy : X.env.scope.names.lookup y = some .local := by rfl)
    (hw : swappedStores [.Tuple [.Name x px, .Name y py] kt pt] (.Tuple [a, b] k2 pt2) X.env = pure (some [x, y]) := by rfl)
    (hs : swapsWithSole [.Tuple [.Name x px, .Name y py] kt pt] (.Tuple [a, b] k2 pt2) pos.line X.env = pure false := by rfl) :
    PS3 X Z W (.Assign [.Tuple [.Name x px, .Name y py] kt pt] (.Tuple [a, b] k2 pt2) pos) (spar i j ta) := PS.imp (ps_par hc hN hi hj hij hx hy ha hw hs) fun D σ H h => by
  obtain ⟨σ3, G, D3, g, rs, h, d⟩ := h
  refine ⟨σ3, G, _, _, g, rs, h, fun ds G1 vs H1 ⟨v, w, e, h1⟩ g1 r1 k1 => ?_, d.exk g rs⟩
  subst e
  cases r1 with
  | cons r1 r2 =>
  cases r2 with
  | cons r2 r3 =>
  cases r3
  exact ⟨_, _, rfl, d.nx _ _ _ _ h1 g1 (((rs.keep g k1).set r1 i).set r2 j) k1⟩
/-- a, b, .. = e -/
def sunp (is : List Nat) (te : TE3) : TS3 := fun D σ G => te σ G (fun x G1 => (Tg.t is).b x σ fun σ' => D.nx σ' G1) (fun x G1 => D.ex x σ G1)
theorem unp_ {tg : Expr} (is : List Nat) (he : PE3 X Z W e te) (hg : PG X tg ((Tg.t is).g X.K)) (hs : swapsWithSole [tg] e pos.line X.env = pure false := by rfl) (hw : swappedStores [tg] e X.env = pure none := by rfl)
    (h1 : (assignEach [tg] X.env).map (·.2) = [assign tg X.env] := by rfl) : PS3 X Z W (.Assign [tg] e pos) (sunp is te) := PS.imp (ps_asg he hg hs hw h1) fun D σ H h => by
  obtain ⟨σ3, G, D3, g, rs, h, d⟩ := h
  refine ⟨σ3, G, _, _, g, rs, h, fun x G1 v H1 h1 g1 r1 k1 => ?_, d.exk g rs⟩
  exact Tg.run (rs.keep g k1) r1 h1 fun σ5 σ6 h5 r5 _ => d.nx _ _ _ _ h5 g1 r5 k1
end
/-! ### attributes -/
def fldD (c f : Str) (G : Gp) : D → Option D
  | .ob c' ns xs => if c' = c then (ns.zip xs).lookup f else none
  | .ref a => (match G a with
    | some (.ins c' fs) => if c' = c then fs.lookup f else none
    | _ => none)
  | _ => none
def put3 (f : Str) (v : D) : List (Str × D) → List (Str × D)
  | [] => [(f, v)]
  | (g, x) :: r => if g = f then (g, v) :: r else (g, x) :: put3 f v r
def tfld (c f : Str) (te : TE3) : TE3 := fun σ G Q E => te σ G (fun x G1 => ∃ d, fldD c f G1 x = some d ∧ Q d G1) E
def sfld (c f : Str) (to tv : TE3) : TS3 := fun D σ G => tv σ G (fun y G1 => to σ G1 (fun x G2 => ∃ a fs, x = .ref a ∧ G2 a = some (.ins c fs) ∧ fs.length < 1000 ∧ D.nx σ (up G2 a (.ins c (put3 f y fs)))) (fun x G1 => D.ex x σ G1)) (fun x G1 => D.ex x σ G1)
section
variable {K : K3} {G : Gp} {H : Hp}
theorem zip_look : ∀ {ns : List Str} {xs : List D} {vs : List V} {f : Str} {d : D}, DvL K G H xs vs → (ns.zip xs).lookup f = some d → ∃ v, (ns.zip vs).lookup f = some v ∧ Dv K G H d v
  | [], _, _, _, _, _, h => by simp at h
  | _ :: _, [], _, _, _, _, h => by simp at h
  | n :: ns, x :: xs, v :: vs, f, d, .cons r t, h => by
    rw [List.zip_cons_cons, List.lookup_cons] at h ⊢
    cases e : f == n with
    | true =>
      rw [e] at h
      cases h
      exact ⟨v, rfl, r⟩
    | false =>
      rw [e] at h
      exact zip_look t h
theorem zip_self : ∀ (fs : List (Str × D)), (fs.map (·.1)).zip (fs.map (·.2)) = fs
  | [] => rfl
  | (a, b) :: r => by simp [zip_self r]
theorem fldD_ok (g : GH K G H) {c f : Str} {x d : D} {v : V} (r : Dv K G H x v) (h : fldD c f G x = some d) : ∃ a dx fs w, v = .ref a ∧ H a = some (.ins (ga K.f c) dx fs) ∧ fs.lookup f = some w ∧ Dv K G H d w := by
  cases r with
  | ob s l n r =>
    unfold fldD at h
    simp only at h
    split at h
    · rename_i e
      subst e
      obtain ⟨w, h1, h2⟩ := zip_look r h
      exact ⟨_, _, _, w, rfl, s, h1, h2⟩
    · cases h
  | ref a =>
    unfold fldD at h
    simp only at h
    split at h
    · rename_i c' fs e
      split at h
      · rename_i ec
        subst ec
        obtain ⟨dx, vs, h2, r⟩ := g a _ e
        rw [← zip_self fs] at h
        obtain ⟨w, h3, h4⟩ := zip_look r h
        exact ⟨_, _, _, w, rfl, h2, h3, h4⟩
      · cases h
    · cases h
  | _ => cases h
theorem put_ok {f : Str} {y : D} {w : V} (rw' : Dv K G H y w) : ∀ {fs : List (Str × D)} {vs : List V}, DvL K G H (fs.map (·.2)) vs → ∃ us, putF f w ((fs.map (·.1)).zip vs) = ((put3 f y fs).map (·.1)).zip us ∧ DvL K G H ((put3 f y fs).map (·.2)) us
  | [], [], .nil => ⟨[w], rfl, .cons rw' .nil⟩
  | (n, x) :: fs, v :: vs, .cons r t => by
    by_cases e : n = f
    · subst e
      refine ⟨w :: vs, ?_, ?_⟩
      · simp [put3, putF]
      · simp only [put3, if_pos]; exact .cons rw' t
    · obtain ⟨us, h1, h2⟩ := put_ok (f := f) rw' t
      refine ⟨v :: us, ?_, ?_⟩
      · simp [put3, putF, e, h1]
      · simp only [put3, e, if_false]; exact .cons r h2
end
section
variable {X : Cx} {Z : Zx} {W : WX} {e o : Expr} {te to tv : TE3} {pos pos' : Pos} {c f : Str}
theorem fld_ (c : Str) (cl : Cls X.K (ga X.K c)) (na : NoAttr X.K (ga X.K c) f) (h : PE3 X Z W e te) (hb : attributeBase e f X.env (eval e X.env) = eval e X.env := by rfl) : PE3 X Z W (.Attribute e f pos) (tfld c f te) := PE.imp (pe_fld h hb) fun σ H Q h => by
  obtain ⟨σ3, G, Q3, E3, g, rs, h, q, x⟩ := h
  refine ⟨σ3, G, _, E3, g, rs, h, fun x G1 v H1 ⟨d, e, h1⟩ g1 r1 k1 => ?_, x⟩
  obtain ⟨a, dx, fs, w, ea, eH, el, rw'⟩ := fldD_ok g1 r1 e
  exact ⟨a, _, dx, fs, w, ea, eH, cl, na, el, q_of (q.keep k1) g1 h1 rw'⟩
theorem sfld_ (c : Str) (cl : Cls X.K (ga X.K c)) (na : NoAttr X.K (ga X.K c) f) (ho : PE3 X Z W o to) (hv : PE3 X Z W e tv) (hs : swapsWith e (some (.Attribute o f pos')) pos.line X.env = pure false := by rfl) :
    PS3 X Z W (.Assign [.Attribute o f pos'] e pos) (sfld c f to tv) := PS.imp (ps_fld ho hv hs) fun D σ H h => by
  obtain ⟨σ3, G, D3, g, rs, h, d⟩ := h
  refine ⟨σ3, G, _, _, g, rs, h, fun y G1 v H1 h1 g1 r1 k1 => ?_, d.exk g rs⟩
  refine ⟨σ3, G1, _, _, g1, rs.keep g k1, h1, fun x G2 u H2 ⟨a, fs, ex, eG, l, h2⟩ g2 r2 k2 => ?_, (d.keep k1).exk g1 (rs.keep g k1)⟩
  subst ex
  cases r2
  obtain ⟨dx, vs, eH, r⟩ := g2 a _ eG
  obtain ⟨us, h3, h4⟩ := put_ok (f := f) (r1.keep g1 k2) r
  refine ⟨a, _, dx, _, rfl, eH, cl, na, ?_, ?_⟩
  · rw [List.length_zip, List.length_map, ← r.length, List.length_map]; omega
  · rw [h3]
    exact d.nx _ _ _ _ h2 (g2.set eG ⟨dx, us, upd_same, h4.keep g2 (Keep.set eG)⟩) (((rs.keep g k1).keep g1 k2).keep g2 (Keep.set eG)) ((k1.trans k2).trans (Keep.set eG))
end
/-! ### an instance is made -/
/-- a method, __init__: its own function -/
structure Mn3 (P : Program) (w : World) (K : PySem.W.Frag) (mg : Str → Option Value) (base : Heap) (f : Addr) (j : Nat) (sp : Sp3) : Prop where
  ex : ∃ (fd : FuncData) (ps : List Str), Binds K fd ps [] ∧ FnOk P w K mg base (L2.CX P w) j f fd ps (liftSp ⟨K, Z0⟩ sp)
def tmk (c : Str) (sp : Sp3) (ta : TA3) : TE3 := fun σ G Q E => ta σ G (fun ds G1 => ∀ a, G1 a = none → sp (.ref a :: ds) (up G1 a (.ins c [])) (fun d G2 => d = .non ∧ Q (.ref a) G2) E) E
section
variable {X : Cx} {Z : Zx} {W : WX} {e : Expr} {es : List Expr} {ta : TA3} {pos p : Pos} {x : Str}
def tMakeS (C : Addr) (sp : Sp) (E : St → XK) (t : TA) : TE := fun σ H Q => t σ H fun vs H1 => ∀ x dx, H1 x = none → H1 dx = none → dx ≠ x →
  sp (.ref x :: vs) (upd (upd H1 dx (.own x)) x (.ins C dx [])) (fun v H2 => v = .non ∧ Q (.ref x) H2) (E σ)
theorem run_makeS {CX : CXT} {k : Nat} {f C : Addr} {fd : FuncData} {ps : List Str} {sp : Sp} {E : XK} {pins : List (Addr × Obj)} {σ : St} {H : Hp} {s : Shared} {Q : VK} {us : List Value} {vs : List V} (M : Mk X.K C f) (F : FnOk X.prog X.w X.K X.mg X.base CX k f fd ps sp) (hr : Room (k + 1) X.A) (hb : Binds X.K fd ps [])
    (hx : PassesAt CX X σ E) (I : Inv X pins σ H s) (r : Vals vs us)
    (h : ∀ x dx, H x = none → H dx = none → dx ≠ x → sp (.ref x :: vs) (upd (upd H dx (.own x)) x (.ins C dx [])) (fun v H2 => v = .non ∧ Q (.ref x) H2) E) :
    wpAny (model X.prog X.w) X.A (call (.ref C) us) (EP X pins σ Q) X.xe s := by
  have hq := h (s.heap.objs.size + 1) s.heap.objs.size (I.hok.fresh (Nat.le_succ _)) (I.hok.fresh (Nat.le_refl _)) (Nat.ne_of_lt (Nat.lt_succ_self _))
  have I2 := Inv.made (C := C) I
  have r2 : Vals (V.ref (s.heap.objs.size + 1) :: vs) (Value.ref (s.heap.objs.size + 1) :: us) := .cons rfl r
  have hl : (Value.ref (s.heap.objs.size + 1) :: us ++ []).length = ps.length := by
    have e := r2.length
    rw [F.len _ _ _ _ hq] at e
    simpa using e.symm
  have hb2 := hb _ (Value.ref (s.heap.objs.size + 1) :: us) I2.kIn hl
  rw [List.append_nil] at hb2
  refine wpAny_call (make_map (f := f) I.kIn M.makes M.init (beq_iff_eq.mp M.fn) (codeAny_mono (F.run _ X.stack _ _ ⟨Value.ref (s.heap.objs.size + 1) :: us, []⟩ (Value.ref (s.heap.objs.size + 1) :: us) _ _ E (hr.make C us [])
    (I2.env0.make C us []) hb2 r2 hq) fun r s' hq' => ?_))
  cases r with
  | error e => exact hx pins _ _ e s' I2 hq'
  | ok fl =>
    cases fl with
    | ret u =>
      obtain ⟨v, H', I3, rv, ev, q3⟩ := I2.after hq'
      subst ev
      exact ⟨rv, ⟨V.ref (s.heap.objs.size + 1), H', I3, rfl, q3⟩⟩
    | next => exact False.elim hq'
    | brk => exact False.elim hq'
    | cont => exact False.elim hq'
theorem pe_makeS {CX : CXT} {k : Nat} {f C : Addr} {fd : FuncData} {ps : List Str} {sp : Sp} {E : St → XK} {t : TA} (M : Mk X.K C f) (F : FnOk X.prog X.w X.K X.mg X.base CX k f fd ps sp) (hr : Room (k + 1) X.A) (hg : Gl X x) (hm : X.mg x = some (.ref C)) (hb : Binds X.K fd ps []) (hx : ∀ σ, PassesAt CX X σ (E σ))
    (ha : PA X (e :: es) t) (hdb : (x == ("__debug__" : Str)) = false := by decide) (he : starEach (e :: es) X.env = (false, eval e X.env) :: starEach es X.env := by rfl) (hpl : (backTo pos (starEach es X.env)).any (·.1) = false := by rfl) :
    PE X (.Call (.Name x p) (e :: es) [] pos) (tMakeS C sp E t) := by
  refine ⟨fun pins s σ H Q I h => ?_⟩
  refine wpAny_Call_Name_kw (ld_glob I hg hm ?_ hdb)
  refine PySem.W.callWith_K (h₀ := X.base) I.ok.mod.kin M.kp (thn (ha.run pos pins s σ H _ I h) fun us s1 ⟨vs, H1, I1, r, q⟩ => ⟨I1.kIn, ?_⟩) he hpl
  exact run_makeS M F hr hb (hx σ) I1 r q
theorem mk_ {j k : Nat} {sp : Sp3} {f : Addr} (M : Mk X.K (ga X.K x) f) (F : Mn3 X.prog X.w X.K X.mg X.base f j sp) (hm : X.mg x = some (.ref (ga X.K x))) (hr : Room (k + 1) X.A) (hj : j ≤ k) (tk : Takes X W) (ha : PA3 X Z0 W (e :: es) ta) (hg : Gl X x := by rfl) (hdb : (x == ("__debug__" : Str)) = false := by decide +kernel)
    (he : starEach (e :: es) X.env = (false, eval e X.env) :: starEach es X.env := by rfl) (hpl : (backTo pos (starEach es X.env)).any (·.1) = false := by rfl) : PE3 X Z0 W (.Call (.Name x p) (e :: es) [] pos) (tmk x sp ta) := by
  obtain ⟨fd, ps, hb, F⟩ := F.ex
  refine PE.imp (pe_makeS (M := M) F (hr.mono (Nat.succ_le_succ hj)) hg hm hb (fun σ => passAt tk σ) ha hdb he hpl) fun σ H Q h => ?_
  obtain ⟨σ3, G, Q3, E3, g, rs, h, q, xk⟩ := h
  refine ⟨σ3, G, _, E3, g, rs, h, fun ds G1 vs H1 h1 g1 r1 k1 => fun a dx na nd ne => ?_, xk⟩
  have n2 : upd H1 dx (.own a) a = none := by rw [upd_ne (Ne.symm ne)]; exact na
  have ka : Keep G1 H1 G1 (upd H1 dx (.own a)) := Keep.new nd
  have kb := Keep.newG (G := G1) (H := upd H1 dx (.own a)) (o := .ins (ga X.K x) dx []) (u := .ins x []) n2
  have gb := (g1.new (o := .own a) nd).newG (p := a) (o := .ins (ga X.K x) dx []) (u := .ins x []) n2 ⟨dx, [], upd_same, .nil⟩
  have kk := ka.trans kb
  refine ⟨.ref a :: ds, up G1 a (.ins x []), _, E3, gb, .cons (.ref a) (r1.keep g1 kk), h1 a (g1.free na), fun d G2 v H2 ⟨h2, h3⟩ g2 r2 k2 => ?_, xk.keep (k1.trans kk)⟩
  subst h2
  cases r2
  exact ⟨rfl, q _ _ _ _ h3 g2 (.ref a) ((k1.trans kk).trans k2)⟩
end
end L3
namespace L3
open PySem PySem.Spec PyProof.Rows L2
open He (ga)
def sdead : TS3 := fun _ _ _ => False
section
variable {X : Cx} {Z : Zx} {W : WX} {pos : Pos}
/-- {} -/
theorem emp_ : PE3 X Z W (.Dict [] [] pos) (tc .emp) := PE.imp pe_dnewK fun σ H Q h => by
  obtain ⟨σ3, G, Q3, E3, g, rs, h, q, x⟩ := h
  exact fun p n => q _ _ _ _ h (g.new n) (.emp upd_same (g.free n)) (Keep.new n)
theorem cgi_ {x : Str} {i : Int} (hm : ∃ t, X.mg x = some (.int i t)) (hg : Gl X x := by rfl) (hd : (x == ("__debug__" : Str)) = false := by decide +kernel) : PE3 X Z W (.Name x pos) (tc (.int i)) := by
  obtain ⟨t, hm⟩ := hm
  exact cg_ (v := .int i) hm ⟨t, rfl⟩ (fun _ _ => .int i) hg hd
theorem cgs_ {x z : Str} (hm : ∃ t, X.mg x = some (.str z t)) (hg : Gl X x := by rfl) (hd : (x == ("__debug__" : Str)) = false := by decide +kernel) : PE3 X Z W (.Name x pos) (tc (.str z)) := by
  obtain ⟨t, hm⟩ := hm
  exact cg_ (v := .str z) hm ⟨t, rfl⟩ (fun _ _ => .str z) hg hd
end
section
variable {P : Program} {w : World} {K : PySem.W.Frag} {mg : Str → Option Value} {base : Heap} {N : List Str} {qual : Str} {scope : Scope} {f : Addr} {cdv : Value} {A : Around} {outer : List Env} {s : Shared} {H : Hp} {E : XK}
theorem tk_of : Takes (cxOf (L2.CX P w) P w K mg base N qual scope f cdv A outer s H E) (fun c d _ H' => E c d H') := takes_of rfl rfl rfl rfl
theorem pas_of : PassesOwn (model P w) (cxOf (L2.CX P w) P w K mg base N qual scope f cdv A outer s H E).A (cxOf (L2.CX P w) P w K mg base N qual scope f cdv A outer s H E).env (cxOf (L2.CX P w) P w K mg base N qual scope f cdv A outer s H E).xe :=
  passes_of (X := cxOf (L2.CX P w) P w K mg base N qual scope f cdv A outer s H E) (K := CX P w outer H s E) rfl
end
/-! ### loops by invariants -/
theorem forL_inv {t : Tg} {tb : TS3} {E : Ends3} {gd : Gp → Prop} {xs : List D} (I : Nat → St3 → Gp → Prop)
    (step : ∀ (k : Nat) (x : D) σ G (N : St3 → Gp → Prop), xs[k]? = some x → I k σ G → (∀ σ G, I (k + 1) σ G → N σ G) → gd G ∧ t.b x σ fun σ' => tb { E with nx := N, ct := N, bk := E.nx } σ' G)
    (fin : ∀ σ G, I xs.length σ G → gd G ∧ E.nx σ G) {σ : St3} {G : Gp} (h : I 0 σ G) : forL t tb E gd xs σ G := by
  have key : ∀ (n k : Nat) σ G, n + k = xs.length → I k σ G → forL t tb E gd (xs.drop k) σ G := by
    intro n
    induction n with
    | zero =>
      intro k σ G e h
      have e : k = xs.length := by omega
      subst e
      rw [List.drop_length]
      exact fin σ G h
    | succ n ih =>
      intro k σ G e h
      have lt : k < xs.length := by omega
      rw [List.drop_eq_getElem_cons lt]
      exact step k xs[k] σ G _ (by simp [lt]) h fun σ G h => ih (k + 1) σ G (by omega) h
  simpa using key xs.length 0 σ G (by omega) h
theorem whN_inv {tc : TT3} {tb : TS3} {D : Ends3} (I : Nat → St3 → Gp → Prop)
    (step : ∀ (n : Nat) σ G (N : St3 → Gp → Prop), I n σ G → (∀ m σ G, m < n → I m σ G → N σ G) → tc σ G (fun b G1 => if b = true then tb { D with nx := N, ct := N, bk := D.nx } σ G1 else D.nx σ G1) (fun x G1 => D.ex x σ G1))
    {n : Nat} {σ : St3} {G : Gp} (h : I n σ G) : swhile tc tb D σ G := by
  have key : ∀ (f n : Nat) σ G, n < f → I n σ G → whN tc tb D f σ G := by
    intro f
    induction f with
    | zero => intro n σ G l; omega
    | succ f ih =>
      intro n σ G l h
      exact step n σ G _ h fun m σ G l2 h2 => ih m σ G (by omega) h2
  exact ⟨n + 1, key (n + 1) n σ G (by omega) h⟩
end L3
namespace L3
open PySem PySem.Spec PyProof.Rows L2
open He (ga)
/-! ### for the plain part -/
theorem dn_refl {Q : QK} {d : D} {G : Gp} (h : Q d G) : dn Q d G := ⟨G, Sub.refl, h⟩
theorem ite_b {c : Bool} {A B : Prop} (h1 : c = true → A) (h2 : c = false → B) : if c = true then A else B := by
  cases c with
  | true => exact h1 rfl
  | false => exact h2 rfl
theorem sseq_cut {t u : TS3} {D : Ends3} {σ : St3} {G : Gp} (I : St3 → Gp → Prop) (h1 : ∀ N : St3 → Gp → Prop, (∀ σ G, I σ G → N σ G) → t { D with nx := N } σ G) (h2 : ∀ σ G, I σ G → u D σ G) : sseq t u D σ G := h1 _ h2
theorem sq_ref {G : Gp} {p : Addr} {xs : List D} (h : G p = some (.lst xs)) : sq G (.ref p) = some xs := by
  unfold sq; simp only; rw [h]
theorem lq_ref {G : Gp} {p : Addr} {xs : List D} (h : G p = some (.lst xs)) : lq G (.ref p) = some xs := by
  unfold lq; simp only; rw [h]
theorem mq_ref {G : Gp} {p : Addr} {xs : List D} (h : G p = some (.lst xs)) : mq G (.ref p) = some xs := by
  unfold mq; simp only; rw [h]
theorem isL_ref {G : Gp} {p : Addr} {xs : List D} (h : G p = some (.lst xs)) : isL (.ref p) G := ⟨xs, lq_ref h⟩
theorem ixn_ok {n : Nat} (k : Nat) (h : k < n) : ixN n (k : Int) = some k := by
  unfold ixN; simp; omega
theorem ixi_ok {n : Nat} {i : Int} (h0 : 0 ≤ i) (h : i < n) : ixN n i = some i.toNat := by
  have := ixn_ok (n := n) i.toNat (by omega)
  rwa [Int.toNat_of_nonneg h0] at this
theorem at_ok {α : Type} {xs : List α} {i : Int} (h0 : 0 ≤ i) (h : i < xs.length) : ∃ x, atI xs i = some x ∧ x ∈ xs := by
  refine ⟨xs[i.toNat]'(by omega), ?_, by simp⟩
  unfold atI
  rw [ixi_ok h0 h]
  simp
theorem at_get {α : Type} {xs : List α} {i : Int} {d : α} (h0 : 0 ≤ i) (h : xs[i.toNat]? = some d) : atI xs i = some d := by
  have : i.toNat < xs.length := (List.getElem?_eq_some_iff.mp h).1
  unfold atI
  rw [ixi_ok h0 (by omega)]
  exact h
theorem ne_new {G : Gp} {h p : Addr} {o : GO} (e : G h = some o) (n : G p = none) : p ≠ h := fun z => by rw [z, e] at n; cases n
/-- a known thing: isinstance can be asked -/
def kn (OC : List Str) : D → Bool
  | .ob c _ _ => OC.contains c
  | .ref _ => false
  | .ex _ => false
  | .exf _ _ _ => false
  | .fn _ => false
  | .lam _ _ _ _ _ => false
  | _ => true
def isiD (T : Bt) : D → Bool
  | .non => decide (T = .non)
  | .bl _ => decide (T = .bl) || decide (T = .int)
  | .int _ => decide (T = .int)
  | .str _ => decide (T = .str)
  | .tup _ => decide (T = .tup)
  | .fl _ => decide (T = .lst)
  | .sl _ => decide (T = .lst)
  | .emp => decide (T = .dic)
  | _ => false
theorem isi_use {OC : List Str} {T : Bt} {x : D} {G : Gp} {P : Bool → Prop} (k : kn OC x = true) (h : P (isiD T x)) : ∃ t b, tyD G x = some t ∧ isT OC T t = some b ∧ P b := by
  cases x <;> first | (simp [kn] at k; done) | skip
  all_goals first
    | (refine ⟨_, _, rfl, rfl, ?_⟩; cases T <;> exact h)
    | (refine ⟨_, false, rfl, ?_, h⟩; unfold isT; simp only; unfold kn at k; rw [if_pos k])
theorem isa_use {OC : List Str} {Ts : List Bt} {x : D} {G : Gp} {P : Bool → Prop} (k : kn OC x = true) (h : P (Ts.any fun T => isiD T x)) : ∃ t b, tyD G x = some t ∧ isA OC Ts t = some b ∧ P b := by
  cases x <;> first | (simp [kn] at k; done) | skip
  all_goals first
    | (refine ⟨_, _, rfl, rfl, ?_⟩
       have e : ∀ (U : Bt) (f : Bt → Bool), (∀ T, (decide (U = T) || (decide (U = .bl) && decide (T = .int))) = f T) → (Ts.any fun T => decide (U = T) || (decide (U = .bl) && decide (T = .int))) = Ts.any f := fun U f z => congrArg (Ts.any ·) (funext z)
       rw [e _ _ ?_]; exact h; intro T; cases T <;> rfl)
    | (refine ⟨_, false, rfl, ?_, ?_⟩
       · unfold isA; simp only; unfold kn at k; rw [if_pos k]
       · have : ∀ c ns xs, (Ts.any fun T => isiD T (.ob c ns xs)) = false := fun c ns xs => by simp [isiD]
         rw [this] at h; exact h)
theorem iso_use {OC : List Str} {C : Str} {x : D} {G : Gp} {P : Bool → Prop} (k : kn OC x = true) (h : P (match x with | .ob c _ _ => c == C | _ => false)) : ∃ t b, tyD G x = some t ∧ isO OC C t = some b ∧ P b := by
  cases x <;> first | (simp [kn] at k; done) | skip
  all_goals first
    | exact ⟨_, _, rfl, rfl, h⟩
    | (refine ⟨_, _, rfl, ?_, h⟩; unfold isO; simp only; unfold kn at k; rw [if_pos k])
theorem bls_map {α : Type} (xs : List α) (g : α → Bool) : blsD (xs.filterMap fun x => some (D.bl (g x))) = some (xs.map g) := by
  induction xs with
  | nil => rfl
  | cons x xs ih =>
    rw [List.filterMap_cons]
    simp only [blsD, ih, List.map_cons, Option.map_some]
end L3
namespace L3
open PySem PySem.Spec PyProof.Rows L2
open He (ga)
theorem fz_ins {G : Gp} {a : Addr} {c : Str} {fs : List (Str × D)} {Q : QK} (h : G a = some (.ins c fs)) (q : Q (.ob c (fs.map (·.1)) (fs.map (·.2))) (dl G a)) : fz (.ref a) G Q := by
  unfold fz; simp only; rw [h]; exact q
theorem fz_lst {G : Gp} {a : Addr} {xs : List D} {Q : QK} (h : G a = some (.lst xs)) (q : Q (.fl xs) (dl G a)) : fz (.ref a) G Q := by
  unfold fz; simp only; rw [h]; exact q
theorem cutD_len {α : Type} {xs : List α} {lo hi : Option Int} : (L3.cutD xs lo hi).length ≤ xs.length := by
  unfold L3.cutD
  rw [List.length_take, List.length_drop]; omega
theorem cutD_mem {α : Type} {xs : List α} {lo hi : Option Int} {x : α} (h : x ∈ L3.cutD xs lo hi) : x ∈ xs := by
  unfold L3.cutD at h
  exact List.mem_of_mem_drop (List.mem_of_mem_take h)
end L3
namespace L3
open PySem PySem.Spec PyProof.Rows L2
open He (ga)
theorem dvl_ints {K : K3} {G : Gp} {H : Hp} : ∀ ns : List Int, DvL K G H (ns.map D.int) (ns.map V.int)
  | [] => .nil
  | i :: r => .cons (.int i) (dvl_ints r)
/-- THE END of a law -/
theorem walk3 {l : PySem.W.OpenLaw} {n k : Nat} {q : Program} {loose : List Str} {XP : (Str → Option Value) → Heap → Prop} {YP : World → Heap → Prop} {d : DefRec} {x : Str} {sp : Sp3}
    (hn : l.most = some n) (hn2 : n ≤ sizeLine) (hdf : d.params.defaults = []) (hr : Room k callerA)
    (F : ∀ (w : World) (mg : Str → Option Value) (fa : Addr) (h : Heap), YP w h → h.Ns mainGlobals mg → mg d.name = some (.ref fa) →
      ∃ (K : PySem.W.Frag) (fd : FuncData), K.In h ∧ (∀ (s : Shared) (u : Value), BindsTo s fd ⟨[u], []⟩ [(x, u)]) ∧
        ∀ base : Heap, K.In base → base.Ns mainGlobals mg → FnOk l.prog w K mg base (L2.CX l.prog w) k fa fd [x] (liftSp ⟨K, Z0⟩ sp))
    (hsp : ∀ (ns : List Int) (Q : QK) (E : EK), ns.length ≤ n → (∀ G, Q (.bl true) G) → sp [.sl (ns.map D.int)] (fun _ => none) Q E) :
    PySem.W.WalkO q loose XP YP l.row.toRowW d [] (fun f vs => PySem.call f vs) := by
  refine Att.attach_call hn hdf fun w s₀ s₁ mg mb fa o pm cd doc a vs ns G Y ho hd hcd hmg hobj hints hlen hg => ?_
  obtain ⟨K, fd, KX, hb, hF⟩ := F w mg fa _ Y G.T.g hmg
  refine law_call KX G.T.g G.T.b G.T.builtins G.T.nolimit hg hobj hints (Nat.le_trans hlen hn2) hr hF hb (fun H hO hS => ?_) fun H e s' hx => ?_
  · have g0 : GH ⟨K, Z0⟩ (fun _ => none) H := fun a o h => by cases h
    exact ⟨[.sl (ns.map D.int)], fun _ => none, fun d _ => d = .bl true, fun _ _ => False, g0, .cons (.sl (SqF.of g0 hS rfl) (dvl_ints ns)) .nil, hsp ns _ _ hlen fun _ => rfl,
      fun d G' v H' h g r k => by subst h; cases r; rfl, fun _ _ _ _ _ z => z.elim⟩
  · obtain ⟨_, _, _, _, _, _, _, _, _, _, _, _, z⟩ := hx
    exact z
end L3
namespace L3
open PySem PySem.Spec PyProof.Rows L2
open He (ga)
/-! ### {k: v}, a dict that is only asked for its kind -/
def tdic1 (te : TE3) : TE3 := fun σ G Q E => ∀ p, G p = none → te σ (up G p (.dic [])) (fun _ G1 => G1 p = some (.dic []) ∧ Q .emp (dl G1 p)) E
section
variable {X : Cx} {Z : Zx} {W : WX} {e : Expr} {te : TE3} {pos p1 : Pos} {i : Int} {j : Nat}
theorem dic1_ (h : PE3 X Z W e te) : PE3 X Z W (.Dict [some (.Constant (.int i) j p1)] [e] pos) (tdic1 te) := PE.imp (pe_disp (pps_cons (tk := tC (.int i)) pe_int h pps_nil) rfl rfl (by simp) (by show 1 ≤ 15; decide)) fun σ H Q hq => by
  obtain ⟨σ3, G, Q3, E3, g, rs, h, q, x⟩ := hq
  intro p n
  have kp := Keep.newG (G := G) (H := H) (o := .dK []) (u := .dic []) n
  have gp := g.newG (p := p) (o := .dK []) (u := .dic []) n ⟨[], upd_same, .nil⟩
  refine ⟨σ3, up G p (.dic []), _, E3, gp, rs.keep g kp, h p (g.free n), fun d G1 v H1 ⟨e1, h1⟩ g1 r1 k1 => ?_, x.keep kp⟩
  obtain ⟨vs, e2, r2⟩ := g1 p _ e1
  cases r2
  refine ⟨e2, [(Sum.inl i, v)], rfl, by show 1 ≤ 15; decide, ?_⟩
  show Q (.ref p) (upd H1 p (.dK [(Sum.inl i, v)]))
  have g2 : GH (Cxk X Z) (up G1 p (.dic [(Sum.inl i, d)])) (upd H1 p (.dK [(Sum.inl i, v)])) := g1.set e1 ⟨[v], upd_same, .cons (r1.keep g1 (Keep.set e1)) .nil⟩
  have k2 : Keep G1 H1 (up G1 p (.dic [(Sum.inl i, d)])) (upd H1 p (.dK [(Sum.inl i, v)])) := Keep.set e1
  have e3 : dl (up G1 p (.dic [(Sum.inl i, d)])) p = dl G1 p := by
    funext b; unfold dl up; split
    · rfl
    · rfl
  have g3 : GH (Cxk X Z) (dl G1 p) (upd H1 p (.dK [(Sum.inl i, v)])) := by rw [← e3]; exact g2.sub Sub.dl
  have k3 : Keep (up G1 p (.dic [(Sum.inl i, d)])) (upd H1 p (.dK [(Sum.inl i, v)])) (dl G1 p) (upd H1 p (.dK [(Sum.inl i, v)])) := by rw [← e3]; exact Keep.sub Sub.dl
  exact q _ _ _ _ h1 g3 (.emp upd_same dl_same) (((kp.trans k1).trans k2).trans k3)
/-! ### list(range(n)) -/
def tlrg (m : Bool) (ta : TE3) : TE3 := fun σ G Q E => ta σ G (fun x G1 => ∃ n : Int, x = .int n ∧ RgOk 0 n ∧ outL m ((List.range n.toNat).map fun (i : Nat) => D.int i) G1 Q) E
theorem dvl_rg {K : K3} {G : Gp} {H : Hp} (n : Int) : DvL K G H ((List.range n.toNat).map fun (i : Nat) => D.int i) (rgV 0 n) := by
  unfold rgV
  rw [Int.sub_zero]
  have : ∀ l : List Nat, DvL K G H (l.map fun (i : Nat) => D.int i) (l.map fun i => V.int (0 + (i : Nat))) := by
    intro l
    induction l with
    | nil => exact .nil
    | cons a l ih =>
      refine .cons ?_ ih
      show Dv K G H (.int a) (.int (0 + (a : Int)))
      rw [Int.zero_add]
      exact .int _
  exact this _
theorem lrg_ (m : Bool) {a : Expr} {ta : TE3} {p p2 : Pos} (hc : X.calm = true) (hl : X.mg "list" = none) (hr : X.mg "range" = none) (ha : PE3 X Z W a ta) (hg : Gl X "list" := by rfl) (hg2 : Gl X "range" := by rfl)
    (na : starEach [.Call (.Name "range" p2) [a] [] p1] X.env = (false, eval (.Call (.Name "range" p2) [a] [] p1) X.env) :: starEach [] X.env := by rfl) (na2 : starEach [a] X.env = (false, eval a X.env) :: starEach [] X.env := by rfl) :
    PE3 X Z W (.Call (.Name "list" p) [.Call (.Name "range" p2) [a] [] p1] [] pos) (tlrg m ta) := PE.imp (pe_listRg hc hg hl (prg_1 hg2 hr ha na2) na) fun σ H Q hq => by
  obtain ⟨σ3, G, Q3, E3, g, rs, h, q, x⟩ := hq
  refine ⟨σ3, G, _, E3, g, rs, h, fun d G1 v H1 ⟨n, e1, ok, h1⟩ g1 r1 k1 => ?_, x⟩
  subst e1
  cases r1
  exact ⟨n, rfl, ok, fun p np => outL_ok m g1 (dvl_rg n) (q.keep k1) h1 np⟩
end
/-! ### a[i], b[j] = e -/
def sswp (o1 i1 o2 i2 te : TE3) (t u : QS) : TS3 := fun E σ G => te σ G (fun x G1 => ∃ d1 d2, x = .tup [d1, d2] ∧
  o1 σ G1 (fun o G2 => i1 σ G2 (fun i G3 => t o i d1 G3 fun G4 => o2 σ G4 (fun o G5 => i2 σ G5 (fun i G6 => u o i d2 G6 fun G7 => E.nx σ G7) (fun x G1 => E.ex x σ G1)) (fun x G1 => E.ex x σ G1)) (fun x G1 => E.ex x σ G1)) (fun x G1 => E.ex x σ G1)) (fun x G1 => E.ex x σ G1)
section
variable {X : Cx} {Z : Zx} {W : WX} {a1 b1 a2 b2 e : Expr} {o1 i1 o2 i2 te : TE3} {t u : QS} {pt1 pt2 pt pos : Pos} {k : Nat}
theorem swp_ (hc : X.calm = true) (hs : PSet3 X Z t) (hs2 : PSet3 X Z u) (ho : PE3 X Z W a1 o1) (hi : PE3 X Z W b1 i1) (ho2 : PE3 X Z W a2 o2) (hi2 : PE3 X Z W b2 i2) (he : PE3 X Z W e te)
    (ha : ∀ v, assign (.Subscript a1 b1 pt1) X.env v = (do
      let ov ← holding [v] (eval a1 X.env)
      let iv ← holding [v, ov] (eval b1 X.env)
      standAt pt1
      holding [v, ov, iv] (setItem ov iv v)
      release [v, ov, iv] []) := by intro _; rfl)
    (ha2 : ∀ v, assign (.Subscript a2 b2 pt2) X.env v = (do
      let ov ← holding [v] (eval a2 X.env)
      let iv ← holding [v, ov] (eval b2 X.env)
      standAt pt2
      holding [v, ov, iv] (setItem ov iv v)
      release [v, ov, iv] []) := by intro _; rfl)
    (hsw : swapsWithSole [.Tuple [.Subscript a1 b1 pt1, .Subscript a2 b2 pt2] k pt] e pos.line X.env = pure false := by rfl) (hw : swappedStores [.Tuple [.Subscript a1 b1 pt1, .Subscript a2 b2 pt2] k pt] e X.env = pure none := by rfl)
    (h1 : (assignEach [.Tuple [.Subscript a1 b1 pt1, .Subscript a2 b2 pt2] k pt] X.env).map (·.2) = [assign (.Tuple [.Subscript a1 b1 pt1, .Subscript a2 b2 pt2] k pt) X.env] := by rfl)
    (hn : (assignEach [.Subscript a1 b1 pt1, .Subscript a2 b2 pt2] X.env).length = 2 := by rfl) (hst : (assignEach [.Subscript a1 b1 pt1, .Subscript a2 b2 pt2] X.env).findIdx? (·.1) = none := by rfl)
    (hs3 : (assignEach [.Subscript a1 b1 pt1, .Subscript a2 b2 pt2] X.env).map (·.2) = assign (.Subscript a1 b1 pt1) X.env :: (assignEach [.Subscript a2 b2 pt2] X.env).map (·.2) := by rfl)
    (hs4 : (assignEach [.Subscript a2 b2 pt2] X.env).map (·.2) = assign (.Subscript a2 b2 pt2) X.env :: (assignEach [] X.env).map (·.2) := by rfl) :
    PS3 X Z W (.Assign [.Tuple [.Subscript a1 b1 pt1, .Subscript a2 b2 pt2] k pt] e pos) (sswp o1 i1 o2 i2 te t u) := by
  obtain ⟨r, hs, kk⟩ := hs
  obtain ⟨r2, hs2, kk2⟩ := hs2
  refine PS.imp (ps_asg he (pg_tup (n := 2) hc (pgs_cons (pg_sub ho hi hs ha) (pgs_cons (pg_sub ho2 hi2 hs2 ha2) pgs_nil hs4) hs3) hn hst) hsw hw h1) fun D σ H h => ?_
  obtain ⟨σ3, G, D3, g, rs, h, d⟩ := h
  refine ⟨σ3, G, _, _, g, rs, h, fun x G1 v H1 ⟨d1, d2, ex, h1⟩ g1 rx k1 => ?_, d.exk g rs⟩
  subst ex
  cases rx with
  | tup s r =>
  cases r with
  | cons r1 r =>
  cases r with
  | cons r2' r =>
  cases r
  rename_i a v1 v2
  refine ⟨a, [v1, v2], rfl, s, rfl, v1, [v2], rfl, ?_⟩
  have rsA := rs.keep g k1
  have dA := d.keep k1
  refine ⟨σ3, G1, _, _, g1, rsA, h1, fun o G2 ov H2 h2 g2 ro k2 => ?_, dA.exk g1 rsA⟩
  have rsB := rsA.keep g1 k2
  have dB := dA.keep k2
  refine ⟨σ3, G2, _, _, g2, rsB, h2, fun i G3 iv H3 h3 g3 ri k3 => ?_, dB.exk g2 rsB⟩
  have rsC := rsB.keep g2 k3
  have dC := dB.keep k3
  have kC := (k1.trans k2).trans k3
  refine kk G3 H3 o i d1 ov iv v1 _ _ g3 (ro.keep g2 k3) ri ((r1.keep g1 k2).keep g2 k3) h3 fun G4 H4 h4 g4 k4 => ?_
  have rsD := rsC.keep g3 k4
  have dD := dC.keep k4
  refine ⟨v2, [], rfl, σ3, G4, _, _, g4, rsD, h4, fun o' G5 ov' H5 h5 g5 ro' k5 => ?_, dD.exk g4 rsD⟩
  have rsE := rsD.keep g4 k5
  have dE := dD.keep k5
  refine ⟨σ3, G5, _, _, g5, rsE, h5, fun i' G6 iv' H6 h6 g6 ri' k6 => ?_, dE.exk g5 rsE⟩
  have rsF := rsE.keep g5 k6
  have dF := dE.keep k6
  refine kk2 G6 H6 o' i' d2 ov' iv' v2 _ _ g6 (ro'.keep g5 k6) ri' (((((r2'.keep g1 k2).keep g2 k3).keep g3 k4).keep g4 k5).keep g5 k6) h6 fun G7 H7 h7 g7 k7 => ?_
  exact ⟨rfl, (dF.keep k7).nx _ _ _ _ h7 g7 (rsF.keep g6 k7) Keep.refl⟩
end
end L3
namespace L3
open PySem PySem.Spec PyProof.Rows L2
open He (ga)
/-- a comprehension whose turns change G -/
theorem lc_inv {t : Tg} {tt : TT3} {te : TE3} {gd : Gp → Prop} {σ : St3} {Q : QK} {G : Gp} {xs : List D} (I : Nat → List D → Gp → Prop) (l : xs.length ≤ sizeLine)
    (step : ∀ (k : Nat) (x : D) (acc : List D) (G : Gp) (p : Addr) (N : D → Gp → Prop) (N' : Gp → Prop), xs[k]? = some x → G p = none → I k acc G → (∀ d G3, G3 p = none → I (k + 1) (acc ++ [d]) G3 → N d (up G3 p (.lst acc))) → (∀ G3, G3 p = none → I (k + 1) acc G3 → N' (up G3 p (.lst acc))) →
      gd (up G p (.lst acc)) ∧ t.b x σ fun σ' => tt σ' (up G p (.lst acc)) (fun b G1 => if b = true then te σ' G1 N (fun _ _ => False) else N' G1) (fun _ _ => False))
    (fin : ∀ acc G p, G p = none → I xs.length acc G → gd (up G p (.lst acc)) ∧ Q (.fl acc) G) (h : I 0 [] G) : ∀ p, G p = none → lcL t tt te gd σ p (lcEnd false p Q) xs (up G p (.lst [])) := by
  intro p np
  have key : ∀ (n k : Nat) (acc : List D) (G : Gp), n + k = xs.length → acc.length ≤ k → G p = none → I k acc G → lcL t tt te gd σ p (lcEnd false p Q) (xs.drop k) (up G p (.lst acc)) := by
    intro n
    induction n with
    | zero =>
      intro k acc G e ha np h
      have e : k = xs.length := by omega
      subst e
      rw [List.drop_length]
      obtain ⟨h1, h2⟩ := fin acc G p np h
      exact ⟨h1, acc, up_same, by rw [dl_up np]; exact h2⟩
    | succ n ih =>
      intro k acc G e ha np h
      have lt : k < xs.length := by omega
      rw [List.drop_eq_getElem_cons lt]
      refine step k xs[k] acc G p _ _ (by simp [lt]) np h (fun d G3 n3 h3 => ⟨acc, up_same, by omega, ?_⟩) fun G3 n3 h3 => ?_
      · rw [up_up]
        exact ih (k + 1) (acc ++ [d]) G3 (by omega) (by simp; omega) n3 h3
      · exact ih (k + 1) acc G3 (by omega) (by omega) n3 h3
  simpa using key xs.length 0 [] G (by omega) (by simp) np h
end L3
namespace L3
open PySem PySem.Spec PyProof.Rows L2
open He (ga)
/-! ### try with clauses, some with a name -/
abbrev HL := List (Value × Option Nat × (Addr → Value → Option Addr → TS))
def endAs (D : Ends) (i : Nat) : Ends := { nx := fun σ' H' => D.nx (σ'.set i none) H', rt := D.rt, bk := fun σ' H' => D.bk (σ'.set i none) H', ct := fun σ' H' => D.ct (σ'.set i none) H' }
def endOf (D : Ends) : Option Nat → Ends
  | none => D
  | some i => endAs D i
def slotOf (σ : St) (a : Addr) : Option Nat → St
  | none => σ
  | some i => σ.set i (some (.ref a))
def wG (K : PySem.W.Frag) (Wout : WX) (D : Ends) : HL → WX
  | [] => Wout
  | (c, oi, ts) :: r => fun cls d σ H => ∃ b, PySem.W.exmOne K cls c = some b ∧ (b = true → ∀ a, H a = none → ts a cls d (endOf D oi) (slotOf σ a oi) H) ∧ (b = false → wG K Wout D r cls d σ H)
inductive HdsG (X : Cx) : List ExceptHandler → HL → Prop
  | nil : HdsG X [] []
  | cons {x : Str} {c : Value} {ts : Addr → Value → Option Addr → TS} {b₀ : Stmt} {suite : List Stmt} {np pos' : Pos} {hds : List ExceptHandler} {l : HL} (hc : Names X x c)
      (hsu : ∀ (a : Addr) (oe : Obj) (cls : Value) (d : Option Addr) (pn : List (Addr × Obj)), Zc cls d oe → (∃ vs, oe.data = .fields vs) → PSs (X.suite a ((a, oe) :: pn)) (b₀ :: suite) (ts a cls d)) (r : HdsG X hds l) :
      HdsG X (.ExceptHandler (some (.Name x np)) none (b₀ :: suite) pos' :: hds) ((c, none, ts) :: l)
  | consA {x n : Str} {i : Nat} {c : Value} {ts : Addr → Value → Option Addr → TS} {b₀ : Stmt} {suite : List Stmt} {np pos' : Pos} {hds : List ExceptHandler} {l : HL} (hc : Names X x c) (hi : X.N[i]? = some n) (hln : X.env.kindOf n = some .local)
      (hsu : ∀ (a : Addr) (oe : Obj) (cls : Value) (d : Option Addr) (pn : List (Addr × Obj)), Zc cls d oe → (∃ vs, oe.data = .fields vs) → PSs (X.suite a ((a, oe) :: pn)) (b₀ :: suite) (ts a cls d)) (r : HdsG X hds l) :
      HdsG X (.ExceptHandler (some (.Name x np)) (some n) (b₀ :: suite) pos' :: hds) ((c, some i, ts) :: l)
section
variable {X : Cx} {body : List Stmt} {h₀ : ExceptHandler} {hds : List ExceptHandler} {l : HL} {pos : Pos} {tb : WX → TS} {Wout : WX}
theorem ps_try_g (hs : X.stack = X.env :: X.outer) (hf : X.env.frame = some X.env.locals) (hN : X.N.Nodup) (tk : Takes X Wout)
    (hb : ∀ (W : WX) (pn : List (Addr × Obj)) (xe : Value → Shared → Prop), Takes (X.tr pn xe) W → PassesOwn (model X.prog X.w) X.A X.env xe → PSs (X.tr pn xe) body (tb W))
    (hh : HdsG X (h₀ :: hds) l) : PS X (.Try body (h₀ :: hds) [] [] pos) (fun D σ H => tb (wG X.K Wout D l) D σ H) := by
  refine ⟨fun pins s σ H D I h => ?_⟩
  have ok := I.ok
  have hfr : X.A.frames = some (X.env :: X.outer) := by rw [ok.frames, hs]
  refine wpAny_Try_except ?_
  refine wpAny_mono ((hb (wG X.K Wout D l) (X.pn ++ pins) (fun e s₁ => wpAny (model X.prog X.w) X.A (noteFrame e X.env) (fun _ s₂ => wpAny (model X.prog X.w) X.A (setFlight e none) (fun _ s₃ =>
    wpAny (model X.prog X.w) X.A (handleBy e X.env (h₀ :: hds)) (SP X pins D) X.xe s₃) X.xe s₂) X.xe s₁) (fun u s' xx => ?_) PassesOwn.looking).run [] s σ H D (I.toTry _) h) (fun f s1 hsp => ?_) (fun e s1 he => he)
  · obtain ⟨a, B, sI, pins', σ', H', cls, d, rfl, J', nb, up, sky, na, os, ag, w⟩ := xx
    have J : Inv X pins σ' H' sI := J'.ofTry ok
    have sky' : Sky B (X.env :: X.outer) a (Zc cls d) X.env.locals s'.heap := by rw [← hs]; exact sky
    show wpAny (model X.prog X.w) X.A (noteFrame (.ref a) X.env) _ _ _
    refine Sky.land Zc.steady hfr hf sky' fun h3 fl3 up3 => ?_
    have J3 : Inv X pins σ' H' { s' with heap := h3 } := J.landed nb fl3.1 (up.trans up3) os ag
    obtain ⟨oe3, vs3, he3, hz3, hd3⟩ := fl3.there
    have notFr : ∀ {h : Heap} {o : Obj} {vs : Array Value}, h.FunFrames B (X.env :: X.outer) → h.get? a = some o → o.data = .fields vs → a ∉ frs (X.env :: X.outer) := fun {h o vs} ff e dd hm => by
      obtain ⟨_, o', e', hnf⟩ := ff.mem hm
      rw [e] at e'; cases e'
      exact hnf _ dd
    have nfr := notFr fl3.2.2.1 he3 hd3
    have nL : a ≠ X.env.locals := fun z => nfr (List.mem_filterMap.mpr ⟨X.env, List.mem_cons_self, by rw [hf, z]⟩)
    have nF : a ∉ X.fs := fun hm => by
      obtain ⟨e, he, q⟩ := List.mem_filterMap.mp hm
      exact nfr (List.mem_filterMap.mpr ⟨e, List.mem_cons_of_mem _ he, q⟩)
    have S3 := J3.suite he3 hd3 na nL nF
    have LT : PySem.W.Looks (model X.prog X.w) h3 (typeOf (.ref a)) cls := fun A Q E s k q => wpAny_typeOf_ref (k _ _ he3) (by rw [hz3.1]; exact q)
    have test : ∀ {x : Str} {c : Value} {np : Pos} {Q : Value → Shared → Prop} {E : Value → Shared → Prop}, Names X x c → Q c { s' with heap := h3 } → wpAny (model X.prog X.w) (X.A.mark (some (.ref a))) (eval (.Name x np) X.env) Q E { s' with heap := h3 } := fun {x c np Q E} hc q => by
      obtain ⟨hg, hdbg, hm | ⟨hm, hv, hnn⟩⟩ := hc
      · exact ld_glob (X := X.suite a ((a, oe3) :: (X.pn ++ pins))) S3 hg hm q hdbg
      · exact ld_blt (X := X.suite a ((a, oe3) :: (X.pn ++ pins))) S3 hg hm hv q hnn hdbg
    have go : ∀ {hds' : List ExceptHandler} {l' : HL}, HdsG X hds' l' → wG X.K Wout D l' cls d σ' H' →
        wpAny (model X.prog X.w) X.A (handleBy (.ref a) X.env hds') (SP X pins D) X.xe { s' with heap := h3 } := by
      intro hds' l' hk
      induction hk with
      | nil =>
        intro w
        refine wpAny_handleBy_nil ?_
        obtain ⟨k1, k2, k3, oe, vs, T, oT, ts', he, hz, hd, h1, hr⟩ := id fl3
        unfold PySem.passOn
        refine wpAny_bind (wpAny_field he hd h1 ?_)
        rw [if_neg (show ¬ ((Value.ref T == Value.none) = true) from by simp)]
        have fin : wpAny (model X.prog X.w) X.A (setFlight (.ref a) X.env.frame) (fun _ s4 => wpAny (model X.prog X.w) X.A (throw (.ref a) : Sem Flow) (SP X pins D) X.xe s4) X.xe { s' with heap := h3 } := by
          rw [hf]
          refine HandSPX.setFlight_upZ fl3 fun h4 hh4 up4 => wpAny_throw (tk _ _ ?_)
          exact ⟨a, B, sI, pins, σ', H', cls, d, rfl, J, nb, (up.trans up3).trans up4, .inr (.inr (by rw [hs]; exact hh4)), na, os, ag, w⟩
        first
          | exact wpAny_bind (wpAny_pure (wpAny_bind fin))
          | exact wpAny_bind fin
      | @cons x c ts b₀ suite np pos' hds2 l2 hc hsu r ih =>
        intro w
        obtain ⟨b, hb1, hyes, hno⟩ := w
        refine wpAny_handleBy_cons (codeAny_handlers_test ?_) (by intro q; cases q)
        have LM := PySem.W.exm_one (M := model X.prog X.w) (J3.kIn) LT hb1
        refine test hc (LM.here ?_)
        cases b with
        | true =>
          refine codeAny_handlers_suite ?_
          refine HandSPX.lands_againZ fl3 fun h4 fl4 up4 => ?_
          have J4 : Inv X pins σ' H' { s' with heap := h4 } := J.landed nb fl4.1 ((up.trans up3).trans up4) os ag
          obtain ⟨oe4, vs4, he4, hz4, hd4⟩ := fl4.there
          have S4 := J4.suite he4 hd4 na nL nF
          refine wpAny_mono ((hsu a oe4 cls d (X.pn ++ pins) hz4 ⟨_, hd4⟩).run [] _ _ H' _ S4 (hyes rfl a na)) (fun f s6 hsp => ?_) (fun _ _ z => False.elim z)
          cases f with
          | next =>
            obtain ⟨σ6, H6, S6, q6⟩ := hsp
            exact ⟨_, _, S6.unsuite ok, q6⟩
          | brk =>
            obtain ⟨σ6, H6, S6, q6⟩ := hsp
            exact ⟨_, _, S6.unsuite ok, q6⟩
          | cont =>
            obtain ⟨σ6, H6, S6, q6⟩ := hsp
            exact ⟨_, _, S6.unsuite ok, q6⟩
          | ret u =>
            obtain ⟨v6, σ6, H6, S6, r6, q6⟩ := hsp
            exact ⟨_, _, _, S6.unsuite ok, r6, q6⟩
        | false =>
          show wpAny _ X.A (handleBy (.ref a) X.env hds2) _ _ _
          exact ih (hno rfl)
      | @consA x n i c ts b₀ suite np pos' hds2 l2 hc hi hln hsu r ih =>
        intro w
        obtain ⟨b, hb1, hyes, hno⟩ := w
        have hloc : Loc X.env.scope n := .inl hln
        refine wpAny_handleBy_cons (codeAny_handlers_test ?_) (by intro q; cases q)
        have LM := PySem.W.exm_one (M := model X.prog X.w) (J3.kIn) LT hb1
        refine test hc (LM.here ?_)
        cases b with
        | true =>
          refine codeAny_handlers_suite_as ?_
          refine HandSPX.lands_againZ fl3 fun h4 fl4 up4 => ?_
          have J4 : Inv X pins σ' H' { s' with heap := h4 } := J.landed nb fl4.1 ((up.trans up3).trans up4) os ag
          obtain ⟨oe4, vs4, he4, hz4, hd4⟩ := fl4.there
          have S4 := J4.suite he4 hd4 na nL nF
          refine store_ok (X := X.suite a ((a, oe4) :: (X.pn ++ pins))) (v := .ref a) S4 hN hi hloc rfl (fun s5 S5 => ?_) (.inr hln)
          refine wpAny_mono ((hsu a oe4 cls d (X.pn ++ pins) hz4 ⟨_, hd4⟩).run [] s5 _ H' _ S5 (hyes rfl a na)) (fun f s6 hsp => ?_) (fun _ _ z => False.elim z)
          have end_ : ∀ {σ6 : St} {H6 : Hp} {Q : Shared → Prop}, Inv (X.suite a ((a, oe4) :: (X.pn ++ pins))) [] σ6 H6 s6 → (∀ s7, Inv X pins (σ6.set i none) H6 s7 → Q s7) →
              wpAny (model X.prog X.w) X.A (do bindName X.env n .none; unbindBehindTheSuite X.env n pos') (fun _ s7 => Q s7) X.xe s6 := fun {σ6 H6 Q} S6 hq => gone_ok (S6.unsuite ok) hN hi hln hq
          cases f with
          | next =>
            obtain ⟨σ6, H6, S6, q6⟩ := hsp
            exact end_ S6 fun s7 J7 => ⟨_, _, J7, q6⟩
          | brk =>
            obtain ⟨σ6, H6, S6, q6⟩ := hsp
            exact end_ S6 fun s7 J7 => ⟨_, _, J7, q6⟩
          | cont =>
            obtain ⟨σ6, H6, S6, q6⟩ := hsp
            exact end_ S6 fun s7 J7 => ⟨_, _, J7, q6⟩
          | ret u =>
            obtain ⟨v6, σ6, H6, S6, r6, q6⟩ := hsp
            exact end_ S6 fun s7 J7 => ⟨_, _, _, J7, r6, q6⟩
        | false =>
          show wpAny _ X.A (handleBy (.ref a) X.env hds2) _ _ _
          exact ih (hno rfl)
    exact go hh w
  · cases f with
    | next =>
      obtain ⟨σ', H', J', q⟩ := hsp
      exact wpAny_execs_nil ⟨σ', H', J'.ofTry ok, q⟩
    | brk =>
      obtain ⟨σ', H', J', q⟩ := hsp
      exact ⟨σ', H', J'.ofTry ok, q⟩
    | cont =>
      obtain ⟨σ', H', J', q⟩ := hsp
      exact ⟨σ', H', J'.ofTry ok, q⟩
    | ret u =>
      obtain ⟨v, σ', H', J', r, q⟩ := hsp
      exact ⟨v, σ', H', J'.ofTry ok, r, q⟩
end
/-! ### values without the held exception -/
mutual
def xf : D → Bool
  | .ex _ => false
  | .exf _ _ _ => false
  | .tup xs => xfL xs
  | .fl xs => xfL xs
  | .sl xs => xfL xs
  | .ob _ _ xs => xfL xs
  | .lam _ _ _ xs _ => xfL xs
  | _ => true
def xfL : List D → Bool
  | [] => true
  | x :: xs => xf x && xfL xs
end
def xfO : GO → Bool
  | .lst xs => xfL xs
  | .dic kvs => xfL (kvs.map (·.2))
  | .ins _ fs => xfL (fs.map (·.2))
  | .tb _ => true
def GX (G : Gp) : Prop := ∀ a o, G a = some o → xfO o = true
def SX (σ : St3) : Prop := ∀ d, some d ∈ σ → xf d = true
section
variable {K : PySem.W.Frag} {Z Z' : Zx} {G : Gp} {H : Hp}
mutual
theorem Dv.toZ : ∀ {d : D} {v : V}, xf d = true → Dv ⟨K, Z⟩ G H d v → Dv ⟨K, Z'⟩ G H d v
  | _, _, _, .non => .non
  | _, _, _, .bl b => .bl b
  | _, _, _, .int b => .int b
  | _, _, _, .str b => .str b
  | _, _, h, .tup s r => .tup s (DvL.toZ (by simpa [xf] using h) r)
  | _, _, h, .fl s n r => .fl s n (DvL.toZ (by simpa [xf] using h) r)
  | _, _, h, .sl s r => .sl s (DvL.toZ (by simpa [xf] using h) r)
  | _, _, h, .ob s l n r => .ob s l n (DvL.toZ (by simpa [xf] using h) r)
  | _, _, _, .emp s n => .emp s n
  | _, _, _, .ref a => .ref a
  | _, _, h, .ex _ _ => by simp [xf] at h
  | _, _, _, .fn x => .fn x
  | _, _, h, .lam s n r => .lam s n (DvL.toZ (by simpa [xf] using h) r)
  | _, _, h, .exf _ _ _ _ => by simp [xf] at h
theorem DvL.toZ : ∀ {d : List D} {v : List V}, xfL d = true → DvL ⟨K, Z⟩ G H d v → DvL ⟨K, Z'⟩ G H d v
  | _, _, _, .nil => .nil
  | _, _, h, .cons r t => .cons (Dv.toZ (by simp [xfL] at h; exact h.1) r) (DvL.toZ (by simp [xfL] at h; exact h.2) t)
end
mutual
theorem Dv.xf0 : ∀ {d : D} {v : V}, Dv ⟨K, Z0⟩ G H d v → xf d = true
  | _, _, .non => rfl
  | _, _, .bl b => rfl
  | _, _, .int b => rfl
  | _, _, .str b => rfl
  | _, _, .tup s r => by simpa [xf] using DvL.xf0 r
  | _, _, .fl s n r => by simpa [xf] using DvL.xf0 r
  | _, _, .sl s r => by simpa [xf] using DvL.xf0 r
  | _, _, .ob s l n r => by simpa [xf] using DvL.xf0 r
  | _, _, .emp s n => rfl
  | _, _, .ref a => rfl
  | _, _, .ex h _ => by cases h
  | _, _, .fn x => rfl
  | _, _, .lam s n r => by simpa [xf] using DvL.xf0 r
  | _, _, .exf h _ _ _ => by cases h
theorem DvL.xf0 : ∀ {d : List D} {v : List V}, DvL ⟨K, Z0⟩ G H d v → xfL d = true
  | _, _, .nil => rfl
  | _, _, .cons r t => by simp [xfL, Dv.xf0 r, DvL.xf0 t]
end
theorem GH.toZ (x : GX G) (g : GH ⟨K, Z⟩ G H) : GH ⟨K, Z'⟩ G H := fun a o e => by
  have q := g a o e
  have xo := x a o e
  cases o with
  | lst xs => obtain ⟨vs, h, r⟩ := q; exact ⟨vs, h, r.toZ xo⟩
  | dic kvs => obtain ⟨vs, h, r⟩ := q; exact ⟨vs, h, r.toZ xo⟩
  | ins c fs => obtain ⟨dx, vs, h, r⟩ := q; exact ⟨dx, vs, h, r.toZ xo⟩
  | tb c => exact q
theorem GH.gx (g : GH ⟨K, Z0⟩ G H) : GX G := fun a o e => by
  have q := g a o e
  cases o with
  | lst xs => obtain ⟨vs, h, r⟩ := q; exact r.xf0
  | dic kvs => obtain ⟨vs, h, r⟩ := q; exact r.xf0
  | ins c fs => obtain ⟨dx, vs, h, r⟩ := q; exact r.xf0
  | tb c => rfl
theorem Rs.toZ {σ3 : St3} {σ : St} (x : SX σ3) (r : Rs ⟨K, Z⟩ G H σ3 σ) : Rs ⟨K, Z'⟩ G H σ3 σ := ⟨r.1, fun i d e => by
  obtain ⟨v, h1, h2⟩ := r.2 i d e
  exact ⟨v, h1, h2.toZ (x d (List.mem_of_getElem? e))⟩⟩
theorem Rs.sx {σ3 : St3} {σ : St} (r : Rs ⟨K, Z0⟩ G H σ3 σ) : SX σ3 := fun d m => by
  obtain ⟨i, e⟩ := List.mem_iff_getElem?.mp m
  obtain ⟨v, _, h⟩ := r.2 i d e
  exact h.xf0
end
/-! ### try, lifted -/
def exD (x : X3) : D := match x.f with
  | none => .ex x.c
  | some (f, y) => .exf x.c f y
def setO (σ : St3) (d : Option D) : Option Nat → St3
  | none => σ
  | some i => σ.set i d
/-- how a suite ends -/
def suEnd (D : Ends3) (oi : Option Nat) : Ends3 where
  nx := fun σ G => GX G ∧ SX (setO σ none oi) ∧ D.nx (setO σ none oi) G
  rt := fun d G => GX G ∧ xf d = true ∧ D.rt d G
  bk := fun σ G => GX G ∧ SX (setO σ none oi) ∧ D.bk (setO σ none oi) G
  ct := fun σ G => GX G ∧ SX (setO σ none oi) ∧ D.ct (setO σ none oi) G
structure Hd3 where
  h : Str
  oi : Option Nat
  ts : X3 → TS3
/-- exm c h: does the clause for h take an exception of the class c -/
def shand (exm : Str → Str → Option Bool) (D : Ends3) : List Hd3 → X3 → St3 → Gp → Prop
  | [], x, σ, G => D.ex x σ G
  | k :: r, x, σ, G => ∃ b, exm x.c k.h = some b ∧ if b = true then GX G → SX σ → k.ts x (suEnd D k.oi) (setO σ (some (exD x)) k.oi) G else shand exm D r x σ G
def stry (exm : Str → Str → Option Bool) (tb : TS3) (ks : List Hd3) : TS3 := fun D σ G => tb { D with ex := shand exm D ks } σ G
def ExmF (K : PySem.W.Frag) (exm : Str → Str → Option Bool) : Prop := ∀ c h b, exm c h = some b → PySem.W.exmOne K (.ref (ga K c)) (.ref (ga K h)) = some b
/-- the clauses are walked -/
inductive Hds3 (X : Cx) : List ExceptHandler → List Hd3 → Prop
  | nil : Hds3 X [] []
  | cons {x : Str} {ts : X3 → TS3} {b₀ : Stmt} {suite : List Stmt} {np pos' : Pos} {hds : List ExceptHandler} {l : List Hd3} (hc : Names X x (.ref (ga X.K x)))
      (hsu : ∀ (a : Addr) (oe : Obj) (d : Option Addr) (pn : List (Addr × Obj)) (e : X3), Zc (.ref (ga X.K e.c)) d oe → (∃ vs, oe.data = .fields vs) → PSs3 (X.suite a ((a, oe) :: pn)) ⟨a, .ref (ga X.K e.c), d⟩ W0 (b₀ :: suite) (ts e)) (r : Hds3 X hds l) :
      Hds3 X (.ExceptHandler (some (.Name x np)) none (b₀ :: suite) pos' :: hds) (⟨x, none, ts⟩ :: l)
  | consA {x n : Str} (i : Nat) {ts : X3 → TS3} {b₀ : Stmt} {suite : List Stmt} {np pos' : Pos} {hds : List ExceptHandler} {l : List Hd3} (hc : Names X x (.ref (ga X.K x))) (hi : X.N[i]? = some n) (hln : X.env.kindOf n = some .local)
      (hsu : ∀ (a : Addr) (oe : Obj) (d : Option Addr) (pn : List (Addr × Obj)) (e : X3), Zc (.ref (ga X.K e.c)) d oe → (∃ vs, oe.data = .fields vs) → PSs3 (X.suite a ((a, oe) :: pn)) ⟨a, .ref (ga X.K e.c), d⟩ W0 (b₀ :: suite) (ts e)) (r : Hds3 X hds l) :
      Hds3 X (.ExceptHandler (some (.Name x np)) (some n) (b₀ :: suite) pos' :: hds) (⟨x, some i, ts⟩ :: l)
/-- a suite's reading: whatever exception of whatever class -/
def suL2 (K : PySem.W.Frag) (ts : X3 → TS3) : Addr → Value → Option Addr → TS := fun a cls d D σ H => ∃ e : X3, cls = .ref (ga K e.c) ∧ liftS ⟨K, ⟨a, cls, d⟩⟩ W0 (ts e) D σ H
def hl2 (K : PySem.W.Frag) : List Hd3 → HL
  | [] => []
  | k :: r => (.ref (ga K k.h), k.oi, suL2 K k.ts) :: hl2 K r
section
variable {X : Cx}
theorem su_run {ts : X3 → TS3} {body : List Stmt} {a : Addr} {oe : Obj} {cls : Value} {d : Option Addr} {pn : List (Addr × Obj)} (hz : Zc cls d oe) (hf : ∃ vs, oe.data = .fields vs)
    (hsu : ∀ (a : Addr) (oe : Obj) (d : Option Addr) (pn : List (Addr × Obj)) (e : X3), Zc (.ref (ga X.K e.c)) d oe → (∃ vs, oe.data = .fields vs) → PSs3 (X.suite a ((a, oe) :: pn)) ⟨a, .ref (ga X.K e.c), d⟩ W0 body (ts e)) :
    PSs (X.suite a ((a, oe) :: pn)) body (suL2 X.K ts a cls d) := ⟨fun pins s σ H D I h => by
  obtain ⟨e, rfl, h⟩ := h
  exact (hsu a oe d pn e hz hf).run pins s σ H D I h⟩
theorem hds_of : ∀ {hds : List ExceptHandler} {ks : List Hd3}, Hds3 X hds ks → HdsG X hds (hl2 X.K ks)
  | _, _, .nil => .nil
  | _, _, .cons hc hsu r => .cons hc (fun _ _ _ _ _ hz hf => su_run hz hf hsu) (hds_of r)
  | _, _, .consA i hc hi hln hsu r => .consA hc hi hln (fun _ _ _ _ _ hz hf => su_run hz hf hsu) (hds_of r)
theorem exD_dv {K : PySem.W.Frag} {G : Gp} {H : Hp} {x : X3} {c : Value} {d : Option Addr} {a : Addr} (h : Xv ⟨K, Z0⟩ G H x c d) : Dv ⟨K, ⟨a, c, d⟩⟩ G H (exD x) (.ref a) := by
  obtain ⟨h1, h2⟩ := h
  unfold exD
  cases e : x.f with
  | none => rw [e] at h2; exact .ex (K := ⟨K, ⟨a, c, d⟩⟩) h1 h2
  | some p =>
    obtain ⟨f, y⟩ := p
    rw [e] at h2
    obtain ⟨b, v, e1, e2, r⟩ := h2
    exact .exf (K := ⟨K, ⟨a, c, d⟩⟩) h1 e1 e2 (r.toZ r.xf0)
theorem try_ {exm : Str → Str → Option Bool} {Wout : WX} {body : List Stmt} {h₀ : ExceptHandler} {hds : List ExceptHandler} {ks : List Hd3} {pos : Pos} {tb : TS3} (hs : X.stack = X.env :: X.outer) (hf : X.env.frame = some X.env.locals) (hN : X.N.Nodup) (tk : Takes X Wout) (em : ExmF X.K exm)
    (hb : ∀ (W : WX) (pn : List (Addr × Obj)) (xe : Value → Shared → Prop), Takes (X.tr pn xe) W → PassesOwn (model X.prog X.w) X.A X.env xe → PSs3 (X.tr pn xe) Z0 W body tb)
    (hh : Hds3 X (h₀ :: hds) ks) : PS3 X Z0 Wout (.Try body (h₀ :: hds) [] [] pos) (stry exm tb ks) := by
  refine PS.imp (ps_try_g (tb := fun W => liftS (Cxk X Z0) W tb) hs hf hN tk hb (hds_of hh)) fun D σ H h => ?_
  obtain ⟨σ3, G, D3, g, rs, h, d⟩ := h
  refine ⟨σ3, G, _, g, rs, h, ⟨d.nx, d.rt, d.bk, d.ct, fun x σ4 G1 c dd τ H1 h1 g1 r1 xv k1 => ?_⟩⟩
  clear h
  have key : ∀ ks : List Hd3, shand exm D3 ks x σ4 G1 → wG X.K Wout D (hl2 X.K ks) c dd τ H1 := by
    intro ks
    induction ks with
    | nil => exact fun h => d.ex x σ4 G1 c dd τ H1 h g1 r1 xv k1
    | cons k r ih =>
      intro h
      obtain ⟨b, e, h⟩ := h
      refine ⟨b, by rw [xv.1]; exact em _ _ _ e, fun eb a na => ?_, fun eb => ?_⟩
      · subst eb
        rw [if_pos rfl] at h
        have gx := g1.gx
        have sx := r1.sx
        have h := h gx sx
        refine ⟨x, xv.1, setO σ4 (some (exD x)) k.oi, G1, _, g1.toZ gx, ?_, h, ?_⟩
        · have rz : Rs ⟨X.K, ⟨a, c, dd⟩⟩ G1 H1 σ4 τ := r1.toZ sx
          cases k.oi with
          | none => exact rz
          | some i => exact rz.set (exD_dv xv) i
        · have cl : ∀ (σ5 : St3) (σ6 : St) (G2 : Gp) (H2 : Hp), SX (setO σ5 none k.oi) → Rs ⟨X.K, ⟨a, c, dd⟩⟩ G2 H2 σ5 σ6 → Rs (Cxk X Z0) G2 H2 (setO σ5 none k.oi) (match k.oi with | none => σ6 | some i => σ6.set i none) := fun σ5 σ6 G2 H2 sx r2 => by
            cases e : k.oi with
            | none => rw [e] at sx; exact r2.toZ sx
            | some i => rw [e] at sx; exact (r2.clear i).toZ sx
          have fin : ∀ (P : St3 → Gp → Prop) (R : St → Hp → Prop) (R' : St → Hp → Prop), Sk (Cxk X Z0) G H P R → (∀ σ' H', R (match k.oi with | none => σ' | some i => σ'.set i none) H' → R' σ' H') → Sk ⟨X.K, ⟨a, c, dd⟩⟩ G1 H1 (fun σ G => GX G ∧ SX (setO σ none k.oi) ∧ P (setO σ none k.oi) G) R' := fun P R R' hp hr σ5 G2 σ6 H2 ⟨gx2, sx2, h2⟩ g2 r2 k2 =>
            hr _ _ (hp _ _ _ _ h2 (g2.toZ gx2) (cl _ _ _ _ sx2 r2) (k1.trans k2))
          have en : ∀ (f : Ends → St → Hp → Prop) , (∀ i, f (endAs D i) = fun σ' H' => f D (σ'.set i none) H') → ∀ σ' H', f D (match k.oi with | none => σ' | some i => σ'.set i none) H' → f (endOf D k.oi) σ' H' := fun f hf σ' H' h => by
            cases e : k.oi with
            | none => rw [e] at h; exact h
            | some i => rw [e] at h; show f (endAs D i) σ' H'; rw [hf]; exact h
          refine ⟨fin _ _ _ d.nx (en Ends.nx fun _ => rfl), fun v G2 w H2 ⟨gx2, xv2, h2⟩ g2 r2 k2 => ?_, fin _ _ _ d.bk (en Ends.bk fun _ => rfl), fin _ _ _ d.ct (en Ends.ct fun _ => rfl), fun _ _ _ _ _ _ _ z => z.elim⟩
          have := d.rt _ _ _ _ h2 (g2.toZ gx2) (r2.toZ xv2) (k1.trans k2)
          cases e : k.oi with
          | none => exact this
          | some i => exact this
      · subst eb
        rw [if_neg Bool.false_ne_true] at h
        exact ih h
  exact key ks h1
end
end L3
namespace L3
open PySem PySem.Spec PyProof.Rows L2
open He (ga)
/-! ### raise X() -/
/-- what a raised class without fields must be -/
structure ExcF (K : PySem.W.Frag) (x : Str) : Prop where
  e : PySem.W.excIn K (ga K x) He.veBase "ValueError.__new__" = true
  k : PySem.W.keepIn K (.ref (ga K x)) = true
  s : PySem.W.subIn K (.ref (ga K x)) (.type "BaseException") = some true
  t : PySem.W.typeIn K (.ref (ga K x)) = some (.type "type")
theorem excF_ok {K : PySem.W.Frag} {x : Str} (c : (He.Fa.exc x).ok K = true) : ExcF K x := by
  obtain ⟨h1, h2, h3, h4⟩ := He.exc_ok c
  exact ⟨h1, h2, h3, h4⟩
theorem pmk_own0 {X : Cx} {C : Addr} {bmB : List Value} {B newId initId : String} {x : Str} {p pos : Pos} (F : ExcBaseFacts B newId initId bmB) (q : PySem.W.excIn X.K C bmB newId = true) (gC : X.mg x = some (.ref C))
    (kC : PySem.W.keepIn X.K (.ref C) = true) (r : Raises X (.ref C)) (hg : Gl X x) (hdb : (x == ("__debug__" : Str)) = false) :
    PMk X (.Call (.Name x p) [] [] pos) (fun σ H Q => Q (.ref C) none H) := by
  intro pins s σ H Q I h
  refine wpAny_Call_Name_kw (ld_glob I hg gC ?_ hdb)
  refine PySem.W.callWith_K0 I.kIn kC ?_
  show wpAny _ _ (call (.ref C) []) _ _ _
  obtain ⟨bm, N, nm, qn, bs, hdct, sn, sub, ab, col, dd, k0, k1, k2, k3, k5, mN, hC, hN, hni, T⟩ := exc_obj I.kIn q
  refine wpAny_call_exc_subT F T hC hN hni (fun h' e hm => ?_) (by decide)
  exact mk_of I hm r h (I.hok.gone hm.new)
def sraise (c : Str) : TS3 := fun D σ G => D.ex ⟨c, none⟩ σ G
theorem raise0_ {X : Cx} {W : WX} {x : Str} {p cpos pos : Pos} (hc : X.calm = true) (tk : Takes X W) (F : ExcF X.K x) (hm : X.mg x = some (.ref (ga X.K x))) (hg : Gl X x := by rfl) (hdb : (x == ("__debug__" : Str)) = false := by decide +kernel) :
    PS3 X Z0 W (.Raise (some (.Call (.Name x p) [] [] cpos)) none pos) (sraise x) := PS.imp (ps_raise hc tk (pmk_own0 PySem.F.excBase_ValueError F.e hm F.k (raises_own F.s F.t) hg hdb)) fun D σ H h => by
  obtain ⟨σ3, G, D3, g, rs, h, d⟩ := h
  exact d.ex _ _ _ _ _ _ _ h g rs ⟨rfl, rfl⟩ Keep.refl
end L3
/-! ### raise X(e), X's own __init__ stores one field -/
namespace L3
open PySem PySem.Spec PyProof.Rows L2
open He (ga)
def oexB (K : PySem.W.Frag) (C : Addr) : Bool := match K.lookup C with
  | some ⟨.type "type", _, .cls cd, sl⟩ => (match cd.mro, sl.toList with
    | .ref C' :: bm, [_, _, _, _, some (.builtin n), _] => C' == C && n == "ValueError.__new__" && !cd.hasDel && cd.hasDict && PySem.HandSPX.refsVE bm
    | _, _ => false)
  | _ => false
theorem oex_cls {K : PySem.W.Frag} {C : Addr} (q : oexB K C = true) : ∃ nm q N bs bm sn sub ab col dd k0 k1 k2 k3 k5, K.lookup C = some (excClassObj nm q C N bs bm true sn sub ab col dd k0 k1 k2 k3 k5 "ValueError.__new__") ∧ PySem.HandSPX.refsVE bm = true := by
  unfold oexB at q
  split at q
  · rename_i dd cd sl ho
    split at q
    · rename_i C' bm k0 k1 k2 k3 n k5 hm hs
      simp only [Bool.and_eq_true, beq_iff_eq, Bool.not_eq_true'] at q
      obtain ⟨⟨⟨⟨rfl, rfl⟩, hdel⟩, hdc⟩, ht⟩ := q
      obtain ⟨nm, bs, mro, ns, qn, hd, sn, sub, ab, col, del⟩ := cd
      dsimp only at hm hdel hdc
      subst hm hdel hdc
      have hsl : sl = #[k0, k1, k2, k3, some (.builtin "ValueError.__new__"), k5] := by
        obtain ⟨l⟩ := sl
        simp only at hs
        rw [hs]
      subst hsl
      exact ⟨nm, qn, ns, bs, bm, sn, sub, ab, col, dd, k0, k1, k2, k3, k5, ho, ht⟩
    · cases q
  · cases q
/-- a class of errors with one field f -/
structure ExfF (K : PySem.W.Frag) (x f : Str) : Prop where
  c : OexC K (ga K x)
  i : PySem.W.findIn K (.ref (ga K x)) "__init__" = some (some (.ref (He.ma K (ga K x) "__init__")))
  t : PySem.W.typeIn K (.ref (He.ma K (ga K x) "__init__")) = some (.type "function")
  n : PySem.W.findIn K (.ref (ga K x)) f = some none
  x : XfC K (ga K x)
def exfB (x f : Str) (K : PySem.W.Frag) : Bool := oexB K (ga K x) && (decide (PySem.W.findIn K (.ref (ga K x)) "__setattr__" = some (some (.builtin "object.__setattr__"))) && (decide (PySem.W.subIn K (.ref (ga K x)) (.type "BaseException") = some true) && (decide (PySem.W.typeIn K (.ref (ga K x)) = some (.type "type")) &&
  (PySem.W.keepIn K (.ref (ga K x)) && (decide (PySem.W.findIn K (.ref (ga K x)) "__init__" = some (some (.ref (He.ma K (ga K x) "__init__")))) && (decide (PySem.W.typeIn K (.ref (He.ma K (ga K x) "__init__")) = some (.type "function")) && (decide (PySem.W.findIn K (.ref (ga K x)) f = some none) && xfB K (ga K x))))))))
theorem exfF_ok {K : PySem.W.Frag} {x f : Str} (h : exfB x f K = true) : ExfF K x f := by
  obtain ⟨h1, h⟩ := He.ba h
  obtain ⟨h2, h⟩ := He.ba h
  obtain ⟨h3, h⟩ := He.ba h
  obtain ⟨h4, h⟩ := He.ba h
  obtain ⟨h5, h⟩ := He.ba h
  obtain ⟨h6, h⟩ := He.ba h
  obtain ⟨h7, h⟩ := He.ba h
  obtain ⟨h8, h9⟩ := He.ba h
  exact ⟨⟨oex_cls h1, of_decide_eq_true h2, of_decide_eq_true h3, of_decide_eq_true h4, h5⟩, of_decide_eq_true h6, of_decide_eq_true h7, of_decide_eq_true h8, xfB_ok h9⟩
/-- what such an __init__ does -/
def spX (K : PySem.W.Frag) (x f : Str) : Sp := fun vs H Q _ => ∃ a v, vs = [.ref a, v] ∧ H a = some (exo a (ga K x) none) ∧ ∀ dx, H dx = none → dx ≠ a → Q .non (upd (upd H dx (exd dx [(f, v)])) a (exo a (ga K x) (some dx)))
section
variable {P : Program} {w : World} {K : PySem.W.Frag} {mg : Str → Option Value} {base : Heap}
theorem initX {x f name qual s1 s2 : Str} {params : Arguments} {scope : Scope} {ad : Addr} {fd : FuncData} {p1 p2 p3 pos : Pos} (T : ExfF K x f) (F : FunD K name qual params [.Assign [.Attribute (.Name s1 p1) f p2] (.Name s2 p3) pos] scope [] [] ad fd) (S : FnScope [s1, s2] [s1, s2] scope)
    (l1 : scope.names.lookup s1 = some .local) (l2 : scope.names.lookup s2 = some .local) (d1 : (s1 == ("__debug__" : Str)) = false) (d2 : (s2 == ("__debug__" : Str)) = false) (e1 : (s1 == ("__classdict__" : Str)) = false) (e2 : (s2 == ("__classdict__" : Str)) = false)
    (hsw : ∀ env : Env, swapsWith (.Name s2 p3) (some (.Attribute (.Name s1 p1) f p2)) pos.line env = pure false) : FnOk P w K mg base (L2.CX P w) 1 ad fd [s1, s2] (spX K x f) := by
  refine F.ok S (fun vs H Q E h => ?_) (fun cdv A outer s H vs Q E hr h => ?_)
  · obtain ⟨a, v, rfl, _⟩ := h; rfl
  · obtain ⟨a, v, rfl, ha, q⟩ := h
    refine ⟨_, pss_one (ps_ost (pe_var (i := 0) rfl (.inl l1) d1 e1) (pe_var (i := 1) rfl (.inl l2) d2 e2) (hsw _)), ?_⟩
    exact ⟨_, rfl, _, rfl, a, _, rfl, T.c, T.n, .inl ⟨ha, fun dx n ne => q dx n ne⟩⟩
end
def sraisef (c f : Str) (te : TE3) : TS3 := fun D σ G => te σ G (fun y G1 => D.ex ⟨c, some (f, y)⟩ σ G1) (fun x G1 => D.ex x σ G1)
theorem raisef_ {X : Cx} {W : WX} {x f : Str} {p cpos pos : Pos} {k : Nat} {e : Expr} {te : TE3} {fd : FuncData} {ps : List Str} (hc : X.calm = true) (tk : Takes X W) (T : ExfF X.K x f) (F : FnOk X.prog X.w X.K X.mg X.base (L2.CX X.prog X.w) 1 (He.ma X.K (ga X.K x) "__init__") fd ps (spX X.K x f)) (hb : Binds X.K fd ps [])
    (hr : Room k X.A) (hk : 2 ≤ k) (hm : X.mg x = some (.ref (ga X.K x))) (he : PE3 X Z0 W e te) (hg : Gl X x := by rfl) (hdb : (x == ("__debug__" : Str)) = false := by decide +kernel)
    (hst : starEach [e] X.env = (false, eval e X.env) :: starEach [] X.env := by rfl) (hpl : (backTo cpos (starEach [] X.env)).any (·.1) = false := by rfl) :
    PS3 X Z0 W (.Raise (some (.Call (.Name x p) [e] [] cpos)) none pos) (sraisef x f te) := by
  have px : Passes (L2.CX X.prog X.w) X (fun _ _ _ => False) := fun _ _ _ _ _ _ _ h => by
    obtain ⟨_, _, _, _, _, _, _, _, _, _, _, _, z⟩ := h
    exact z.elim
  refine PS.imp (ps_raise hc tk (pmk_oex T.c T.i T.t F (hr.mono hk) hb .nil px hg hm (pa_cons he pa_nil hst) hdb hst hpl)) fun D σ H h => ?_
  obtain ⟨σ3, G, D3, g, rs, h, d⟩ := h
  refine ⟨σ3, G, _, _, g, rs, h, fun y G1 v H1 h1 g1 r1 k1 => ?_, d.exk g rs⟩
  refine ⟨by show 1 ≤ 1000; decide, fun a na => ⟨a, v, rfl, upd_same, fun dx nd ne => ⟨rfl, dx, [(f, v)], upd_same, ?_, ?_, ?_⟩⟩⟩
  · rw [upd_ne ne, upd_same]
  · rw [upd_ne ne] at nd; exact nd
  · rw [upd_ne ne] at nd
    have e1 : upd (L2.del (upd (upd (upd H1 a (exo a (ga X.K x) none)) dx (exd dx [(f, v)])) a (exo a (ga X.K x) (some dx))) a) dx (.xd [(f, v)]) = upd H1 dx (.xd [(f, v)]) := by
      funext b
      by_cases hb1 : b = dx
      · subst hb1; rw [upd_same, upd_same]
      · rw [upd_ne hb1, upd_ne hb1]
        by_cases hb2 : b = a
        · subst hb2; rw [del_same, na]
        · rw [del_ne hb2, upd_ne hb2, upd_ne hb1, upd_ne hb2]
    rw [e1]
    have kk : Keep G1 H1 G1 (upd H1 dx (.xd [(f, v)])) := Keep.new nd
    exact d.ex _ _ _ _ _ _ _ h1 (g1.new nd) ((rs.keep g k1).keep g1 kk) ⟨rfl, dx, v, rfl, upd_same, r1.keep g1 kk⟩ (k1.trans kk)
/-! ### the held exception -/
/-- err.f -/
def txf (c f : Str) (te : TE3) : TE3 := fun σ G Q E => te σ G (fun x G1 => ∃ y, x = .exf c f y ∧ Q y G1) E
theorem xf_ {X : Cx} {a : Addr} {oe : Obj} {d : Option Addr} {pn : List (Addr × Obj)} {W : WX} {e : Expr} {te : TE3} {pos : Pos} {c f : Str} {e3 : X3} (T : ExfF X.K c f) (hz : Zc (.ref (ga X.K e3.c)) d oe) (hf : ∃ vs, oe.data = .fields vs)
    (he : PE3 (X.suite a ((a, oe) :: pn)) ⟨a, .ref (ga X.K e3.c), d⟩ W e te) (hb : attributeBase e f X.env (eval e X.env) = eval e X.env := by rfl) :
    PE3 (X.suite a ((a, oe) :: pn)) ⟨a, .ref (ga X.K e3.c), d⟩ W (.Attribute e f pos) (txf c f te) := PE.imp (pe_xf T.x T.n hz hf he hb) fun σ H Q h => by
  obtain ⟨σ3, G, Q3, E3, g, rs, h, q, x⟩ := h
  refine ⟨σ3, G, _, E3, g, rs, h, fun x G1 v H1 ⟨y, e, h1⟩ g1 r1 k1 => ?_, x⟩
  subst e
  cases r1 with
  | exf z1 z2 z3 r =>
    refine ⟨rfl, z1, _, _, _, z2, z3, ?_, q_of (q.keep k1) g1 h1 r⟩
    simp
/-! ### zip of two tuples, of two lists that stay -/
def izip (ta : TA3) : TI3 := fun σ G R E => ta σ G (fun ds G1 => ∃ xs ys, (ds = [.tup xs, .tup ys] ∨ ds = [.fl xs, .fl ys]) ∧ R (List.zipWith (fun a b => D.tup [a, b]) xs ys) (fun _ => True) G1) E
section
variable {K : K3} {G : Gp} {H : Hp}
theorem zip_at {xs ys : List D} {us ws : List V} {i : Nat} {d : D} (r : DvL K G H xs us) (t : DvL K G H ys ws) (h : (List.zipWith (fun a b => D.tup [a, b]) xs ys)[i]? = some d) : ∃ a b u w, d = .tup [a, b] ∧ us[i]? = some u ∧ ws[i]? = some w ∧ Dv K G H a u ∧ Dv K G H b w := by
  rw [List.getElem?_zipWith] at h
  cases e1 : xs[i]? with
  | none => rw [e1] at h; simp at h
  | some a =>
    cases e2 : ys[i]? with
    | none => rw [e1, e2] at h; simp at h
    | some b =>
      rw [e1, e2] at h
      cases h
      obtain ⟨u, h1, h2⟩ := r.get e1
      obtain ⟨w, h3, h4⟩ := t.get e2
      exact ⟨a, b, u, w, rfl, h1, h3, h2, h4⟩
theorem itr_zipT {xs ys : List D} {a b : Addr} (g : GH K G H) (r1 : Dv K G H (.tup xs) (.ref a)) (r2 : Dv K G H (.tup ys) (.ref b)) : ItR K G H (RZ.ItzT K.f a b) (List.zipWith (fun a b => D.tup [a, b]) xs ys) (fun _ => True) := by
  have key : ∀ {xs : List D} {a : Addr} {G1 H1}, Dv K G H (.tup xs) (.ref a) → Keep G H G1 H1 → ∃ ws, SqT K.f H1 a ws ∧ DvL K G1 H1 xs ws := fun {xs a G1 H1} r k => by
    have r1 := r.keep g k
    cases r1 with
    | tup s rl => exact ⟨_, s, rl⟩
  refine ⟨fun G1 H1 k g1 gd => ?_, fun i G1 H1 hi k g1 gd => ?_, fun i x v G1 H1 H2 hi k g1 gd y => ?_⟩
  · obtain ⟨us, s1, l1⟩ := key r1 k
    obtain ⟨ws, s2, l2⟩ := key r2 k
    refine ⟨us, ws, s1, s2, ?_⟩
    rw [← l1.length, ← l2.length, List.length_zipWith]; omega
  · obtain ⟨us, s1, l1⟩ := key r1 k
    obtain ⟨ws, s2, l2⟩ := key r2 k
    rw [List.length_zipWith] at hi
    have h1 : i < us.length := by rw [← l1.length]; omega
    have h2 : i < ws.length := by rw [← l2.length]; omega
    exact ⟨us, ws, us[i], ws[i], s1, s2, by simp [h1], by simp [h2]⟩
  · obtain ⟨us, s1, l1⟩ := key r1 k
    obtain ⟨ws, s2, l2⟩ := key r2 k
    obtain ⟨T, u, w, rfl, nT, rfl, h1, h2⟩ := y
    obtain ⟨p, q, u', w', rfl, e1, e2, q1, q2⟩ := zip_at l1 l2 hi
    rw [h1 us s1] at e1; cases e1
    rw [h2 ws s2] at e2; cases e2
    have kn := Keep.new (G := G1) (o := .tup [u, w]) nT
    exact ⟨g1.new nT, kn, .tup (SqT.of upd_same) (.cons (q1.keep g1 kn) (.cons (q2.keep g1 kn) .nil))⟩
theorem itr_zipL {xs ys : List D} {a b : Addr} (g : GH K G H) (r1 : Dv K G H (.fl xs) (.ref a)) (r2 : Dv K G H (.fl ys) (.ref b)) : ItR K G H (Itz K.f a b) (List.zipWith (fun a b => D.tup [a, b]) xs ys) (fun _ => True) := by
  have key : ∀ {xs : List D} {a : Addr} {G1 H1}, Dv K G H (.fl xs) (.ref a) → Keep G H G1 H1 → ∃ ws, SqL K.f H1 a ws ∧ DvL K G1 H1 xs ws := fun {xs a G1 H1} r k => by
    have r1 := r.keep g k
    cases r1 with
    | fl s n rl => exact ⟨_, SqL.of s, rl⟩
  refine ⟨fun G1 H1 k g1 gd => ?_, fun i G1 H1 hi k g1 gd => ?_, fun i x v G1 H1 H2 hi k g1 gd y => ?_⟩
  · obtain ⟨us, s1, l1⟩ := key r1 k
    obtain ⟨ws, s2, l2⟩ := key r2 k
    refine ⟨us, ws, s1, s2, ?_⟩
    rw [← l1.length, ← l2.length, List.length_zipWith]; omega
  · obtain ⟨us, s1, l1⟩ := key r1 k
    obtain ⟨ws, s2, l2⟩ := key r2 k
    rw [List.length_zipWith] at hi
    have h1 : i < us.length := by rw [← l1.length]; omega
    have h2 : i < ws.length := by rw [← l2.length]; omega
    exact ⟨us, ws, us[i], ws[i], s1, s2, by simp [h1], by simp [h2]⟩
  · obtain ⟨us, s1, l1⟩ := key r1 k
    obtain ⟨ws, s2, l2⟩ := key r2 k
    obtain ⟨T, u, w, rfl, nT, rfl, h1, h2⟩ := y
    obtain ⟨p, q, u', w', rfl, e1, e2, q1, q2⟩ := zip_at l1 l2 hi
    rw [h1 us s1] at e1; cases e1
    rw [h2 ws s2] at e2; cases e2
    have kn := Keep.new (G := G1) (o := .tup [u, w]) nT
    exact ⟨g1.new nT, kn, .tup (SqT.of upd_same) (.cons (q1.keep g1 kn) (.cons (q2.keep g1 kn) .nil))⟩
end
theorem izip_ {X : Cx} {Z : Zx} {W : WX} {e e2 : Expr} {ta : TA3} {p pos tpos : Pos} {elts : List Expr} {kk : Nat} (hm : X.mg "zip" = none) (ha : PA3 X Z W [e, e2] ta) (hg : Gl X "zip" := by rfl)
    (hs : starEach [e, e2] X.env = (false, eval e X.env) :: starEach [e2] X.env := by rfl) (hpl : (backTo pos (starEach [e2] X.env)).any (·.1) = false := by rfl) :
    PI3 X Z W (.Tuple elts kk tpos) (.Call (.Name "zip" p) [e, e2] [] pos) (izip ta) := PI.imp (RZ.pi_zipA hg hm ha hs hpl) fun σ H R h => by
  obtain ⟨σ3, G, R3, E3, g, rs, h, q, x⟩ := h
  refine ⟨σ3, G, _, E3, g, rs, h, fun ds G1 vs H1 ⟨xs, ys, e, h1⟩ g1 r1 k1 => ?_, x⟩
  rcases e with e | e
  · subst e
    cases r1 with
    | cons ra rb =>
    cases rb with
    | cons rb rc =>
    cases rc
    have ra' := ra
    have rb' := rb
    cases ra with
    | tup s1 l1 =>
    cases rb with
    | tup s2 l2 => exact ⟨_, _, _, _, rfl, .inr ⟨s1, s2, q _ _ _ _ _ h1 g1 k1 (itr_zipT g1 ra' rb')⟩⟩
  · subst e
    cases r1 with
    | cons ra rb =>
    cases rb with
    | cons rb rc =>
    cases rc
    have ra' := ra
    have rb' := rb
    cases ra with
    | fl s1 n1 l1 =>
    cases rb with
    | fl s2 n2 l2 => exact ⟨_, _, _, _, rfl, .inl ⟨SqL.of s1, SqL.of s2, q _ _ _ _ _ h1 g1 k1 (itr_zipL g1 ra' rb')⟩⟩
/-! ### x == y, x of an own class with its own __eq__ -/
structure EqO (K : PySem.W.Frag) (OC : List Str) (c : Str) : Prop where
  s : PySem.W.findIn K (.ref (ga K c)) "__eq__" = some (some (.ref (He.ma K (ga K c) "__eq__")))
  f : PySem.W.isFn K (.ref (He.ma K (ga K c) "__eq__")) = true
  n : ∀ T : Bt, PySem.W.notFirst K (ga K c) (.type T.n) = true
  o : ∀ d ∈ OC, PySem.W.notFirst K (ga K c) (.ref (ga K d)) = true
def eqoB (OC : List Str) (c : Str) (K : PySem.W.Frag) : Bool := decide (PySem.W.findIn K (.ref (ga K c)) "__eq__" = some (some (.ref (He.ma K (ga K c) "__eq__")))) && (PySem.W.isFn K (.ref (He.ma K (ga K c) "__eq__")) &&
  ((Bt.all.all fun T => PySem.W.notFirst K (ga K c) (.type T.n)) && OC.all fun d => PySem.W.notFirst K (ga K c) (.ref (ga K d))))
theorem eqo_ok {K : PySem.W.Frag} {OC : List Str} {c : Str} (h : eqoB OC c K = true) : EqO K OC c := by
  obtain ⟨h1, h⟩ := He.ba h
  obtain ⟨h2, h⟩ := He.ba h
  obtain ⟨h3, h4⟩ := He.ba h
  exact ⟨of_decide_eq_true h1, h2, fun T => List.all_eq_true.mp h3 T T.mem, fun d hd => List.all_eq_true.mp h4 d hd⟩
def eqO3 (OC : List Str) (c : Str) (sp : Sp3) : Q2 := fun x y G Q => tyD G x = some (.o c) ∧ (∃ t, tyD G y = some t ∧ ∀ d, t = .o d → d ∈ OC) ∧ sp [x, y] G (fun z G1 => (∃ b, z = .bl b) ∧ Q z G1) (fun _ _ => False)
theorem o_eqO {X : Cx} {OC : List Str} {c : Str} {sp : Sp3} {j k : Nat} (IS : IsF X.K OC) (T : EqO X.K OC c) (F : Mn3 X.prog X.w X.K X.mg X.base (He.ma X.K (ga X.K c) "__eq__") j sp) (hr : Room k X.A) (hj : j ≤ k) : OpR3 X Z0 (compareOp .Eq) (eqO3 OC c sp) := by
  obtain ⟨fd, ps, hb, F⟩ := F.ex
  have F := F.mono hj
  refine ⟨fun v u H Q => ∃ G x y Q3, GH (Cxk X Z0) G H ∧ Dv (Cxk X Z0) G H x v ∧ Dv (Cxk X Z0) G H y u ∧ eqO3 OC c sp x y G Q3 ∧ Qk (Cxk X Z0) G H Q3 Q, ?_, fun G H x y v u Q3 Q g rx ry h q => ⟨G, x, y, Q3, g, rx, ry, h, q⟩⟩
  intro pins s σ H v u v' u' Q I rv ru h
  obtain ⟨G, x, y, Q3, g, rx, ry, ⟨hx, ⟨t, ht, hto⟩, h⟩, q⟩ := h
  obtain ⟨a, dx, fs, rfl, ha⟩ : ∃ a dx fs, v = .ref a ∧ H a = some (.ins (ga X.K c) dx fs) := by
    cases rx with
    | ob s l n r => cases hx; exact ⟨_, _, _, rfl, s⟩
    | ref a =>
      unfold tyD at hx
      simp only at hx
      split at hx
      · cases hx
      · cases hx
      · rename_i c' fs e
        cases hx
        obtain ⟨dx, vs, h2, _⟩ := g a _ e
        exact ⟨_, _, _, rfl, h2⟩
      · cases hx
      · cases hx
    | _ => cases hx
  cases (show v' = Value.ref a from rv)
  obtain ⟨mA, J, _⟩ := ins_get I.hok ha
  obtain ⟨od, J, _⟩ := J.look
  obtain ⟨m, hF⟩ := I.fr
  have ow : ∀ d, t = .o d → OwnC X.K d := fun d e => IS.own d (hto d e)
  obtain ⟨Pk, Zk, pk, _⟩ := kit_of I ru (tyD_ok g ry ht ow)
  have nf : PySem.W.notFirst X.K (ga X.K c) (t.v X.K) = true := by
    cases t with
    | b U => exact T.n U
    | o d => exact T.o d (hto d rfl)
  show wpAny (model X.prog X.w) X.A (richCompare .Eq (.ref a) u') (EP X pins σ Q) X.xe s
  refine PySem.W.cmp_K (op := .Eq) (tb := t.v X.K) hr.units0 hF I.ok.mod.kin J (Zk.ty _ _ I.kIn pk) nf T.s T.f ?_
  have px : Passes (L2.CX X.prog X.w) X (fun _ _ _ => False) := fun _ _ _ _ _ _ _ h => by
    obtain ⟨_, _, _, _, _, _, _, _, _, _, _, _, z⟩ := h
    exact z.elim
  refine wpAny_mono (run_fn (E := fun _ _ _ => False) (dvs := []) (us := [.ref a, u']) (vs := [.ref a, u]) (Q := fun w H' => (∃ b, w = .bl b) ∧ Q w H') F hr hb .nil px I (.cons rv (.cons ru .nil)) ?_) (fun w s' hq => ?_) fun _ _ z => z
  · refine ⟨[x, y], G, _, _, g, .cons rx (.cons ry .nil), h, fun d G1 w H1 ⟨⟨b, e⟩, h1⟩ g1 r1 k1 => ?_, fun _ _ _ _ _ z => z.elim⟩
    subst e
    cases r1
    exact ⟨⟨b, rfl⟩, q _ _ _ _ h1 g1 (.bl b) k1⟩
  · obtain ⟨z, H', I', rz, ⟨b, rfl⟩, h1⟩ := hq
    cases (show w = Value.bool b from rz)
    exact ⟨.bl b, H', I', rfl, h1⟩
end L3
namespace L3
open PySem PySem.Spec PyProof.Rows L2
open He (ga)
/-- a table: class raised, class of the clause, is it taken -/
def exmOf (l : List (Str × Str × Bool)) (c h : Str) : Option Bool := (l.find? fun p => p.1 == c && p.2.1 == h).map (·.2.2)
def exmB (l : List (Str × Str × Bool)) (K : PySem.W.Frag) : Bool := l.all fun p => decide (PySem.W.exmOne K (.ref (ga K p.1)) (.ref (ga K p.2.1)) = some p.2.2)
theorem exmF_ok {K : PySem.W.Frag} {l : List (Str × Str × Bool)} (h : exmB l K = true) : ExmF K (exmOf l) := fun c d b e => by
  unfold exmOf at e
  cases q : l.find? fun p => p.1 == c && p.2.1 == d with
  | none => rw [q] at e; cases e
  | some p =>
    rw [q] at e
    cases e
    have m := List.mem_of_find?_eq_some q
    have z := List.find?_some q
    simp only [Bool.and_eq_true, beq_iff_eq] at z
    obtain ⟨rfl, rfl⟩ := z
    exact of_decide_eq_true (List.all_eq_true.mp h p m)
end L3
namespace L3
open PySem PySem.Spec PyProof.Rows L2
open He (ga)
/-! ### dicts with keys that are ints, texts -/
def kD : Key → D
  | .inl i => .int i
  | .inr s => .str s
theorem kD_inv {K : K3} {G : Gp} {H : Hp} {k : Key} {v : V} (r : Dv K G H (kD k) v) : v = kV k := by
  cases k with
  | inl i => cases r; rfl
  | inr s => cases r; rfl
def putA {α : Type} (kvs : List (Key × α)) (k : Key) (v : α) : List (Key × α) :=
  if (kvs.any fun kv => decide (kv.1 = k)) = true then kvs.map (fun kv => if kv.1 = k then (kv.1, v) else kv) else kvs ++ [(k, v)]
def mergeD (more : List (Key × D)) : List (Key × D) := more.foldl (fun acc kv => putA acc kv.1 kv.2) []
def anyD {α : Type} (kvs : List (Key × α)) (k : Key) : Bool := kvs.any fun kv => decide (kv.1 = k)
inductive KR (K : K3) (G : Gp) (H : Hp) : List (Key × D) → List (Key × V) → Prop
  | nil : KR K G H [] []
  | cons {k : Key} {d : D} {v : V} {ds : List (Key × D)} {vs : List (Key × V)} : Dv K G H d v → KR K G H ds vs → KR K G H ((k, d) :: ds) ((k, v) :: vs)
section
variable {K : K3} {G : Gp} {H : Hp}
theorem KR.keys : ∀ {ds : List (Key × D)} {vs : List (Key × V)}, KR K G H ds vs → vs = (ds.map (·.1)).zip (vs.map (·.2)) ∧ DvL K G H (ds.map (·.2)) (vs.map (·.2))
  | _, _, .nil => ⟨rfl, .nil⟩
  | _, _, .cons r t => by
    obtain ⟨h1, h2⟩ := KR.keys t
    refine ⟨?_, .cons r h2⟩
    simp only [List.map_cons, List.zip_cons_cons]
    rw [← h1]
theorem KR.of : ∀ {ds : List (Key × D)} {vs : List V}, DvL K G H (ds.map (·.2)) vs → KR K G H ds ((ds.map (·.1)).zip vs)
  | [], [], .nil => .nil
  | (k, d) :: ds, v :: vs, .cons r t => .cons r (KR.of t)
theorem KR.any : ∀ {ds : List (Key × D)} {vs : List (Key × V)}, KR K G H ds vs → ∀ k, anyD vs k = anyD ds k
  | _, _, .nil, _ => rfl
  | _, _, .cons r t, k => by
    unfold anyD
    rw [List.any_cons, List.any_cons]
    have := t.any k
    unfold anyD at this
    rw [this]
theorem KR.snoc : ∀ {ds : List (Key × D)} {vs : List (Key × V)} {k : Key} {d : D} {v : V}, KR K G H ds vs → Dv K G H d v → KR K G H (ds ++ [(k, d)]) (vs ++ [(k, v)])
  | _, _, _, _, _, .nil, r => .cons r .nil
  | _, _, _, _, _, .cons q t, r => .cons q (KR.snoc t r)
theorem KR.rep : ∀ {ds : List (Key × D)} {vs : List (Key × V)} {k : Key} {d : D} {v : V}, KR K G H ds vs → Dv K G H d v → KR K G H (ds.map fun kv => if kv.1 = k then (kv.1, d) else kv) (vs.map fun kv => if kv.1 = k then (kv.1, v) else kv)
  | _, _, _, _, _, .nil, r => .nil
  | _, _, k, _, _, .cons (k := j) q t, r => by
    rw [List.map_cons, List.map_cons]
    by_cases e : j = k
    · simp only [e, if_true]
      exact .cons r (KR.rep t r)
    · simp only [e, if_false]
      exact .cons q (KR.rep t r)
theorem KR.put {ds : List (Key × D)} {vs : List (Key × V)} {k : Key} {d : D} {v : V} (t : KR K G H ds vs) (r : Dv K G H d v) : KR K G H (putA ds k d) (putK vs k v) := by
  have e := t.any k
  unfold putA putK
  unfold anyD at e
  rw [e]
  split
  · exact t.rep r
  · exact t.snoc r
theorem KR.merge : ∀ {ms : List (Key × D)} {ws : List (Key × V)} {ds : List (Key × D)} {vs : List (Key × V)}, KR K G H ms ws → KR K G H ds vs → KR K G H (ms.foldl (fun acc kv => putA acc kv.1 kv.2) ds) (ws.foldl (fun acc kv => putK acc kv.1 kv.2) vs)
  | _, _, _, _, .nil, t => t
  | _, _, _, _, .cons (k := k) r q, t => by
    have z := KR.merge q (t.put (k := k) r)
    exact z
theorem pairs_of : ∀ {kvs : List (Key × D)} {vs : List V}, GH K G H → DvL K G H (kvs.map fun kv => .tup [kD kv.1, kv.2]) vs → ∃ (ps : List Addr) (ws : List (Key × V)), vs = ps.map V.ref ∧ Paired (fun p kv => SqT K.f H p [kV kv.1, kv.2]) ps ws ∧ KR K G H kvs ws
  | [], _, g, .nil => ⟨[], [], rfl, .nil, .nil⟩
  | (k, d) :: kvs, _, g, .cons r t => by
    obtain ⟨ps, ws, e, h1, h2⟩ := pairs_of g t
    subst e
    cases r with
    | tup s l =>
    cases l with
    | cons l1 l =>
    cases l with
    | cons l2 l =>
    cases l
    rename_i a v1 v2
    have := kD_inv l1
    subst this
    exact ⟨a :: ps, (k, v2) :: ws, rfl, .cons s h1, .cons l2 h2⟩
end
def bDict : QL := fun ds G Q => match ds with
  | [x] => ∃ kvs : List (Key × D), lq G x = some (kvs.map fun kv => .tup [kD kv.1, kv.2]) ∧ ∀ p, G p = none → Q (.ref p) (up G p (.dic (mergeD kvs)))
  | _ => False
section
variable {X : Cx} {Z : Zx} {W : WX}
theorem b_dict (hc : X.calm = true) : CallR3 X Z (.type "dict") bDict := by
  refine ⟨_, call_dictP hc, fun G H xs vs Q3 Q g r h q => ?_⟩
  unfold bDict at h
  split at h
  · cases r with
    | cons r1 r2 =>
    cases r2
    obtain ⟨kvs, e, h⟩ := h
    obtain ⟨a, us, ea, s, rl⟩ := lq_ok g r1 e
    obtain ⟨ps, ws, e2, h1, h2⟩ := pairs_of g rl
    subst e2
    refine ⟨a, ps, ws, by rw [ea], s, h1, fun p n => ?_⟩
    have m := KR.merge h2 (KR.nil (K := Cxk X Z) (G := G) (H := H))
    obtain ⟨m1, m2⟩ := m.keys
    have kp : Keep G H (up G p (.dic (mergeD kvs))) (upd H p (.dK (mergeK [] ws))) := Keep.newG n
    exact q _ _ _ _ (h p (g.free n)) (g.newG n ⟨_, by rw [upd_same]; exact congrArg (fun z => some (HO.dK z)) m1, m2.keep g kp⟩) (.ref p) kp
  · exact h.elim
/-- x in d -/
def tdin (neg : Bool) (ty td : TE3) : TE3 := fun σ G Q E => ty σ G (fun y G1 => td σ G1 (fun x G2 => ∃ p kvs k, x = .ref p ∧ G2 p = some (.dic kvs) ∧ y = kD k ∧ Q (.bl (if neg then !anyD kvs k else anyD kvs k)) G2) E) E
theorem din_k {ty td : TE3} {σ : St} {H : Hp} {Q : VK} (neg : Bool) (h : liftE (Cxk X Z) W (tdin neg ty td) σ H Q) : liftE (Cxk X Z) W ty σ H fun y H1 => liftE (Cxk X Z) W td σ H1 fun x H2 => ∃ a o, x = .ref a ∧ DGet H2 a y o ∧ Q (.bl (if neg then !o.isSome else o.isSome)) H2 := by
  obtain ⟨σ3, G, Q3, E3, g, rs, h, q, x⟩ := h
  refine ⟨σ3, G, _, E3, g, rs, h, fun d1 G1 v1 H1 h1 g1 r1 k1 => ?_, x⟩
  refine ⟨σ3, G1, _, E3, g1, rs.keep g k1, h1, fun d2 G2 v2 H2 ⟨p, kvs, k, e1, e2, e3, h2⟩ g2 r2 k2 => ?_, x.keep k1⟩
  subst e1 e3
  cases r2
  have := kD_inv r1
  subst this
  obtain ⟨vs, e4, r4⟩ := g2 p _ e2
  have a := (KR.of r4).any k
  refine ⟨p, _, rfl, DGet.k (k := k) e4, ?_⟩
  have va := valV_any k ((kvs.map (·.1)).zip vs)
  unfold anyD at a
  rw [← va, a]
  exact q _ _ _ _ h2 g2 (.bl _) (k1.trans k2)
variable {i o : Expr} {ty td : TE3} {pos : Pos} {k : Nat}
theorem din_ (hr : Room k X.A) (hi : PE3 X Z W i ty) (ho : PE3 X Z W o td) (hm : behindInMarks .In o = false := by rfl) : PE3 X Z W (.Compare i [.In] [o] pos) (tdin false ty td) :=
  PE.imp (pe_cmp (pc_din (by have := hr.units; omega) hi ho) hm) fun σ H Q h => din_k false h
theorem tdin_ (hr : Room k X.A) (hi : PE3 X Z W i ty) (ho : PE3 X Z W o td) (hm : behindInMarks .In o = false := by rfl) : PT3 X Z W (.Compare i [.In] [o] pos) (tb3 (tdin false ty td)) :=
  PT.imp (pt_cmp (pc_din (by have := hr.units; omega) hi ho) hm) fun σ H Q hq => din_k (W := W) (Q := fun x H' => ∃ k, x = .bl k ∧ Q k H') false (by
    obtain ⟨σ3, G, Q3, E3, g, rs, h, q, x⟩ := hq
    refine ⟨σ3, G, _, E3, g, rs, h, fun d G1 v H1 ⟨b, e, h1⟩ g1 r1 k1 => ?_, x⟩
    subst e
    cases r1
    exact ⟨b, rfl, q b G1 H1 h1 g1 k1⟩)
/-- xs[::-1] -/
def trev (m : Bool) (te : TE3) : TE3 := fun σ G Q E => te σ G (fun x G1 => ∃ xs, lq G1 x = some xs ∧ outL m xs.reverse G1 Q) E
theorem rev_ (m : Bool) {e : Expr} {te : TE3} {j : Nat} {p1 p2 p3 : Pos} (he : PE3 X Z W e te) : PE3 X Z W (.Subscript e (.Slice none none (some (.UnaryOp .USub (.Constant (.int 1) j p1) p2)) p3) pos) (trev m te) := PE.imp (pe_revL he) fun σ H Q h => by
  obtain ⟨σ3, G, Q3, E3, g, rs, h, q, x⟩ := h
  refine ⟨σ3, G, _, E3, g, rs, h, fun d G1 v H1 ⟨xs, e, h1⟩ g1 r1 k1 => ?_, x⟩
  obtain ⟨a, us, ea, s, rl⟩ := lq_ok g1 r1 e
  exact ⟨a, us, ea, s, fun p n => outL_ok m g1 rl.reverse (q.keep k1) h1 n⟩
end
end L3
namespace L3
open PySem PySem.Spec PyProof.Rows L2
open He (ga)
/-! ### constant tuples of the module -/
/-- what a constant tuple holds -/
inductive Cn where
  | s (x : Str) | i (i : Int) | n
  deriving DecidableEq
def Cn.d : Cn → D
  | .s z => .str z
  | .i z => .int z
  | .n => .non
def Cn.v : Cn → V
  | .s z => .str z
  | .i z => .int z
  | .n => .non
def TupF (K : PySem.W.Frag) (a : Addr) (xs : List Cn) : Prop :=
  ∃ (o : Obj) (its : Array Value) (n : Nat), K.lookup a = some o ∧ o.cls = .type "tuple" ∧ o.data = .seq its n ∧ its.size ≤ sizeLine ∧ Vals (xs.map Cn.v) its.toList
def cnsB : List Cn → List Value → Bool
  | [], [] => true
  | .s x :: xs, .str y _ :: ys => decide (x = y) && cnsB xs ys
  | .i x :: xs, .int y _ :: ys => decide (x = y) && cnsB xs ys
  | .n :: xs, .none :: ys => cnsB xs ys
  | _, _ => false
theorem cns_ok : ∀ {xs : List Cn} {ys : List Value}, cnsB xs ys = true → Vals (xs.map Cn.v) ys := by
  intro xs ys
  induction xs, ys using cnsB.induct with
  | case1 => exact fun _ => .nil
  | case2 x xs y t ys ih =>
    intro h
    unfold cnsB at h
    obtain ⟨h1, h2⟩ := He.ba h
    have h1 := of_decide_eq_true h1
    subst h1
    exact .cons ⟨t, rfl⟩ (ih h2)
  | case3 x xs y t ys ih =>
    intro h
    unfold cnsB at h
    obtain ⟨h1, h2⟩ := He.ba h
    have h1 := of_decide_eq_true h1
    subst h1
    exact .cons ⟨t, rfl⟩ (ih h2)
  | case4 xs ys ih =>
    intro h
    unfold cnsB at h
    exact .cons rfl (ih h)
  | case5 xs ys h1 h2 h3 h4 => 
    intro h
    unfold cnsB at h
    split at h
    · exact absurd rfl (h1 rfl)
    · exact (h2 _ _ _ _ _ rfl rfl).elim
    · exact (h3 _ _ _ _ _ rfl rfl).elim
    · exact (h4 _ _ rfl rfl).elim
    · cases h
def tupB (x : Str) (xs : List Cn) (K : PySem.W.Frag) : Bool := match K.lookup (ga K x) with
  | some o => decide (o.cls = .type "tuple") && (match o.data with
    | .seq its _ => decide (its.size ≤ sizeLine) && cnsB xs its.toList
    | _ => false)
  | _ => false
theorem tupF_ok {K : PySem.W.Frag} {x : Str} {xs : List Cn} (h : tupB x xs K = true) : TupF K (ga K x) xs := by
  unfold tupB at h
  cases e : K.lookup (ga K x) with
  | none => rw [e] at h; cases h
  | some o =>
    rw [e] at h
    obtain ⟨h1, h2⟩ := He.ba h
    cases e2 : o.data with
    | seq its n =>
      rw [e2] at h2
      obtain ⟨h2, h3⟩ := He.ba h2
      exact ⟨o, its, n, e, of_decide_eq_true h1, e2, of_decide_eq_true h2, cns_ok h3⟩
    | _ => rw [e2] at h2; cases h2
theorem cns_dv {K : K3} {G : Gp} {H : Hp} : ∀ xs : List Cn, DvL K G H (xs.map Cn.d) (xs.map Cn.v)
  | [] => .nil
  | .s x :: xs => .cons (.str x) (cns_dv xs)
  | .i x :: xs => .cons (.int x) (cns_dv xs)
  | .n :: xs => .cons .non (cns_dv xs)
section
variable {X : Cx} {Z : Zx} {W : WX} {pos : Pos}
theorem cgt_ {x : Str} {xs : List Cn} {ds : List D} {a : Addr} (hm : X.mg x = some (.ref a)) (t : TupF X.K a xs) (e : xs.map Cn.d = ds := by rfl) (hg : Gl X x := by rfl) (hd : (x == ("__debug__" : Str)) = false := by decide +kernel) : PE3 X Z W (.Name x pos) (tc (.tup ds)) := by
  subst e
  exact cg_ (v := .ref a) hm rfl (fun _ _ => .tup (.inr t) (cns_dv xs)) hg hd
end
end L3
/-! ### enumerate of a tuple, of a list -/
namespace PySem
open Sem (wp)
theorem l3_enum_newB {v : Value} {o : Obj} {H : Heap → Prop} (B : Begins v o H) :
    Meets (Builtin.«enumerate.__new__» ⟨[.type "enumerate", v], []⟩) (fun _ R s => H s.heap ∧
      R (.ok (.ret (.ref (s.heap.push o).objs.size))) { s with heap := (s.heap.push o).push { cls := .type "enumerate", data := .fields #[.none, .bool false, .ref s.heap.objs.size, rawInt 0, .none, .none] } }) :=
  .of_wp fun prog w A R s h => by
    obtain ⟨hp, g, d, tk, os⟩ := s; obtain ⟨h1, h⟩ := h
    have hsub := sub_enumerate
    have q1 : ∀ {A' : Around} {E : Value → Shared → Prop} {Q : Value → Shared → Prop}, Q (.ref hp.objs.size) ⟨hp.push o, g, d, tk, os⟩ → wpAny (model prog w) A' (pyIter v) Q E ⟨hp, g, d, tk, os⟩ :=
      fun q => B.iter prog w _ _ ⟨hp, g, d, tk, os⟩ _ h1 q
    wp_walk using q1
    refine wpAny_stack_any fun st => wpAny_pure ?_
    split
    · rename_i c _ _ _ _ _
      cases (c == Value.type "enumerate")
      · wp_walk using q1
        exact ⟨_, rfl, h⟩
      · wp_walk using q1
        exact ⟨_, rfl, h⟩
    · wp_walk using q1
      exact ⟨_, rfl, h⟩
section
variable {prog : Program} {w : World} {A : Around} {E : Value → Shared → Prop} {s : Shared}
theorem l3_call_enumB {v : Value} {o : Obj} {H : Heap → Prop} {Q : Value → Shared → Prop} (B : Begins v o H) (h1 : H s.heap)
    (h : ∀ h', IsEnum h' (s.heap.objs.size + 1) s.heap.objs.size 0 .none → h'.get? s.heap.objs.size = some o → h'.objs.size = s.heap.objs.size + 2 →
      (∀ b o, s.heap.get? b = some o → h'.get? b = some o) → Q (.ref (s.heap.objs.size + 1)) { s with heap := h' }) :
    wpAny (model prog w) A (call (.type "enumerate") [v]) Q E s := by
  refine callType_new F.called_enumerate (by decide) (F.typeCall_enumerate_1 _) (F.newCall_enumerate_1 _) (fun obj => F.args_object_init_2 obj _) F.entry_enumerate_new
    (l3_enum_newB B) ⟨h1, ?_⟩
  have hz : (s.heap.push o).objs.size = s.heap.objs.size + 1 := Heap.size_push ..
  show _ ∧ _
  rw [hz]
  have he : IsEnum ((s.heap.push o).push { cls := .type "enumerate", data := .fields #[.none, .bool false, .ref s.heap.objs.size, rawInt 0, .none, .none] }) (s.heap.objs.size + 1) s.heap.objs.size 0 .none := by
    have := Heap.get?_push_size (s.heap.push o) (o := { cls := .type "enumerate", data := .fields #[.none, .bool false, .ref s.heap.objs.size, rawInt 0, .none, .none] }) rfl
    rw [hz] at this; exact this
  refine ⟨⟨_, he, rfl⟩, h _ he (Heap.get?_push_of_some _ (Heap.get?_push_size _ B.free)) (by rw [Heap.size_push, hz]) fun b o x => Heap.get?_push_of_some _ (Heap.get?_push_of_some _ x)⟩
end
end PySem
namespace L3
open PySem PySem.Spec PyProof.Rows L2
open He (ga)
def IteT (K : PySem.W.Frag) (a : Addr) : It :=
  ⟨fun i H => ∃ (xs : List V) (x : V), SqT K H a xs ∧ xs[i]? = some x, fun i H v H' => ∃ T x, v = .ref T ∧ H T = none ∧ H' = upd H T (.tup [.int (i : Nat), x]) ∧ ∀ xs, SqT K H a xs → xs[i]? = some x, fun i H => ∃ xs : List V, SqT K H a xs ∧ xs.length = i⟩
theorem turn_enumT {P : Program} {w : World} {K : PySem.W.Frag} {elts : List Expr} {kk : Nat} {tpos : Pos} (a e it : Addr) (hai : a ≠ it) (hae : a ≠ e) :
    Turn P w K (.Tuple elts kk tpos) (IteT K a) [e, it] e (fun i h => (∃ old, IsEnum h e it ((i : Nat) : Int) old) ∧ h.IsTupleIter it a i ∧ e ≠ it) where
  mem := by simp
  obj := fun i h st b hb => by
    obtain ⟨⟨old, he⟩, ⟨o, ho, hc, hd⟩, _⟩ := st
    have e' : b = e ∨ b = it := by simpa using hb
    rcases e' with z | z
    · rw [z]; exact ⟨_, he, fun v q => nomatch q⟩
    · rw [z]; exact ⟨o, ho, fun v q => by rw [hd] at q; cases q⟩
  keep := fun i h h' st k => let ⟨⟨old, he⟩, hi, hne⟩ := st; ⟨⟨old, k e (by simp) _ he⟩, hi.at fun o q => k it (by simp) o q, hne⟩
  item := by
    intro X hP hw hK hc i pins s σ H E I hf st hg
    subst hP hw hK
    obtain ⟨⟨old, he⟩, hit, hne⟩ := st
    obtain ⟨xs, x, hq, hx⟩ := hg
    obtain ⟨its, rv, p, hz⟩ := I.tuple hq
    obtain ⟨u, hu, ru⟩ := rv.get hx
    have hel : e < s.heap.objs.size := Heap.lt_size he
    have hil : it < s.heap.objs.size := by obtain ⟨_, q, _⟩ := hit; exact Heap.lt_size q
    have ilt : i < its.length := (List.getElem?_eq_some_iff.mp hu).1
    refine wpAny_pyNext_enum_itemD (Draws.tuple (A := X.A.in1) (show X.A.in1.handled = none from I.ok.hd hc) it a hai its.toArray) he (i := i) ⟨hit, p⟩ (by simpa using ilt) hne (by simp; exact ⟨hne, fun z => hae z.symm⟩) fun x' h' tk hPx ho hit' hT hsz hk => ?_
    have ex : x' = u := by
      have hPx : its.toArray[i]? = some x' := hPx
      rw [List.getElem?_toArray, hu] at hPx
      exact (Option.some.inj hPx).symm
    subst ex
    refine ⟨_, rfl, wpAny_letOwnedTupleGo_enum (s := { s with heap := h', toks := tk + 1 }) ho fun h'' he' sb => ?_⟩
    have hT2 : h''.get? s.heap.objs.size = some { cls := .type "tuple", data := .seq #[.int i tk, x'] } := (sb.2 _ (Nat.ne_of_gt hel)).trans hT
    have new : ObjOk X.prog X.w (upd H s.heap.objs.size (.tup [.int (i : Nat), x])) h'' s.heap.objs.size (.tup [.int (i : Nat), x]) :=
      ⟨by show 2 ≤ sizeLine; decide, [.int i tk, x'], .cons ⟨_, rfl⟩ (.cons ru .nil), ⟨_, hT2, rfl, _, rfl⟩⟩
    have I1 : Inv X pins σ (upd H s.heap.objs.size (.tup [.int (i : Nat), x])) { s with heap := h'', toks := tk + 1 } :=
      I.turnedNew (ch := [e, it]) (fun b ob hb q => (sb.2 b (fun z => hb (by simp [z]))).trans (hk b ob (fun z => hb (by simp [z])) (fun z => hb (by simp [z])) q)) hf (Nat.le_refl _) new
    refine ⟨.ref s.heap.objs.size, _, I1, rfl, ⟨_, x, rfl, I.hok.fresh (Nat.le_refl _), rfl, fun ys hy => by rw [I.tuple_inj hy hq]; exact hx⟩, ⟨⟨x', ?_⟩, hit'.1.at fun o q => (sb.2 it (Ne.symm hne)).trans q, hne⟩, fun b hb => ?_⟩
    · have e1 : ((i + 1 : Nat) : Int) = (i : Int) + 1 := by omega
      rw [e1]; exact he'
    · have hb' : b < s.heap.objs.size := by
        have e' : b = e ∨ b = it := by simpa using hb
        rcases e' with z | z
        · rw [z]; exact hel
        · rw [z]; exact hil
      rw [upd_ne (Nat.ne_of_lt hb')]
      exact (hf b hb).1
  done := by
    intro X hP hw hK hc i pins s σ H E I hf st hg
    subst hP hw hK
    obtain ⟨⟨old, he⟩, hit, hne⟩ := st
    obtain ⟨xs, hq, hx⟩ := hg
    obtain ⟨its, rv, p, hz⟩ := I.tuple hq
    obtain ⟨f0, f1, f2, f3, f4, f5⟩ := hf it (by simp)
    have hl := rv.length
    have e1 : i = its.toArray.size := by simp; omega
    subst e1
    exact wpAny_pyNext_enum_endD (Draws.tuple (A := X.A.in1) (show X.A.in1.handled = none from I.ok.hd hc) it a hai its.toArray) he ⟨hit, p⟩ fun h' eb => ⟨rfl, I.turned (t' := s.toks) (fun b o hb q => eb b o hb q) f0 f1 f3 f4 f5⟩
  self := fun A i s Q E st h => let ⟨⟨_, he⟩, _⟩ := st; wpAny_pyIter_enum he h
def iEnumA (K : PySem.W.Frag) (ta : TA) : TI := fun σ H R => ta σ H fun vs H1 => ∃ a, vs = [.ref a] ∧ (((∃ xs, SqL K H1 a xs) ∧ R (Ite K a) H1) ∨ ((∃ xs, SqT K H1 a xs) ∧ R (IteT K a) H1))
theorem pi_enumA {X : Cx} {e : Expr} {ta : TA} {p pos tpos : Pos} {elts : List Expr} {kk : Nat} (hg : Gl X "enumerate") (hm : X.mg "enumerate" = none) (ha : PA X [e] ta) (hs : starEach [e] X.env = [(false, eval e X.env)] := by rfl) :
    PI X (.Tuple elts kk tpos) (.Call (.Name "enumerate" p) [e] [] pos) (iEnumA X.K ta) := by
  refine ⟨fun pins s σ H R I h => ?_⟩
  refine Call_ (ld_blt I hg hm boot_enumerate (PyProof.Rows.callWith_type1 (thn (ha.run pos pins s σ H _ I h) fun us s1 ⟨vs, H1, I1, r1, q1⟩ => ?_) hs rfl))
  obtain ⟨a, ex, q1⟩ := q1
  subst ex
  cases r1 with
  | cons r rr =>
    cases rr
    cases r
    have fp : ∀ b, b ∈ [s1.heap.objs.size + 1, s1.heap.objs.size] → FpOk X pins H1 b := fun b hb => by
      have e' : b = s1.heap.objs.size + 1 ∨ b = s1.heap.objs.size := by simpa using hb
      have hle : s1.heap.objs.size ≤ b := by
        rcases e' with z | z
        · rw [z]; exact Nat.le_add_right _ _
        · rw [z]; exact Nat.le_refl _
      exact I1.fpOk hle (I1.hok.fresh hle)
    rcases q1 with ⟨⟨xs, hq⟩, q⟩ | ⟨⟨xs, hq⟩, q⟩
    · obtain ⟨its, rv, p', hz⟩ := I1.list hq
      refine call_enumerate_list p'.isList fun h' he hit hsz hk => wpAny_pyIter_enum he ?_
      have I2 : Inv X pins σ H1 { s1 with heap := h' } := I1.kept (t' := s1.toks) hk
      exact ⟨s1.heap.objs.size + 1, [s1.heap.objs.size + 1, s1.heap.objs.size], _, _, H1, rfl, I2, turn_enum a (s1.heap.objs.size + 1) s1.heap.objs.size, ⟨⟨.none, he⟩, hit, Nat.succ_ne_self _⟩, fp, q⟩
    · obtain ⟨its, rv, p', hz⟩ := I1.tuple hq
      obtain ⟨o1, ho1, _⟩ := id p'
      have al : a < s1.heap.objs.size := Heap.lt_size ho1
      refine l3_call_enumB (begins_tuple a its.toArray) (show s1.heap.IsTuple a its.toArray from p') fun h' he hit hsz hk => wpAny_pyIter_enum he ?_
      have I2 : Inv X pins σ H1 { s1 with heap := h' } := I1.kept (t' := s1.toks) hk
      exact ⟨s1.heap.objs.size + 1, [s1.heap.objs.size + 1, s1.heap.objs.size], _, _, H1, rfl, I2, turn_enumT a (s1.heap.objs.size + 1) s1.heap.objs.size (Nat.ne_of_lt al) (Nat.ne_of_lt (Nat.lt_succ_of_lt al)), ⟨⟨.none, he⟩, ⟨_, hit, rfl, rfl⟩, Nat.succ_ne_self _⟩, fp, q⟩
def enD (xs : List D) : List D := xs.mapIdx fun i x => D.tup [.int (i : Nat), x]
theorem enD_len {xs : List D} : (enD xs).length = xs.length := List.length_mapIdx
theorem enD_get {xs : List D} {i : Nat} {y : D} (h : (enD xs)[i]? = some y) : ∃ x, xs[i]? = some x ∧ y = .tup [.int (i : Nat), x] := by
  unfold enD at h
  rw [List.getElem?_mapIdx] at h
  cases e : xs[i]? with
  | none => rw [e] at h; cases h
  | some x => rw [e] at h; cases h; exact ⟨x, rfl, rfl⟩
def ienum (ta : TA3) : TI3 := fun σ G R E => ta σ G (fun ds G1 => ∃ d xs, ds = [d] ∧ sq G1 d = some xs ∧ R (enD xs) (gdOf d xs) G1) E
section
variable {K : K3} {G : Gp} {H : Hp}
theorem itr_enL {d : D} {a : Addr} {xs : List D} (g : GH K G H) (r : Dv K G H d (.ref a)) (e : lq G d = some xs) : ItR K G H (Ite K.f a) (enD xs) (gdOf d xs) := by
  have key : ∀ G1 H1, Keep G H G1 H1 → GH K G1 H1 → gdOf d xs G1 → ∃ ws, SqL K.f H1 a ws ∧ DvL K G1 H1 xs ws := fun G1 H1 k g1 gd => by
    have r1 := r.keep g k
    have e1 : lq G1 d = some xs := by
      cases d with
      | ref p => unfold lq; simp only; rw [show G1 p = some (.lst xs) from gd]
      | _ => exact e
    obtain ⟨b, ws, eb, s, rl⟩ := lq_ok g1 r1 e1
    cases eb
    exact ⟨ws, s, rl⟩
  refine ⟨fun G1 H1 k g1 gd => ?_, fun i G1 H1 hi k g1 gd => ?_, fun i x v G1 H1 H2 hi k g1 gd y => ?_⟩
  · obtain ⟨ws, s, rl⟩ := key G1 H1 k g1 gd
    exact ⟨ws, s, by rw [enD_len, rl.length]; exact Nat.le_refl _⟩
  · obtain ⟨ws, s, rl⟩ := key G1 H1 k g1 gd
    rw [enD_len] at hi
    have : i < ws.length := by rw [← rl.length]; exact hi
    exact ⟨ws, ws[i], s, by simp [this]⟩
  · obtain ⟨ws, s, rl⟩ := key G1 H1 k g1 gd
    obtain ⟨T, u, rfl, nT, rfl, h1⟩ := y
    obtain ⟨x', e1, rfl⟩ := enD_get hi
    obtain ⟨w, h3, h2⟩ := rl.get e1
    rw [h1 ws s] at h3
    cases h3
    have kn := Keep.new (G := G1) (o := .tup [.int (i : Nat), u]) nT
    exact ⟨g1.new nT, kn, .tup (SqT.of upd_same) (.cons (.int _) (.cons (h2.keep g1 kn) .nil))⟩
theorem itr_enT {a : Addr} {xs : List D} (g : GH K G H) (r : Dv K G H (.tup xs) (.ref a)) : ItR K G H (IteT K.f a) (enD xs) (fun _ => True) := by
  have key : ∀ G1 H1, Keep G H G1 H1 → ∃ ws, SqT K.f H1 a ws ∧ DvL K G1 H1 xs ws := fun G1 H1 k => by
    have r1 := r.keep g k
    cases r1 with
    | tup s rl => exact ⟨_, s, rl⟩
  refine ⟨fun G1 H1 k g1 gd => ?_, fun i G1 H1 hi k g1 gd => ?_, fun i x v G1 H1 H2 hi k g1 gd y => ?_⟩
  · obtain ⟨ws, s, rl⟩ := key G1 H1 k
    exact ⟨ws, s, by rw [enD_len, rl.length]⟩
  · obtain ⟨ws, s, rl⟩ := key G1 H1 k
    rw [enD_len] at hi
    have : i < ws.length := by rw [← rl.length]; exact hi
    exact ⟨ws, ws[i], s, by simp [this]⟩
  · obtain ⟨ws, s, rl⟩ := key G1 H1 k
    obtain ⟨T, u, rfl, nT, rfl, h1⟩ := y
    obtain ⟨x', e1, rfl⟩ := enD_get hi
    obtain ⟨w, h3, h2⟩ := rl.get e1
    rw [h1 ws s] at h3
    cases h3
    have kn := Keep.new (G := G1) (o := .tup [.int (i : Nat), u]) nT
    exact ⟨g1.new nT, kn, .tup (SqT.of upd_same) (.cons (.int _) (.cons (h2.keep g1 kn) .nil))⟩
end
theorem ienum_ {X : Cx} {Z : Zx} {W : WX} {e : Expr} {ta : TA3} {p pos tpos : Pos} {elts : List Expr} {kk : Nat} (hm : X.mg "enumerate" = none) (ha : PA3 X Z W [e] ta) (hg : Gl X "enumerate" := by rfl)
    (hs : starEach [e] X.env = [(false, eval e X.env)] := by rfl) :
    PI3 X Z W (.Tuple elts kk tpos) (.Call (.Name "enumerate" p) [e] [] pos) (ienum ta) := PI.imp (pi_enumA hg hm ha hs) fun σ H R h => by
  obtain ⟨σ3, G, R3, E3, g, rs, h, q, x⟩ := h
  refine ⟨σ3, G, _, E3, g, rs, h, fun ds G1 vs H1 ⟨d, xs, ed, e, h1⟩ g1 r1 k1 => ?_, x⟩
  subst ed
  cases r1 with
  | cons r1 rr =>
  cases rr
  by_cases ht : ∃ ys, d = .tup ys
  · obtain ⟨ys, rfl⟩ := ht
    cases e
    have r0 := r1
    cases r1 with
    | tup s rl => exact ⟨_, rfl, .inr ⟨⟨_, s⟩, q _ _ _ _ _ h1 g1 k1 (itr_enT g1 r0)⟩⟩
  · have e' := lq_of e fun ys z => ht ⟨ys, z⟩
    obtain ⟨a, vs, ea, s, rl⟩ := lq_ok g1 r1 e'
    subst ea
    exact ⟨_, rfl, .inl ⟨⟨_, s⟩, q _ _ _ _ _ h1 g1 k1 (itr_enL g1 r1 e')⟩⟩
end L3
namespace L3
open PySem PySem.Spec PyProof.Rows L2
open He (ga)
/-! ### constant dicts of the module: text keys, ints -/
def lkI : List (Str × Int) → Str → Option Int
  | [], _ => none
  | (k, i) :: r, z => if k == z then some i else lkI r z
def entsB : List (Str × Int) → List DictEntry → Bool
  | [], [] => true
  | (k, i) :: r, e :: es => (match e.key, e.val with
    | .str x _, .int j _ => decide (x = k) && decide (j = i)
    | _, _ => false) && entsB r es
  | _, _ => false
def tabI (x : Str) (kvs : List (Str × Int)) (K : PySem.W.Frag) : Bool := match K.lookup (ga K x) with
  | some o => (match o.data with
    | .dict es _ => entsB kvs es.toList
    | _ => false)
  | _ => false
structure TabF (K : PySem.W.Frag) (w : World) (d : Addr) (kvs : List (Str × Int)) : Prop where
  dk : ∃ es n, KDict K w d es n ∧ entsB kvs es.toList = true
theorem tabF_ok {K : PySem.W.Frag} {w : World} {x : Str} {kvs : List (Str × Int)} (h : tabI x kvs K = true) (c : ∃ es n, KDict K w (ga K x) es n) : TabF K w (ga K x) kvs := by
  obtain ⟨es, n, D⟩ := c
  refine ⟨es, n, D, ?_⟩
  unfold tabI at h
  rw [D.at_] at h
  exact h
theorem ents_find : ∀ {kvs : List (Str × Int)} {l : List DictEntry}, entsB kvs l = true → ∀ z, (match lkI kvs z with
    | some i => ∃ t, (l.find? fun e => Value.isStrOf z e.key).map (·.val) = some (.int i t)
    | none => (l.find? fun e => Value.isStrOf z e.key).map (·.val) = none)
  | [], [], _, z => rfl
  | [], _ :: _, h, _ => by cases h
  | _ :: _, [], h, _ => by cases h
  | (k, i) :: r, e :: es, h, z => by
    have h : ((match e.key, e.val with
      | .str x _, .int j _ => decide (x = k) && decide (j = i)
      | _, _ => false) && entsB r es) = true := h
    obtain ⟨h1, h2⟩ := He.ba h
    have ih := ents_find h2 z
    obtain ⟨hh, ek, ev⟩ := e
    dsimp only at h1
    cases ek with
    | str x t =>
      cases ev with
      | int j u =>
        obtain ⟨h3, h4⟩ := He.ba h1
        have h3 := of_decide_eq_true h3
        have h4 := of_decide_eq_true h4
        subst h3 h4
        have e1 : Value.isStrOf z (Value.str x t) = (x == z) := rfl
        rw [List.find?_cons]
        dsimp only
        rw [e1]
        show (match (if x == z then some j else lkI r z) with
          | some i => _
          | none => _)
        cases q : x == z with
        | true => exact ⟨u, rfl⟩
        | false => exact ih
      | _ => cases h1
    | _ => simp at h1
section
variable {X : Cx} {x : Str} {d : Addr} {kvs : List (Str × Int)} {i e f : Expr} {ty tx : TE} {p pos apos cpos : Pos}
theorem tab_map {pins : List (Addr × Obj)} {σ : L2.St} {H : Hp} {s : Shared} (T : TabF X.K X.w d kvs) (I : Inv X pins σ H s) : ∃ g : Str → Option Value, s.heap.MapOf (strKind X.prog X.w) d g ∧ (d == sysModules) = false ∧
    ∀ z, (match lkI kvs z with | some i => ∃ t, g z = some (.int i t) | none => g z = none) := by
  obtain ⟨es, n, D, he⟩ := T.dk
  refine ⟨_, PySem.W.mapOf_K (prog := X.prog) I.kIn D.at_ D.lit, D.low, fun z => ?_⟩
  have := ents_find he z
  obtain ⟨l⟩ := es
  unfold findBy
  rw [List.find?_toArray]
  exact this
theorem pe_kix (hm : X.mg x = some (.ref d)) (T : TabF X.K X.w d kvs) (hi : PE X i ty) (hs : NoSl i) (hg : Gl X x) (hd : (x == ("__debug__" : Str)) = false) :
    PE X (.Subscript (.Name x p) i pos) (fun σ H Q => ty σ H fun y H2 => ∃ z j, y = .str z ∧ lkI kvs z = some j ∧ Q (.int j) H2) := by
  refine ⟨fun pins s σ H Q I h => ?_⟩
  refine subD_of PySem.F.slot_dict_getitem.lookup hs (thn ((pe_glob (v := .ref d) hg hm rfl hd).run pins s σ H (fun v H' => v = .ref d ∧ ty σ H' fun y H2 => ∃ z j, y = .str z ∧ lkI kvs z = some j ∧ Q (.int j) H2) I ⟨rfl, h⟩) fun u s1 ⟨x1, H1, I1, rx, ex, q1⟩ => thn (hi.run pins s1 σ H1 _ I1 q1) fun iv s2 ⟨y, H2, I2, ry, z, j, ey, l, q2⟩ => ?_)
  subst ex ey
  obtain rfl : u = Value.ref d := rx
  obtain ⟨t, rfl⟩ := ry
  obtain ⟨g, M, lo, hz⟩ := tab_map T I2
  have hz := hz z
  rw [l] at hz
  obtain ⟨t2, hz⟩ := hz
  exact ⟨M.typeIs, wpAny_getItem_of (PySem.strKind_is X.prog X.w z t) M hz ⟨.int j, H2, I2.tok _, ⟨_, rfl⟩, q2⟩⟩
theorem pe_kget (hm : X.mg x = some (.ref d)) (T : TabF X.K X.w d kvs) (he : PE X e ty) (hf : PE X f tx) (m : M2 X (.Name x p) "get" apos e f cpos) (hg : Gl X x) (hd : (x == ("__debug__" : Str)) = false) :
    PE X (.Call (.Attribute (.Name x p) "get" apos) [e, f] [] cpos) (fun σ H Q => ty σ H fun y H2 => tx σ H2 fun v H3 => ∃ z, y = .str z ∧ Q (match lkI kvs z with | some j => .int j | none => v) H3) := by
  refine ⟨fun pins s σ H Q I h => ?_⟩
  refine wpAny_Call_method m.base m.few m.line PySem.F.plainAttrs_dict PySem.F.slot_dict_get PySem.F.type_dict_get (thn ((pe_glob (v := .ref d) hg hm rfl hd).run pins s σ H (fun v H' => v = .ref d ∧ ty σ H' fun y H2 => tx σ H2 fun v H3 => ∃ z, y = .str z ∧ Q (match lkI kvs z with | some j => .int j | none => v) H3) I ⟨rfl, h⟩) fun u s1 ⟨x1, H1, I1, rx, ex, q1⟩ => ?_)
  subst ex
  obtain rfl : u = Value.ref d := rx
  obtain ⟨g, M, lo, hz⟩ := tab_map T I1
  refine ⟨M.typeIs, fun b q => ?_, ?_⟩
  · cases q
    obtain ⟨es, n, D, _⟩ := T.dk
    exact ⟨_, I1.kIn _ _ D.at_, rfl⟩
  rw [m.trees]
  refine Calls.callWith_builtin rfl (Calls.evalArgs_plain (Calls.spliced_cons (thn (he.run pins s1 σ H1 _ I1 q1) fun iv s2 ⟨y, H2, I2, ry, q2⟩ =>
    Calls.spliced_cons (thn (hf.run pins s2 σ H2 _ I2 q2) fun fv s3 ⟨v, H3, I3, rv, z, ey, q3⟩ => Calls.spliced_nil ?_))))
  subst ey
  obtain ⟨t, rfl⟩ := ry
  obtain ⟨g, M, lo, hz⟩ := tab_map T I3
  refine call_meetsIn PySem.F.slot_dict_get M.typeIs PySem.F.entry_dict_get (PySem.F.args_dict_get_3 _ _ _) (meets_dict_get_default (strKind X.prog X.w) d (PySem.strKind_is X.prog X.w z t) lo fv) ⟨_, M, _, H3, I3.tok _, ?_, q3⟩
  have hz := hz z
  cases l : lkI kvs z with
  | none => rw [l] at hz; rw [hz]; exact rv
  | some j => rw [l] at hz; obtain ⟨t2, hz⟩ := hz; rw [hz]; exact ⟨_, rfl⟩
end
/-- C[y], C a constant dict -/
def tkix (kvs : List (Str × Int)) (ty : TE3) : TE3 := fun σ G Q E => ty σ G (fun y G1 => ∃ z j, y = .str z ∧ lkI kvs z = some j ∧ Q (.int j) G1) E
/-- C.get(y, x) -/
def tkget (kvs : List (Str × Int)) (ty tx : TE3) : TE3 := fun σ G Q E => ty σ G (fun y G1 => tx σ G1 (fun v G2 => ∃ z, y = .str z ∧ Q (match lkI kvs z with | some j => .int j | none => v) G2) E) E
section
variable {X : Cx} {Z : Zx} {W : WX} {x : Str} {d : Addr} {kvs : List (Str × Int)} {i e f : Expr} {ty tx : TE3} {p pos apos cpos : Pos}
theorem kix_ (hm : X.mg x = some (.ref d)) (T : TabF X.K X.w d kvs) (hi : PE3 X Z W i ty) (hs : NoSl i) (hg : Gl X x := by rfl) (hd : (x == ("__debug__" : Str)) = false := by decide +kernel) :
    PE3 X Z W (.Subscript (.Name x p) i pos) (tkix kvs ty) := PE.imp (pe_kix hm T hi hs hg hd) fun σ H Q h => by
  obtain ⟨σ3, G, Q3, E3, g, rs, h, q, xx⟩ := h
  refine ⟨σ3, G, _, E3, g, rs, h, fun y G1 v H1 ⟨z, j, e, l, h1⟩ g1 r1 k1 => ?_, xx⟩
  subst e
  cases r1
  exact ⟨z, j, rfl, l, q_of (q.keep k1) g1 h1 (.int _)⟩
theorem kget_ (hm : X.mg x = some (.ref d)) (T : TabF X.K X.w d kvs) (he : PE3 X Z W e ty) (hf : PE3 X Z W f tx) (hg : Gl X x := by rfl) (hd : (x == ("__debug__" : Str)) = false := by decide +kernel)
    (hbase : attributeBase (.Name x p) "get" X.env (eval (.Name x p) X.env) = eval (.Name x p) X.env := by rfl)
    (hfew : ((backTo cpos (starEach [e, f] X.env)).all (fun x => !x.1) && (backToKw cpos (keywordEach [] X.env)).all (fun x => x.1.isSome)
      && decide (([e, f] : List Expr).length + ([] : List Keyword).length + (if ([] : List Keyword).isEmpty then 0 else 1) < 30)) = true := by rfl)
    (hline : (apos.endLine == cpos.line) = true := by rfl) (htr : backTo cpos (starEach [e, f] X.env) = [(false, eval e X.env), (false, eval f X.env)] := by rfl) :
    PE3 X Z W (.Call (.Attribute (.Name x p) "get" apos) [e, f] [] cpos) (tkget kvs ty tx) := PE.imp (pe_kget hm T he hf ⟨hbase, hfew, hline, htr⟩ hg hd) fun σ H Q h => by
  obtain ⟨σ3, G, Q3, E3, g, rs, h, q, xx⟩ := h
  refine ⟨σ3, G, _, E3, g, rs, h, fun y G1 v H1 h1 g1 r1 k1 => ?_, xx⟩
  refine ⟨σ3, G1, _, E3, g1, rs.keep g k1, h1, fun d2 G2 v2 H2 ⟨z, e, h2⟩ g2 r2 k2 => ?_, xx.keep k1⟩
  subst e
  cases r1
  refine ⟨z, rfl, ?_⟩
  cases l : lkI kvs z with
  | none => rw [l] at h2; exact q_of (q.keep (k1.trans k2)) g2 h2 r2
  | some j => rw [l] at h2; exact q_of (q.keep (k1.trans k2)) g2 h2 (.int _)
end
end L3
namespace L3
open PySem PySem.Spec PyProof.Rows L2
open He (ga)
/-! ### i << j -/
def shl3 : Q2 := fun x y G Q => match x, y with
  | .int i, .int j => CPow i j ∧ Q (.int (i * 2 ^ j.toNat)) G
  | _, _ => False
section
variable {X : Cx} {Z : Zx}
theorem o_shl : OpR3 X Z (binaryOp .LShift) shl3 := by
  refine ⟨_, op_shl, fun G H x y v u Q3 Q g rx ry h q => ?_⟩
  unfold shl3 at h
  split at h
  · cases rx; cases ry
    exact ⟨_, _, rfl, rfl, h.1, q_of q g h.2 (.int _)⟩
  · exact h.elim
end
/-! ### xs[i] op= e -/
theorem pg_list {X : Cx} : PGet X (fun x y H Q => ∃ p xs i v, x = .ref p ∧ y = .int i ∧ 0 ≤ i ∧ SqL X.K H p xs ∧ xs[i.toNat]? = some v ∧ Q v H) := by
  intro pins s σ H x y v u Q I rx ry h
  obtain ⟨p, xs, i, z, rfl, rfl, h0, hq, he, q⟩ := h
  cases rx
  obtain ⟨t, rfl⟩ := ry
  obtain ⟨its, r, pl, hz⟩ := I.list hq
  obtain ⟨w, ew, rw'⟩ := r.get he
  have hl := r.length
  have hlt : i.toNat < xs.length := (List.getElem?_eq_some_iff.mp he).1
  have hn := line63
  exact wpAny_getItem_list pl.isList h0 (by omega) (by simpa using ew) ⟨z, H, I, rw', q⟩
def saugS (to ti te : TE3) (ip : Q2) : TS3 := fun E σ G => to σ G (fun o G1 => ti σ G1 (fun i G2 => ∃ xs k d, lq G2 o = some xs ∧ i = .int k ∧ 0 ≤ k ∧ xs[k.toNat]? = some d ∧
  te σ G2 (fun y G3 => ip d y G3 fun z G4 => setL3 o i z G4 fun G5 => E.nx σ G5) (fun x G1 => E.ex x σ G1)) (fun x G1 => E.ex x σ G1)) (fun x G1 => E.ex x σ G1)
section
variable {X : Cx} {Z : Zx} {W : WX} {o i e : Expr} {to ti te : TE3} {ip : Q2} {op : Operator} {tpos pos : Pos}
theorem augS_ (hp : IpR3 X Z op ip) (ho : PE3 X Z W o to) (hi : PE3 X Z W i ti) (he : PE3 X Z W e te)
    (ha : ∀ ov iv new, augStore i ov iv new = (do holding [new, ov, iv] (setItem ov iv new); release [new, ov, iv] []; pure .next) := by intros; rfl) :
    PS3 X Z W (.AugAssign (.Subscript o i tpos) op e pos) (saugS to ti te ip) := by
  obtain ⟨r, hp, k⟩ := hp
  obtain ⟨rs, hs, ks⟩ := se_list (X := X) (Z := Z)
  refine PS.imp (ps_augS ho hi pg_list he hp hs ha) fun D σ H h => ?_
  obtain ⟨σ3, G, D3, g, rs, h, d⟩ := h
  refine ⟨σ3, G, _, _, g, rs, h, fun x G1 v H1 h1 g1 r1 k1 => ?_, d.exk g rs⟩
  refine ⟨σ3, G1, _, _, g1, rs.keep g k1, h1, fun x2 G2 v2 H2 ⟨xs, kk, dd, e1, e2, e3, e4, h2⟩ g2 r2 k2 => ?_, (d.keep k1).exk g1 (rs.keep g k1)⟩
  subst e2
  have r1' := r1.keep g1 k2
  obtain ⟨a, vs, ea, s, rl⟩ := lq_ok g2 r1' e1
  subst ea
  cases r2
  obtain ⟨w, ew, rw'⟩ := rl.get e4
  refine ⟨a, vs, kk, w, rfl, rfl, e3, s, ew, ?_⟩
  refine ⟨σ3, G2, _, _, g2, (rs.keep g k1).keep g1 k2, h2, fun x3 G3 v3 H3 h3 g3 r3 k3 => ?_, ((d.keep k1).keep k2).exk g2 ((rs.keep g k1).keep g1 k2)⟩
  refine k G3 H3 dd x3 w v3 _ _ g3 (rw'.keep g2 k3) r3 h3 fun z G4 u4 H4 h4 g4 r4 k4 => ?_
  refine ks G4 H4 x (.int kk) z _ _ u4 _ _ g4 ((r1'.keep g2 k3).keep g3 k4) (.int kk) r4 h4 fun G5 H5 h5 g5 k5 => ?_
  exact d.nx _ _ _ _ h5 g5 (((((rs.keep g k1).keep g1 k2).keep g2 k3).keep g3 k4).keep g4 k5) ((((k1.trans k2).trans k3).trans k4).trans k5)
end
end L3
/-! ### list(zip(x, y)) of two tuples: the next pair while the last one is held -/
namespace PySem
open Sem (wp)
section
variable {prog : Program} {w : World} {A : Around} {E : Value → Shared → Prop} {s : Shared} {z TI TO T i1 i2 a b : Addr} {f : Bool} {oT : Obj} {i : Nat} {xs ys : Array Value}
theorem lz_begin {Q : Fin → Shared → Prop} (hz : IsZipHeld s.heap z TI TO T f) (hT : s.heap.get? T = some oT) (hp : IsPair s.heap TI (.ref i1) (.ref i2))
    (h : ∀ h₁, IsZipHeld h₁ z TI TO T true → Heap.SameBut z s.heap h₁ → wpAny (model prog w) A (Builtin.SmallTypes.nextOf (.ref i1)) (fun x s1 => wpAny (model prog w) A (Builtin.SmallTypes.nextOf (.ref i2)) (fun y s2 => Q (.done (.ret (.ref s2.heap.objs.size))) { s2 with heap := s2.heap.push { cls := .type "tuple", data := .seq #[x, y] } }) E s1) E { s with heap := h₁ }) :
    wpAny (model prog w) A (Builtin.«zip.__next__» ⟨[.ref z], []⟩) Q E s := by
  show wpAny _ _ (field (.ref z) 2 >>= _) Q E s
  refine wpAny_bind (wpAny_field hz rfl (x := .bool false) rfl (?_ : wpAny _ _ (field (.ref z) 3 >>= _) _ _ _))
  refine wpAny_bind (wpAny_field hz rfl (x := .ref TI) rfl (wpAny_bind (wpAny_seqItems hp rfl ?_)))
  refine (?_ : wpAny _ _ (Builtin.SmallTypes.ownedTupleIsFree (.ref z) >>= _) _ _ _)
  refine wpAny_bind (wpAny_tupleHeld_zip hz hT fun h₁ k1 k2 => ?_)
  simp only [Bool.false_eq_true, if_false]
  rw [← Array.forIn_toList]; simp only [List.forIn_cons, List.forIn_nil]
  refine wpAny_bind (wpAny_bind (wpAny_bind (wpAny_holding (?_ : wpAny _ _ (Builtin.SmallTypes.nextOf (.ref i1) >>= _) _ _ _))))
  refine wpAny_bind (wpAny_mono (h h₁ k1 k2) (fun x s1 hx => wpAny_pure (wpAny_pure ?_)) fun _ _ e => e)
  refine wpAny_bind (wpAny_bind (wpAny_holding (?_ : wpAny _ _ (Builtin.SmallTypes.nextOf (.ref i2) >>= _) _ _ _)))
  refine wpAny_bind (wpAny_mono hx (fun y s2 hy => wpAny_pure (wpAny_pure (wpAny_pure ?_))) fun _ _ e => e)
  refine (?_ : wpAny _ _ (newTuple [x, y] >>= _) _ _ _)
  exact wpAny_bind (wpAny_newTuple (wpAny_pure hy))
theorem lz_item {x y : Value} {Q : Option Value → Shared → Prop} (D : ZipApart z TI TO i1 i2 a b) (hz : IsZipHeld s.heap z TI TO T f) (hT : s.heap.get? T = some oT) (hp : IsPair s.heap TI (.ref i1) (.ref i2))
    (h1 : s.heap.IsTupleIter i1 a i) (h2 : s.heap.IsTupleIter i2 b i) (ha : s.heap.IsTuple a xs) (hb : s.heap.IsTuple b ys) (hx : xs[i]? = some x) (hy : ys[i]? = some y)
    (hQ : ∀ h', IsZipHeld h' z TI TO T true → h'.IsTupleIter i1 a (i + 1) → h'.IsTupleIter i2 b (i + 1) → IsPair h' s.heap.objs.size x y → h'.objs.size = s.heap.objs.size + 1 → (∀ c o, c ≠ z → c ≠ i1 → c ≠ i2 → s.heap.get? c = some o → h'.get? c = some o) → Q (some (.ref s.heap.objs.size)) { s with heap := h' }) :
    wpAny (model prog w) A (pyNext (.ref z)) Q E s := by
  have ty : s.TypeIs (.ref z) "zip" := ⟨_, hz, rfl⟩
  unfold pyNext
  refine wpAny_bind (wpAny_attempt (wpAny_callSpecial?_slot (name := Str.ofString "__next__") ty F.slot_zip_next (wpAny_call_entry F.slot_zip_next ty F.entry_zip_next (lz_begin hz hT hp fun h₁ e1 b1 => ?_) (F.args_zip_next_1 _))))
  refine RZ.nextOf_tuple_item (h1.extBut b1.extBut D.i1z) (ha.extBut b1.extBut D.l1z) hx fun h₂ k1 b2 => ?_
  refine RZ.nextOf_tuple_item ((h2.extBut b1.extBut D.i2z).extBut b2.extBut D.i12.symm) ((hb.extBut b1.extBut D.l2z).extBut b2.extBut D.l2i1) hy fun h₃ k2 b3 => ⟨_, rfl, ?_⟩
  have sz : h₃.objs.size = s.heap.objs.size := by rw [b3.1, b2.1, b1.1]
  have e3 : IsZipHeld h₃ z TI TO T true := b3.extBut _ _ D.i2z.symm (b2.extBut _ _ D.i1z.symm e1)
  have kk : ∀ c o, c ≠ z → c ≠ i1 → c ≠ i2 → s.heap.get? c = some o → h₃.get? c = some o := fun c o c1 c2 c3 e => b3.extBut _ _ c3 (b2.extBut _ _ c2 (b1.extBut _ _ c1 e))
  have k3 : h₃.IsTupleIter i1 a (i + 1) := k1.extBut b3.extBut D.i12
  have pr : IsPair (h₃.push { cls := .type "tuple", data := .seq #[x, y] }) h₃.objs.size x y := Heap.get?_push_size _ rfl
  have z4 : (h₃.push { cls := .type "tuple", data := .seq #[x, y] }).objs.size = h₃.objs.size + 1 := Heap.size_push ..
  dsimp only
  rw [sz] at pr z4 ⊢
  exact wpAny_pure (hQ _ (Heap.get?_push_of_some _ e3) (k3.at fun o e => Heap.get?_push_of_some _ e) (k2.at fun o e => Heap.get?_push_of_some _ e) pr z4 fun c o c1 c2 c3 e => Heap.get?_push_of_some _ (kk c o c1 c2 c3 e))
theorem lz_end {Q : Option Value → Shared → Prop} (hh : A.handled = none) (D : ZipApart z TI TO i1 i2 a b) (hz : IsZipHeld s.heap z TI TO T f) (hT : s.heap.get? T = some oT) (hp : IsPair s.heap TI (.ref i1) (.ref i2))
    (h1 : s.heap.IsTupleIter i1 a i) (h2 : s.heap.IsTupleIter i2 b i) (ha : s.heap.IsTuple a xs) (hb : s.heap.IsTuple b ys) (hend : xs[i]? = none ∨ ys[i]? = none)
    (hQ : ∀ h', (∀ c o, c ≠ z → c ≠ i1 → c ≠ i2 → s.heap.get? c = some o → h'.get? c = some o) → Q none { s with heap := h' }) : wpAny (model prog w) A (pyNext (.ref z)) Q E s := by
  have ty : s.TypeIs (.ref z) "zip" := ⟨_, hz, rfl⟩
  unfold pyNext
  refine wpAny_bind (wpAny_attempt (wpAny_callSpecial?_slot (name := Str.ofString "__next__") ty F.slot_zip_next (wpAny_call_entry F.slot_zip_next ty F.entry_zip_next (lz_begin hz hT hp fun h₁ e1 b1 => ?_) (F.args_zip_next_1 _))))
  cases hx : xs[i]? with
  | none =>
    refine RZ.nextOf_tuple_end hh (h1.extBut b1.extBut D.i1z) (ha.extBut b1.extBut D.l1z) hx fun h₂ e b2 ⟨o, ho, hc⟩ => ?_
    exact wpAny_bind (wpAny_isInstance (T := "StopIteration") (b := true) ⟨o, ho, hc⟩ isSubtype_stop (wpAny_pure (hQ _ fun c o c1 c2 _ x => b2 _ _ c2 (b1.extBut _ _ c1 x))))
  | some x =>
    have hy : ys[i]? = none := hend.resolve_left (by rw [hx]; simp)
    refine RZ.nextOf_tuple_item (h1.extBut b1.extBut D.i1z) (ha.extBut b1.extBut D.l1z) hx fun h₂ k1 b2 => ?_
    refine RZ.nextOf_tuple_end hh ((h2.extBut b1.extBut D.i2z).extBut b2.extBut D.i12.symm) ((hb.extBut b1.extBut D.l2z).extBut b2.extBut D.l2i1) hy fun h₃ e b3 ⟨o, ho, hc⟩ => ?_
    exact wpAny_bind (wpAny_isInstance (T := "StopIteration") (b := true) ⟨o, ho, hc⟩ isSubtype_stop (wpAny_pure (hQ _ fun c o c1 c2 c3 x => b3 _ _ c3 (b2.extBut _ _ c2 (b1.extBut _ _ c1 x)))))
end
/-! ### the whole list -/
structure LzAp (z TI TO i1 i2 a b S : Addr) : Prop where
  D : ZipApart z TI TO i1 i2 a b
  z : S ≠ z
  ti : S ≠ TI
  to : S ≠ TO
  i1 : S ≠ i1
  i2 : S ≠ i2
  a : S ≠ a
  b : S ≠ b
/-- the zip as it stands at turn i -/
def LzSt (h : Heap) (z TI TO i1 i2 a b S : Addr) (i : Nat) : Prop :=
  IsPair h TI (.ref i1) (.ref i2) ∧ h.IsTupleIter i1 a i ∧ h.IsTupleIter i2 b i ∧
  ((IsZip h z TI TO .none ∧ ∃ u v, IsPair h TO u v) ∨ ∃ T f u v, IsZipHeld h z TI TO T f ∧ IsPair h T u v ∧ T ≠ S)
theorem LzSt.keep {h h' : Heap} {z TI TO i1 i2 a b S : Addr} {i : Nat} (st : LzSt h z TI TO i1 i2 a b S i) (P : LzAp z TI TO i1 i2 a b S) (k : ∀ c o, c ≠ S → h.get? c = some o → h'.get? c = some o) : LzSt h' z TI TO i1 i2 a b S i := by
  obtain ⟨p, h1, h2, q⟩ := st
  refine ⟨k _ _ P.ti.symm p, h1.at fun o e => k _ o P.i1.symm e, h2.at fun o e => k _ o P.i2.symm e, ?_⟩
  rcases q with ⟨hz, u, v, t⟩ | ⟨T, f, u, v, hz, hT, n⟩
  · exact .inl ⟨k _ _ P.z.symm hz, u, v, k _ _ P.to.symm t⟩
  · exact .inr ⟨T, f, u, v, k _ _ P.z.symm hz, k _ _ n hT, n⟩
section
variable {prog : Program} {w : World} {A : Around} {E : Value → Shared → Prop} {s : Shared} {z TI TO i1 i2 a b S : Addr} {i : Nat} {xs ys : Array Value}
theorem lz_apart {T : Addr} {f : Bool} {u v : Value} {h : Heap} (hz : IsZipHeld h z TI TO T f) (hT : IsPair h T u v) (h1 : h.IsTupleIter i1 a i) (h2 : h.IsTupleIter i2 b i) : T ≠ z ∧ T ≠ i1 ∧ T ≠ i2 := by
  refine ⟨fun e => ?_, fun e => ?_, fun e => ?_⟩
  · subst e; have q1 : h.get? T = _ := hz; have q2 : h.get? T = _ := hT; rw [q1] at q2; simp at q2
  · subst e; obtain ⟨o, e1, e2, _⟩ := h1; have q2 : h.get? T = _ := hT; rw [q2] at e1; cases e1; simp at e2
  · subst e; obtain ⟨o, e1, e2, _⟩ := h2; have q2 : h.get? T = _ := hT; rw [q2] at e1; cases e1; simp at e2
theorem lz_next {x y : Value} {Q : Option Value → Shared → Prop} (P : LzAp z TI TO i1 i2 a b S) (st : LzSt s.heap z TI TO i1 i2 a b S i) (ha : s.heap.IsTuple a xs) (hb : s.heap.IsTuple b ys) (hx : xs[i]? = some x) (hy : ys[i]? = some y) (hS : S < s.heap.objs.size)
    (hQ : ∀ h', LzSt h' z TI TO i1 i2 a b S (i + 1) → IsPair h' s.heap.objs.size x y → h'.objs.size = s.heap.objs.size + 1 → (∀ c o, c ≠ z → c ≠ TO → c ≠ i1 → c ≠ i2 → s.heap.get? c = some o → h'.get? c = some o) → Q (some (.ref s.heap.objs.size)) { s with heap := h' }) :
    wpAny (model prog w) A (pyNext (.ref z)) Q E s := by
  obtain ⟨p, h1, h2, q⟩ := st
  have D := P.D
  rcases q with ⟨hz, u, v, t⟩ | ⟨T, f, u, v, hz, hT, n⟩
  · exact RZ.pyNext_zipT_item D hz p t h1 h2 ha hb hx hy fun h' z1 t1 k1 k2 pr sz kk => hQ h' ⟨kk _ _ D.TIz D.TITO D.TIi1 D.TIi2 p, k1, k2, .inr ⟨_, false, _, _, z1, pr, (Nat.ne_of_lt hS).symm⟩⟩ pr sz kk
  · obtain ⟨n1, n2, n3⟩ := lz_apart hz hT h1 h2
    exact lz_item D hz hT p h1 h2 ha hb hx hy fun h' z1 k1 k2 pr sz kk => hQ h' ⟨kk _ _ D.TIz D.TIi1 D.TIi2 p, k1, k2, .inr ⟨T, true, u, v, z1, kk _ _ n1 n2 n3 hT, n⟩⟩ pr sz fun c o c1 _ c3 c4 e => kk c o c1 c3 c4 e
theorem lz_done {Q : Option Value → Shared → Prop} (hh : A.handled = none) (P : LzAp z TI TO i1 i2 a b S) (st : LzSt s.heap z TI TO i1 i2 a b S i) (ha : s.heap.IsTuple a xs) (hb : s.heap.IsTuple b ys) (hend : xs[i]? = none ∨ ys[i]? = none)
    (hQ : ∀ h', (∀ c o, c ≠ z → c ≠ TO → c ≠ i1 → c ≠ i2 → s.heap.get? c = some o → h'.get? c = some o) → Q none { s with heap := h' }) : wpAny (model prog w) A (pyNext (.ref z)) Q E s := by
  obtain ⟨p, h1, h2, q⟩ := st
  rcases q with ⟨hz, u, v, t⟩ | ⟨T, f, u, v, hz, hT, n⟩
  · exact RZ.pyNext_zipT_end hh P.D hz p t h1 h2 ha hb hend hQ
  · exact lz_end hh P.D hz hT p h1 h2 ha hb hend fun h' kk => hQ h' fun c o c1 _ c3 c4 e => kk c o c1 c3 c4 e
end
structure LzG (xs ys : Array Value) (lo : Addr) (h : Heap) (as : List Addr) : Prop where
  rise : as.Pairwise (· < ·)
  above : ∀ c ∈ as, lo ≤ c
  pairs : ∀ (j : Nat) (c : Addr), as[j]? = some c → ∃ x y, xs[j]? = some x ∧ ys[j]? = some y ∧ IsPair h c x y
theorem LzG.there {xs ys : Array Value} {lo : Addr} {h : Heap} {as : List Addr} (g : LzG xs ys lo h as) {c : Addr} (hc : c ∈ as) : c < h.objs.size := by
  obtain ⟨j, hj⟩ := List.mem_iff_getElem?.mp hc
  obtain ⟨_, _, _, _, e⟩ := g.pairs j c hj; exact Heap.lt_size e
section
variable {prog : Program} {w : World} {A : Around} {s : Shared} {R : Result → Shared → Prop} {xs ys : Array Value} {z TI TO i1 i2 a b S : Addr} {n : Nat}
theorem lz_loop (hh : A.handled = none) (P : LzAp z TI TO i1 i2 a b S) (hn : n ≤ sizeLine) (l1 : xs.size = n) (l2 : ys.size = n) (res : Value) {h₁ : Heap} (b1 : z < h₁.objs.size ∧ TO < h₁.objs.size ∧ i1 < h₁.objs.size ∧ i2 < h₁.objs.size ∧ S < h₁.objs.size)
    (hR : ∀ h' tk acc c as, (∀ d o, d ≠ S → d ≠ z → d ≠ TO → d ≠ i1 → d ≠ i2 → h₁.get? d = some o → h'.get? d = some o) → h'.get? S = some { cls := .type "list", dict := none, data := .seq acc c, slots := #[] } → as.length = n → LzG xs ys h₁.objs.size h' as → acc.toList = as.map Value.ref → R (.ok (.ret res)) { s with heap := h', toks := tk }) :
    ∀ (k i : Nat) (h : Heap) (tk c : Nat) (acc : Array Value) (as : List Addr), n - i = k → i ≤ n → LzSt h z TI TO i1 i2 a b S i → h.IsTuple a xs → h.IsTuple b ys → (∀ d o, d ≠ S → d ≠ z → d ≠ TO → d ≠ i1 → d ≠ i2 → h₁.get? d = some o → h.get? d = some o) →
      h.get? S = some { cls := .type "list", dict := none, data := .seq acc c, slots := #[] } → acc.toList = as.map Value.ref → as.length = i → LzG xs ys h₁.objs.size h as → h₁.objs.size ≤ h.objs.size → codeAny (model prog w) A (.builtin "list.extend.loop" ⟨[.ref S, .ref z, res], []⟩) R { s with heap := h, toks := tk } := by
  obtain ⟨bz, bt, b1, b2, bS⟩ := b1
  have D := P.D
  have low : ∀ {h : Heap} {as : List Addr}, LzG xs ys h₁.objs.size h as → ∀ c ∈ as, c ≠ S ∧ c ≠ z ∧ c ≠ TO ∧ c ≠ i1 ∧ c ≠ i2 := fun g c hc => by
    have : h₁.objs.size ≤ c := g.above c hc
    exact ⟨Nat.ne_of_gt (Nat.lt_of_lt_of_le bS this), Nat.ne_of_gt (Nat.lt_of_lt_of_le bz this), Nat.ne_of_gt (Nat.lt_of_lt_of_le bt this), Nat.ne_of_gt (Nat.lt_of_lt_of_le b1 this), Nat.ne_of_gt (Nat.lt_of_lt_of_le b2 this)⟩
  intro k
  induction k with
  | zero =>
    intro i h tk c acc as hk hi st ha hb kp hS hacc hal hG hsz
    refine codeAny_builtin PySem.F.entry_extend_loop ?_; rw [Around.under_plainId PySem.F.plain_extend_loop _]
    refine (?_ : wpAny _ A.in1 (pyNext (.ref z) >>= _) _ _ _)
    refine wpAny_bind (lz_done (s := { s with heap := h, toks := tk }) (A := A.in1) hh P st ha hb (.inl (by simp; omega)) fun h' kk => wpAny_pure (hR h' tk acc c as (fun d o d1 d2 d3 d4 d5 e => kk d o d2 d3 d4 d5 (kp d o d1 d2 d3 d4 d5 e)) (kk S _ P.z P.to P.i1 P.i2 hS) (by omega) ⟨hG.rise, hG.above, fun j c hj => ?_⟩ hacc))
    obtain ⟨x, y, e1, e2, e3⟩ := hG.pairs j c hj
    obtain ⟨_, m2, m3, m4, m5⟩ := low hG c (List.mem_of_getElem? hj)
    exact ⟨x, y, e1, e2, kk c _ m2 m3 m4 m5 e3⟩
  | succ k ih =>
    intro i h tk c acc as hk hi st ha hb kp hS hacc hal hG hsz
    have hx : xs[i]? = some (xs[i]'(by omega)) := by simp
    have hy : ys[i]? = some (ys[i]'(by omega)) := by simp
    have asz : acc.size = i := by rw [← Array.length_toList, hacc, List.length_map, hal]
    have bS' : S < h.objs.size := Nat.lt_of_lt_of_le bS hsz
    refine codeAny_builtin PySem.F.entry_extend_loop ?_; rw [Around.under_plainId PySem.F.plain_extend_loop _]
    refine (?_ : wpAny _ A.in1 (pyNext (.ref z) >>= _) _ _ _)
    refine wpAny_bind (lz_next (s := { s with heap := h, toks := tk }) P st ha hb hx hy bS' fun h' st' pr sz kk => ?_)
    dsimp only at pr sz kk ⊢
    have hS' := kk S _ P.z P.to P.i1 P.i2 hS
    have up : ∀ d o, d ≠ S → h'.get? d = some o → (h'.update S (Obj.mapSeq (·.push (Value.ref h.objs.size)))).get? d = some o := fun d o hd e => (Heap.get?_update_other _ _ (Ne.symm hd)).trans e
    have tup : ∀ {t : Addr} {us : Array Value}, h.IsTuple t us → t ≠ S → t ≠ z → t ≠ TO → t ≠ i1 → t ≠ i2 → (h'.update S (Obj.mapSeq (·.push (Value.ref h.objs.size)))).IsTuple t us := fun ⟨o, e, q⟩ m1 m2 m3 m4 m5 => ⟨o, up _ _ m1 (kk _ _ m2 m3 m4 m5 e), q⟩
    have usz : (h'.update S (Obj.mapSeq (·.push (Value.ref h.objs.size)))).objs.size = h.objs.size + 1 := by rw [Heap.size_update]; exact sz
    refine (?_ : wpAny _ A.in1 (updateSeq S (·.push (Value.ref h.objs.size)) >>= _) _ _ _)
    refine wpAny_bind (wpAny_updateSeq hS' rfl (wpAny_pure ⟨plainId_quiet PySem.F.plain_extend_loop _, ih (i + 1) _ tk _ (acc.push (Value.ref h.objs.size)) (as ++ [h.objs.size]) (by omega) (by omega) (st'.keep P up) (tup ha P.a.symm D.l1z D.l1TO D.l1i1 D.l1i2) (tup hb P.b.symm D.l2z D.l2TO D.l2i1 D.l2i2)
      (fun d o d1 d2 d3 d4 d5 e => up d o d1 (kk d o d2 d3 d4 d5 (kp d o d1 d2 d3 d4 d5 e))) (Heap.get?_update_self _ hS' rfl) (by rw [Array.toList_push, hacc, List.map_append]; rfl) (by rw [List.length_append, hal]; rfl) ⟨?_, ?_, ?_⟩ (Nat.le_trans hsz (Nat.le_of_lt (Nat.lt_of_lt_of_eq (Nat.lt_succ_self _) usz.symm)))⟩) (by rw [asz]; omega) (by show (acc.push (Value.ref h.objs.size)).size ≤ sizeLine + 1; rw [Array.size_push, asz]; omega))
    · refine List.pairwise_append.mpr ⟨hG.rise, List.pairwise_singleton _ _, fun c hc d hd => ?_⟩
      rw [List.mem_singleton.mp hd]; exact hG.there hc
    · intro c hc
      rcases List.mem_append.mp hc with hc | hc
      · exact hG.above c hc
      · rw [List.mem_singleton.mp hc]; exact hsz
    · intro j c hj
      by_cases h1 : j < as.length
      · rw [List.getElem?_append_left h1] at hj
        obtain ⟨x, y, e1, e2, e3⟩ := hG.pairs j c hj
        obtain ⟨m1, m2, m3, m4, m5⟩ := low hG c (List.mem_of_getElem? hj)
        exact ⟨x, y, e1, e2, up c _ m1 (kk c _ m2 m3 m4 m5 e3)⟩
      · rw [List.getElem?_append_right (by omega)] at hj
        have j0 : j = as.length := by
          by_cases q : j - as.length = 0
          · omega
          · rw [List.getElem?_eq_none (by simp; omega)] at hj; cases hj
        subst j0
        have e : h.objs.size = c := by simpa using hj
        subst e
        exact ⟨_, _, by rw [hal]; exact hx, by rw [hal]; exact hy, up _ _ (Nat.ne_of_gt bS') pr⟩
end
theorem lz_no_len : typeLookup (.type "zip") "__len__" = pure none := am_miss_of_fast (by decide +kernel)
theorem lz_no_hint : typeLookup (.type "zip") "__length_hint__" = pure none := am_miss_of_fast (by decide +kernel)
section
variable {prog : Program} {w : World} {A : Around} {E : Value → Shared → Prop} {s : Shared} {xs ys : Array Value} {z TI TO i1 i2 a b : Addr} {n : Nat}
theorem lz_ext {R : Result → Shared → Prop} {S : Addr} (hh : A.handled = none) (P : LzAp z TI TO i1 i2 a b S) (hn : n ≤ sizeLine) (l1 : xs.size = n) (l2 : ys.size = n) (res : Value) (hz : IsZip s.heap z TI TO .none) (st : LzSt s.heap z TI TO i1 i2 a b S 0) (ha : s.heap.IsTuple a xs) (hb : s.heap.IsTuple b ys)
    (bb : z < s.heap.objs.size ∧ TO < s.heap.objs.size ∧ i1 < s.heap.objs.size ∧ i2 < s.heap.objs.size ∧ S < s.heap.objs.size) (c₀ : Nat) (hS : s.heap.get? S = some { cls := .type "list", data := .seq #[] c₀ })
    (hR : ∀ h' tk acc c as, (∀ d o, d ≠ S → d ≠ z → d ≠ TO → d ≠ i1 → d ≠ i2 → s.heap.get? d = some o → h'.get? d = some o) → h'.get? S = some { cls := .type "list", dict := none, data := .seq acc c, slots := #[] } → as.length = n → LzG xs ys s.heap.objs.size h' as → acc.toList = as.map Value.ref → R (.ok (.ret res)) { s with heap := h', toks := tk }) :
    wpAny (model prog w) A.in1 (Builtin.List.listExtendWith (.ref S) (.ref z) res) (fun fin s' => match fin with | .done f => R (.ok f) s' | .again c' => c'.quiet = true ∧ codeAny (model prog w) A c' R s') (fun e s' => R (.error e) s') s := by
  have ty : s.TypeIs (.ref z) "zip" := ⟨_, hz, rfl⟩
  unfold Builtin.List.listExtendWith
  refine wpAny_bind (wpAny_typeOf (T := "zip") ty ?_)
  have f1 : Builtin.List.listSameRef (.ref S) (.ref z) = false := by simp [Builtin.List.listSameRef, P.z]
  have f2 : (Value.type "zip" == Value.type "list") = false := by decide
  have f3 : (Value.type "zip" == Value.type "tuple") = false := by decide
  simp only [f1, f2, f3, Bool.or_false, Bool.false_eq_true, if_false]
  refine wpAny_bind (wpAny_pyIter_zip hz (wpAny_bind (wpAny_holding ?_)))
  unfold Builtin.List.listLengthHint
  refine wpAny_bind (wpAny_specialOf ty lz_no_len (?_ : wpAny _ A.in1 (specialOf (Value.ref z) (Str.ofString "__length_hint__") >>= _) _ _ _))
  refine wpAny_bind (wpAny_specialOf ty lz_no_hint (wpAny_pure (?_ : wpAny _ A.in1 (rule "list.extend.makes-room" >>= fun _ => Builtin.List.listTouch (.ref S) >>= fun _ => again (.builtin "list.extend.loop" ⟨[.ref S, .ref z, res], []⟩)) _ _ _)))
  refine wpAny_bind (wpAny_rule (wpAny_bind (?_ : wpAny _ A.in1 (updateSeq S (·.push .none) >>= fun _ => updateSeq S (·.pop)) _ _ _)))
  refine wpAny_bind (wpAny_updateSeq hS rfl ?_)
  have g2 := Heap.get?_update_self (Obj.mapSeq (·.push Value.none)) hS rfl
  refine wpAny_updateSeq (hz := by seq_fits) g2 rfl ?_
  have g3 := Heap.get?_update_self (Obj.mapSeq (·.pop)) g2 rfl
  have up : ∀ d o, d ≠ S → s.heap.get? d = some o → ((s.heap.update S (Obj.mapSeq (·.push Value.none))).update S (Obj.mapSeq (·.pop))).get? d = some o := fun d o hd e => (Heap.get?_update_other _ _ (Ne.symm hd)).trans ((Heap.get?_update_other _ _ (Ne.symm hd)).trans e)
  have tup : ∀ {t : Addr} {us : Array Value}, s.heap.IsTuple t us → t ≠ S → ((s.heap.update S (Obj.mapSeq (·.push Value.none))).update S (Obj.mapSeq (·.pop))).IsTuple t us := fun ⟨o, e, q⟩ m => ⟨o, up _ _ m e, q⟩
  exact wpAny_pure ⟨plainId_quiet PySem.F.plain_extend_loop _, lz_loop (s := s) hh P hn l1 l2 res bb hR n 0 _ s.toks _ #[] [] (Nat.sub_zero _) (Nat.zero_le _) (st.keep P up) (tup ha P.a.symm) (tup hb P.b.symm) (fun d o d1 _ _ _ _ e => up d o d1 e) g3 rfl rfl ⟨List.Pairwise.nil, (fun _ h => nomatch h), (fun j c h => by simp at h)⟩ (by rw [Heap.size_update, Heap.size_update]; exact Nat.le_refl _)⟩
theorem lz_call {Q : Value → Shared → Prop} (hh : A.handled = none) (D : ZipApart z TI TO i1 i2 a b) (hn : n ≤ sizeLine) (l1 : xs.size = n) (l2 : ys.size = n) (hz : IsZip s.heap z TI TO .none) (hp : IsPair s.heap TI (.ref i1) (.ref i2)) {u v : Value} (ht : IsPair s.heap TO u v) (h1 : s.heap.IsTupleIter i1 a 0) (h2 : s.heap.IsTupleIter i2 b 0) (ha : s.heap.IsTuple a xs) (hb : s.heap.IsTuple b ys)
    (hQ : ∀ h' tk acc c as, (∀ d o, d ≠ z → d ≠ TO → d ≠ i1 → d ≠ i2 → s.heap.get? d = some o → h'.get? d = some o) → h'.get? s.heap.objs.size = some { cls := .type "list", dict := none, data := .seq acc c, slots := #[] } → as.length = n → LzG xs ys (s.heap.objs.size + 1) h' as → acc.toList = as.map Value.ref → Q (.ref s.heap.objs.size) { s with heap := h', toks := tk }) :
    wpAny (model prog w) A (call (.type "list") [.ref z]) Q E s := by
  refine callType_codes (Q₁ := fun obj s₁ => obj = .ref s.heap.objs.size ∧ s₁ = { s with heap := s.heap.push { cls := .type "list", data := .seq #[] } }) PySem.F.called_list (PySem.F.typeCall_list_1 _) PySem.F.entry_list_init (code_list_new _ ⟨rfl, rfl⟩) fun obj s₁ hq => ?_
  obtain ⟨rfl, rfl⟩ := hq
  have lt : ∀ {t : Addr} {o : Obj}, s.heap.get? t = some o → t < s.heap.objs.size := fun e => Heap.lt_size e
  have z1 := lt hz
  have z2 := lt ht
  have z3 := lt hp
  obtain ⟨o1, q1, _⟩ := id h1
  obtain ⟨o2, q2, _⟩ := id h2
  obtain ⟨o3, q3, _⟩ := id ha
  obtain ⟨o4, q4, _⟩ := id hb
  have P : LzAp z TI TO i1 i2 a b s.heap.objs.size := ⟨D, Nat.ne_of_gt z1, Nat.ne_of_gt z3, Nat.ne_of_gt z2, Nat.ne_of_gt (lt q1), Nat.ne_of_gt (lt q2), Nat.ne_of_gt (lt q3), Nat.ne_of_gt (lt q4)⟩
  have gS : (s.heap.push { cls := .type "list", data := .seq #[] }).get? s.heap.objs.size = some { cls := .type "list", data := .seq #[] } := Heap.get?_push_size _ rfl
  refine ⟨⟨_, gS, rfl⟩, PySem.F.args_list_init_2 _ _, ?_⟩
  refine (?_ : wpAny _ _ (do let old ← Builtin.List.listItems (.ref s.heap.objs.size); Builtin.List.listUpdate (.ref s.heap.objs.size) (fun _ => #[]); letGo old.toList.reverse; Builtin.List.listExtendWith (.ref s.heap.objs.size) (.ref z) .none) _ _ _)
  refine wpAny_bind ?_; unfold Builtin.List.listItems; refine wpAny_bind (wpAny_seqItems gS rfl (wpAny_pure ?_))
  refine (?_ : wpAny _ _ (updateSeq s.heap.objs.size (fun _ => #[]) >>= fun _ => letGo (#[] : Array Value).toList.reverse >>= fun _ => Builtin.List.listExtendWith (.ref s.heap.objs.size) (.ref z) .none) _ _ _)
  refine wpAny_bind (wpAny_updateSeq gS rfl (wpAny_bind (wpAny_letGo ?_)))
  have g2 := Heap.get?_update_self (Obj.mapSeq (fun _ => (#[] : Array Value))) gS rfl
  have up : ∀ d o, d ≠ s.heap.objs.size → s.heap.get? d = some o → ((s.heap.push { cls := .type "list", data := .seq #[] }).update s.heap.objs.size (Obj.mapSeq (fun _ => (#[] : Array Value)))).get? d = some o := fun d o hd e => (Heap.get?_update_other _ _ (Ne.symm hd)).trans (Heap.get?_push_of_some _ e)
  have sz : ((s.heap.push { cls := .type "list", data := .seq #[] }).update s.heap.objs.size (Obj.mapSeq (fun _ => (#[] : Array Value)))).objs.size = s.heap.objs.size + 1 := by rw [Heap.size_update, Heap.size_push]
  have tup : ∀ {t : Addr} {us : Array Value}, s.heap.IsTuple t us → s.heap.objs.size ≠ t → ((s.heap.push { cls := .type "list", data := .seq #[] }).update s.heap.objs.size (Obj.mapSeq (fun _ => (#[] : Array Value)))).IsTuple t us := fun ⟨o, e, q⟩ m => ⟨o, up _ _ m.symm e, q⟩
  have st : LzSt s.heap z TI TO i1 i2 a b s.heap.objs.size 0 := ⟨hp, h1, h2, .inl ⟨hz, u, v, ht⟩⟩
  refine lz_ext (A := A.in1) (s := { s with heap := (s.heap.push { cls := .type "list", data := .seq #[] }).update s.heap.objs.size (Obj.mapSeq (fun _ => (#[] : Array Value))) }) hh P hn l1 l2 .none (up _ _ P.z.symm hz) (st.keep P up) (tup ha P.a) (tup hb P.b) ?_ _ g2 fun h' tk acc c as kk hS' hl hG hacc => ⟨rfl, ?_⟩
  · dsimp only
    rw [sz]
    exact ⟨Nat.lt_succ_of_lt z1, Nat.lt_succ_of_lt z2, Nat.lt_succ_of_lt (lt q1), Nat.lt_succ_of_lt (lt q2), Nat.lt_succ_self _⟩
  · dsimp only at hG kk
    rw [sz] at hG
    exact hQ h' tk acc c as (fun d o d1 d2 d3 d4 e => kk d o (Nat.ne_of_lt (Heap.lt_size e)) d1 d2 d3 d4 (up d o (Nat.ne_of_lt (Heap.lt_size e)) e)) hS' hl hG hacc
end
end PySem
namespace L3
open PySem PySem.Spec PyProof.Rows L2
open He (ga)
def layP : Hp → List (Addr × HO) → Hp
  | H, [] => H
  | H, q :: r => layP (upd H q.1 q.2) r
theorem inv_lay {X : Cx} {pins : List (Addr × Obj)} {σ : St} {s : Shared} {h' : Heap} {t' : Nat} : ∀ (as : List (Addr × HO)) (H : Hp) (h : Heap) (t : Nat), Inv X pins σ H { s with heap := h, toks := t } → (∀ b o, h.get? b = some o → h'.get? b = some o) → (∀ q ∈ as, h.get? q.1 = none) → (∀ q ∈ as, H q.1 = none) → (as.map (·.1)).Nodup →
    (∀ q ∈ as, ∀ (J : Hp) (g : Heap), g.get? q.1 = h'.get? q.1 → ObjOk X.prog X.w J g q.1 q.2) → Inv X pins σ (layP H as) { s with heap := h', toks := t' }
  | [], H, h, t, I, k, _, _, _, _ => I.kept (t' := t') k
  | q :: as, H, h, t, I, k, hn, hH, nd, ok => by
    obtain ⟨n1, n2⟩ := List.nodup_cons.mp (by simpa using nd : (q.1 :: as.map (·.1)).Nodup)
    obtain ⟨h1, e1, e2⟩ := restrict h' fun b => (h.get? b).isSome || decide (b = q.1)
    have k1 : ∀ b o, h.get? b = some o → h1.get? b = some o := fun b o e => by
      rw [e1 b (by simp [e])]; exact k b o e
    have kq := e1 q.1 (by simp)
    have I1 := I.laidN (t' := t) k1 (hn q (by simp)) (hH q (by simp)) (ok q (by simp) _ h1 kq)
    refine inv_lay as (upd H q.1 q.2) h1 t I1 (fun b o e => ?_) (fun p hp => ?_) (fun p hp => ?_) n2 fun p hp => ok p (List.mem_cons_of_mem _ hp)
    · cases z : ((h.get? b).isSome || decide (b = q.1)) with
      | true => rw [e1 b z] at e; exact e
      | false => rw [e2 b z] at e; cases e
    · have ne : p.1 ≠ q.1 := fun z => n1 (z ▸ List.mem_map_of_mem hp)
      exact e2 p.1 (by simp [hn p (List.mem_cons_of_mem _ hp), ne])
    · have ne : p.1 ≠ q.1 := fun z => n1 (z ▸ List.mem_map_of_mem hp)
      rw [upd_ne ne]; exact hH p (List.mem_cons_of_mem _ hp)
def lzP (as : List Addr) (xs ys : List V) : List (Addr × HO) := List.zipWith (fun c q => (c, HO.tup [q.1, q.2])) as (xs.zip ys)
theorem lzP_map : ∀ (as : List Addr) (xs ys : List V), as.length = xs.length → xs.length = ys.length → (lzP as xs ys).map (·.1) = as
  | [], _, _, _, _ => by simp [lzP]
  | c :: as, x :: xs, y :: ys, h1, h2 => by
    show c :: (lzP as xs ys).map (·.1) = _
    rw [lzP_map as xs ys (by simpa using h1) (by simpa using h2)]
theorem lzP_mem {as : List Addr} {xs ys : List V} {q : Addr × HO} (h : q ∈ lzP as xs ys) : ∃ (j : Nat) (x y : V), as[j]? = some q.1 ∧ xs[j]? = some x ∧ ys[j]? = some y ∧ q.2 = .tup [x, y] := by
  obtain ⟨j, e⟩ := List.mem_iff_getElem?.mp h
  unfold lzP at e
  rw [List.getElem?_zipWith] at e
  cases e1 : as[j]? with
  | none => rw [e1] at e; cases e
  | some c =>
    cases e2 : (xs.zip ys)[j]? with
    | none => rw [e1, e2] at e; cases e
    | some w =>
      rw [e1, e2] at e
      obtain ⟨m1, m2⟩ := List.getElem?_zip_eq_some.mp e2
      cases e
      exact ⟨j, w.1, w.2, e1, m1, m2, rfl⟩
def tLz (K : PySem.W.Frag) (ta : TA) : TE := fun σ H Q => ta σ H fun vs H1 => ∃ a b xs ys, vs = [.ref a, .ref b] ∧ SqT K H1 a xs ∧ SqT K H1 b ys ∧ xs.length = ys.length ∧ xs.length ≤ sizeLine ∧
  ∀ (S : Addr) (as : List Addr), H1 S = none → S ∉ as → (∀ c ∈ as, H1 c = none) → as.Nodup → as.length = xs.length → Q (.ref S) (layP H1 (lzP as xs ys ++ [(S, .lst (as.map V.ref))]))
theorem vals_refs : ∀ as : List Addr, Vals (as.map V.ref) (as.map Value.ref)
  | [] => .nil
  | c :: as => .cons rfl (vals_refs as)
theorem pe_lz {X : Cx} {e e2 : Expr} {ta : TA} {p p1 p2 pos : Pos} (hc : X.calm = true) (hl : X.mg "list" = none) (hm : X.mg "zip" = none) (ha : PA X [e, e2] ta) (hg : Gl X "zip" := by rfl) (hgl : Gl X "list" := by rfl)
    (hs : starEach [e, e2] X.env = (false, eval e X.env) :: starEach [e2] X.env := by rfl) (hpl : (backTo p1 (starEach [e2] X.env)).any (·.1) = false := by rfl)
    (na : starEach [.Call (.Name "zip" p2) [e, e2] [] p1] X.env = (false, eval (.Call (.Name "zip" p2) [e, e2] [] p1) X.env) :: starEach [] X.env := by rfl) :
    PE X (.Call (.Name "list" p) [.Call (.Name "zip" p2) [e, e2] [] p1] [] pos) (tLz X.K ta) := by
  refine ⟨fun pins s σ H Q I h => ?_⟩
  have zp : wpAny (model X.prog X.w) X.A (eval (.Call (.Name "zip" p2) [e, e2] [] p1) X.env) (fun v s2 => ∃ (s1 : Shared) (H1 : Hp) (a b : Addr) (xs ys : List V) (h' : Heap), v = .ref (s1.heap.objs.size + 4) ∧ s2 = { s1 with heap := h' } ∧ Inv X pins σ H1 s1 ∧ SqT X.K H1 a xs ∧ SqT X.K H1 b ys ∧ xs.length = ys.length ∧ xs.length ≤ sizeLine ∧
      (∀ (S : Addr) (as : List Addr), H1 S = none → S ∉ as → (∀ c ∈ as, H1 c = none) → as.Nodup → as.length = xs.length → Q (.ref S) (layP H1 (lzP as xs ys ++ [(S, .lst (as.map V.ref))]))) ∧
      IsZip h' (s1.heap.objs.size + 4) (s1.heap.objs.size + 2) (s1.heap.objs.size + 3) .none ∧ IsPair h' (s1.heap.objs.size + 2) (.ref s1.heap.objs.size) (.ref (s1.heap.objs.size + 1)) ∧ IsPair h' (s1.heap.objs.size + 3) .none .none ∧ h'.IsTupleIter s1.heap.objs.size a 0 ∧ h'.IsTupleIter (s1.heap.objs.size + 1) b 0 ∧ h'.objs.size = s1.heap.objs.size + 5 ∧ (∀ c o, s1.heap.get? c = some o → h'.get? c = some o)) X.xe s := by
    refine Call_ (ld_blt I hg hm PyProof.Rows.boot_zip (PyProof.Rows.callWith_type1 (thn (ha.run p1 pins s σ H _ I h) fun us s1 ⟨vs, H1, I1, r1, a, b, xs, ys, ex, qa, qb, l1, l2, q1⟩ => ?_) hs hpl))
    subst ex
    cases r1 with
    | cons r rr =>
    cases rr with
    | cons r' rr =>
    cases rr; cases r; cases r'
    obtain ⟨its, rv, t1, _⟩ := I1.tuple qa
    obtain ⟨its2, rv2, t2, _⟩ := I1.tuple qb
    exact RZ.call_zipT (show s1.heap.IsTuple a its.toArray from t1) (show s1.heap.IsTuple b its2.toArray from t2) fun h' hz hTI hTO h1 h2 hsz hk => ⟨s1, H1, a, b, xs, ys, h', rfl, rfl, I1, qa, qb, l1, l2, q1, hz, hTI, hTO, h1, h2, hsz, hk⟩
  refine Call_ (ld_blt I hgl hl boot_list (PyProof.Rows.callWith_type1 (args_cons (thn zp fun v s2 ⟨s1, H1, a, b, xs, ys, h', ev, es, I1, qa, qb, l1, l2, q1, hz, hTI, hTO, h1, h2, hsz, hk⟩ => args_nil ?_) na) na))
  subst ev es
  obtain ⟨its, rv, t1, _⟩ := I1.tuple qa
  obtain ⟨its2, rv2, t2, _⟩ := I1.tuple qb
  have up : ∀ {t : Addr} {us : Array Value}, s1.heap.IsTuple t us → h'.IsTuple t us := fun ⟨o, e, q⟩ => ⟨o, hk _ _ e, q⟩
  have t1' : s1.heap.IsTuple a its.toArray := t1
  have t2' : s1.heap.IsTuple b its2.toArray := t2
  obtain ⟨o1, ho1, _⟩ := id t1'
  obtain ⟨o2, ho2, _⟩ := id t2'
  have v1 := rv.length
  have v2 := rv2.length
  refine lz_call (n := xs.length) (s := { s1 with heap := h' }) (I1.ok.hd hc) (PySem.W.ktu_apart s1.heap.objs.size a b (Heap.lt_size ho1) (Heap.lt_size ho2)) l2 (by simp; omega) (by simp; omega) hz hTI hTO h1 h2 (up t1') (up t2') fun h2 tk acc c as kk hS hal hG hacc => ?_
  dsimp only at kk hS hG ⊢
  rw [hsz] at hG hS ⊢
  have old : ∀ d o, s1.heap.get? d = some o → h2.get? d = some o := fun d o ed => by
    have lt := Heap.lt_size ed
    exact kk d o (Nat.ne_of_lt (Nat.lt_add_right 4 lt)) (Nat.ne_of_lt (Nat.lt_add_right 3 lt)) (Nat.ne_of_lt lt) (Nat.ne_of_lt (Nat.lt_add_right 1 lt)) (hk d o ed)
  have no : ∀ {d}, s1.heap.objs.size ≤ d → s1.heap.get? d = none := fun {d} hd => by
    cases ed : s1.heap.get? d with
    | none => rfl
    | some o => exact absurd (Heap.lt_size ed) (Nat.not_lt.mpr hd)
  have ge : ∀ c ∈ as, s1.heap.objs.size + 5 + 1 ≤ c := hG.above
  have nas : s1.heap.objs.size + 5 ∉ as := fun m => by
    have : s1.heap.objs.size + 5 + 1 ≤ s1.heap.objs.size + 5 := ge _ m
    omega
  have ndas : as.Nodup := hG.rise.imp fun h => Nat.ne_of_lt h
  have mp := lzP_map as xs ys hal l1
  have big : ∀ q ∈ lzP as xs ys ++ [(s1.heap.objs.size + 5, HO.lst (as.map V.ref))], s1.heap.objs.size ≤ q.1 := fun q hq => by
    rcases List.mem_append.mp hq with m | m
    · have : q.1 ∈ as := by rw [← mp]; exact List.mem_map_of_mem m
      have : s1.heap.objs.size + 5 + 1 ≤ q.1 := ge _ this
      omega
    · rw [List.mem_singleton.mp m]; show s1.heap.objs.size ≤ s1.heap.objs.size + 5; omega
  refine ⟨.ref (s1.heap.objs.size + 5), _, inv_lay (lzP as xs ys ++ [(s1.heap.objs.size + 5, .lst (as.map V.ref))]) H1 s1.heap s1.toks I1 old (fun q hq => no (big q hq)) (fun q hq => I1.hok.fresh (big q hq)) ?_ ?_, rfl, q1 _ as (I1.hok.fresh (Nat.le_add_right _ _)) nas (fun c hc => I1.hok.fresh (Nat.le_trans (by omega) (ge c hc))) ndas hal⟩
  · rw [List.map_append, mp]
    exact List.nodup_append.mpr ⟨ndas, by simp, fun x hx y hy e => by
      rw [List.map_cons, List.map_nil, List.mem_singleton] at hy
      subst hy e; exact nas hx⟩
  · intro q hq J g eg
    rcases List.mem_append.mp hq with m | m
    · obtain ⟨j, x, y, e1, e2, e3, e4⟩ := lzP_mem m
      obtain ⟨u, w, f1, f2, f3⟩ := hG.pairs j q.1 e1
      obtain ⟨u', g1, g2⟩ := rv.get e2
      obtain ⟨w', g3, g4⟩ := rv2.get e3
      have : u = u' := by simpa [g1] using f1.symm
      subst this
      have : w = w' := by simpa [g3] using f2.symm
      subst this
      rw [e4]
      exact ⟨by show 2 ≤ sizeLine; decide, [u, w], .cons g2 (.cons g4 .nil), ⟨_, eg.trans f3, rfl, _, rfl⟩⟩
    · rw [List.mem_singleton.mp m] at eg ⊢
      refine ⟨by rw [List.length_map, hal]; exact l2, as.map Value.ref, c, vals_refs as, ?_⟩
      rw [← hacc, Array.toArray_toList]
      exact eg.trans hS
/-! ### as a reading -/
def tlzip (m : Bool) (ta : TA3) : TE3 := fun σ G Q E => ta σ G (fun ds G1 => ∃ xs ys, ds = [.tup xs, .tup ys] ∧ xs.length = ys.length ∧ xs.length ≤ sizeLine ∧ outL m (List.zipWith (fun a b => D.tup [a, b]) xs ys) G1 Q) E
theorem dvl_len {K : K3} {G : Gp} {H : Hp} : ∀ {xs : List D} {vs : List V}, DvL K G H xs vs → xs.length = vs.length
  | _, _, .nil => rfl
  | _, _, .cons _ t => by rw [List.length_cons, List.length_cons, dvl_len t]
theorem lay_dv {K : K3} {G : Gp} : ∀ (as : List Addr) (xs ys : List D) (us ws : List V) (H : Hp), GH K G H → DvL K G H xs us → DvL K G H ys ws → (∀ c ∈ as, H c = none) → as.Nodup → as.length = us.length → us.length = ws.length →
    GH K G (layP H (lzP as us ws)) ∧ Keep G H G (layP H (lzP as us ws)) ∧ DvL K G (layP H (lzP as us ws)) (List.zipWith (fun a b => D.tup [a, b]) xs ys) (as.map V.ref) ∧ ∀ c, c ∉ as → layP H (lzP as us ws) c = H c
  | [], _, _, _, _, H, g, .nil, .nil, _, _, _, _ => ⟨g, Keep.refl, .nil, fun _ _ => rfl⟩
  | c :: as, x :: xs, y :: ys, u :: us, w :: ws, H, g, .cons rx tx, .cons ry ty, hn, nd, l1, l2 => by
    obtain ⟨n1, n2⟩ := List.nodup_cons.mp nd
    have nc := hn c (by simp)
    have k0 : Keep G H G (upd H c (.tup [u, w])) := Keep.new nc
    obtain ⟨g2, k2, d2, o2⟩ := lay_dv as xs ys us ws (upd H c (.tup [u, w])) (g.new nc) (tx.keep g k0) (ty.keep g k0) (fun d hd => by
      have ne : d ≠ c := fun z => n1 (by rw [← z]; exact hd)
      rw [upd_ne ne]; exact hn d (List.mem_cons_of_mem _ hd)) n2 (by simpa using l1) (by simpa using l2)
    refine ⟨g2, k0.trans k2, .cons ?_ d2, fun d hd => ?_⟩
    · exact Dv.keep (g.new nc) k2 (.tup (SqT.of upd_same) (.cons (rx.keep g k0) (.cons (ry.keep g k0) .nil)))
    · rw [List.mem_cons, not_or] at hd
      rw [show layP H (lzP (c :: as) (u :: us) (w :: ws)) = layP (upd H c (.tup [u, w])) (lzP as us ws) from rfl, o2 d hd.2, upd_ne hd.1]
  | _ :: _, [], _, [], _, _, _, _, _, _, _, l1, _ => by cases l1
  | _ :: _, _ :: _, [], _ :: _, [], _, _, _, _, _, _, _, l2 => by cases l2
theorem layP_snoc : ∀ (as : List (Addr × HO)) (H : Hp) (q : Addr × HO), layP H (as ++ [q]) = upd (layP H as) q.1 q.2
  | [], _, _ => rfl
  | p :: as, H, q => layP_snoc as (upd H p.1 p.2) q
theorem lzip_ {X : Cx} {Z : Zx} {W : WX} (m : Bool) {e e2 : Expr} {ta : TA3} {p p1 p2 pos : Pos} (hc : X.calm = true) (hl : X.mg "list" = none) (hm : X.mg "zip" = none) (ha : PA3 X Z W [e, e2] ta) (hg : Gl X "zip" := by rfl) (hgl : Gl X "list" := by rfl)
    (hs : starEach [e, e2] X.env = (false, eval e X.env) :: starEach [e2] X.env := by rfl) (hpl : (backTo p1 (starEach [e2] X.env)).any (·.1) = false := by rfl)
    (na : starEach [.Call (.Name "zip" p2) [e, e2] [] p1] X.env = (false, eval (.Call (.Name "zip" p2) [e, e2] [] p1) X.env) :: starEach [] X.env := by rfl) :
    PE3 X Z W (.Call (.Name "list" p) [.Call (.Name "zip" p2) [e, e2] [] p1] [] pos) (tlzip m ta) := PE.imp (pe_lz hc hl hm ha hg hgl hs hpl na) fun σ H Q hq => by
  obtain ⟨σ3, G, Q3, E3, g, rs, h, q, x⟩ := hq
  refine ⟨σ3, G, _, E3, g, rs, h, fun ds G1 vs H1 ⟨xs, ys, e, l1, l2, h1⟩ g1 r1 k1 => ?_, x⟩
  subst e
  cases r1 with
  | cons ra rb =>
  cases rb with
  | cons rb rc =>
  cases rc
  cases ra with
  | tup s1 d1 =>
  cases rb with
  | tup s2 d2 =>
  have e1 := dvl_len d1
  have e2 := dvl_len d2
  refine ⟨_, _, _, _, rfl, s1, s2, by omega, by omega, fun S as nS nas na nd la => ?_⟩
  obtain ⟨g2, k2, dd, oo⟩ := lay_dv as xs ys _ _ H1 g1 d1 d2 na nd la (by omega)
  rw [layP_snoc]
  exact outL_ok m g2 dd (q.keep (k1.trans k2)) h1 (by rw [oo S nas]; exact nS)
end L3
namespace L3
open PySem PySem.Spec PyProof.Rows L2
open He (ga)
/-! ### a, b[i], .. = e; a, b, .. = a list -/
def tgN (i : Nat) (d : D) : TS3 := fun E σ G => E.nx (σ.set i (some d)) G
def tgS (to ti : TE3) (t : QS) (d : D) : TS3 := fun E σ G => to σ G (fun o G2 => ti σ G2 (fun i G3 => t o i d G3 fun G4 => E.nx σ G4) (fun x G1 => E.ex x σ G1)) (fun x G1 => E.ex x σ G1)
def asgL : List (D → TS3) → List D → TS3
  | g :: gs, d :: ds => fun E σ G => g d { E with nx := fun σ G => asgL gs ds E σ G } σ G
  | _, _ => fun E σ G => E.nx σ G
def sasgs (gs : List (D → TS3)) (te : TE3) : TS3 := fun E σ G => te σ G (fun x G1 => ∃ ds, x = .tup ds ∧ ds.length = gs.length ∧ asgL gs ds E σ G1) (fun x G1 => E.ex x σ G1)
def sunl (is : List Nat) (te : TE3) : TS3 := fun E σ G => te σ G (fun x G1 => ∃ ds, lq G1 x = some ds ∧ ds.length = is.length ∧ E.nx (setD is ds σ) G1) (fun x G1 => E.ex x σ G1)
structure Tg1 (X : Cx) (Z : Zx) (W : WX) (tg : Expr) (g : D → TS3) : Prop where
  ex : ∃ t : TG, PG X tg t ∧ ∀ (σ3 : St3) (G : Gp) (D3 : Ends3) (σ : St) (H : Hp) (Dd : Ends) (d : D) (v : V), GH (Cxk X Z) G H → Rs (Cxk X Z) G H σ3 σ → Dv (Cxk X Z) G H d v → g d D3 σ3 G → Dk (Cxk X Z) G H W D3 Dd → t v σ H fun σ' H' => Dd.nx σ' H'
structure Tgs1 (X : Cx) (Z : Zx) (W : WX) (ts : List Expr) (gs : List (D → TS3)) : Prop where
  ex : ∃ t : TGs, PGs X ts t ∧ ∀ (ds : List D) (vs : List V) (σ3 : St3) (G : Gp) (D3 : Ends3) (σ : St) (H : Hp) (Dd : Ends), ds.length = gs.length → GH (Cxk X Z) G H → Rs (Cxk X Z) G H σ3 σ → DvL (Cxk X Z) G H ds vs → asgL gs ds D3 σ3 G → Dk (Cxk X Z) G H W D3 Dd → t vs σ H fun σ' H' => Dd.nx σ' H'
section
variable {X : Cx} {Z : Zx} {W : WX} {e : Expr} {te : TE3} {pos : Pos}
theorem tn_ (i : Nat) {x : Str} {p : Pos} (hN : X.N.Nodup) (hi : X.N[i]? = some x := by rfl) (hx : Loc X.env.scope x := by first | exact .inl rfl | exact .inr rfl) (hf : X.fn x = true ∨ X.env.scope.names.lookup x = some .local := by first | exact .inl rfl | exact .inr rfl) : Tg1 X Z W (.Name x p) (tgN i) :=
  ⟨gName i, pg_name hN hi hx hf, fun σ3 G D3 σ H Dd d v g rs r h dk => dk.nx _ _ _ _ h g (rs.set r i) Keep.refl⟩
theorem ts_ {t : QS} {o i : Expr} {to ti : TE3} {p : Pos} (hs : PSet3 X Z t) (ho : PE3 X Z W o to) (hi : PE3 X Z W i ti)
    (ha : ∀ v, assign (.Subscript o i p) X.env v = (do
      let ov ← holding [v] (eval o X.env); let iv ← holding [v, ov] (eval i X.env)
      standAt p; holding [v, ov, iv] (setItem ov iv v); release [v, ov, iv] []) := by intro _; rfl) : Tg1 X Z W (.Subscript o i p) (tgS to ti t) := by
  obtain ⟨r, hs, kk⟩ := hs
  refine ⟨_, pg_sub ho hi hs ha, fun σ3 G D3 σ H Dd d v g rs rv h dk => ?_⟩
  refine ⟨σ3, G, _, _, g, rs, h, fun o G2 ov H2 h2 g2 ro k2 => ?_, dk.exk g rs⟩
  have rs2 := rs.keep g k2
  have dk2 := dk.keep k2
  refine ⟨σ3, G2, _, _, g2, rs2, h2, fun i G3 iv H3 h3 g3 ri k3 => ?_, dk2.exk g2 rs2⟩
  exact kk G3 H3 o i d ov iv v _ _ g3 (ro.keep g2 k3) ri ((rv.keep g k2).keep g2 k3) h3 fun G4 H4 h4 g4 k4 => (dk2.keep (k3.trans k4)).nx _ _ _ _ h4 g4 ((rs2.keep g2 k3).keep g3 k4) Keep.refl
theorem t0_ : Tgs1 X Z W [] [] := ⟨gNil, pgs_nil, fun ds vs σ3 G D3 σ H Dd l g rs r h dk => by
  cases r with
  | nil => exact ⟨rfl, dk.nx _ _ _ _ h g rs Keep.refl⟩
  | cons => cases l⟩
theorem tc_ {g : D → TS3} {gs : List (D → TS3)} {t : Expr} {ts : List Expr} (h1 : Tg1 X Z W t g) (h2 : Tgs1 X Z W ts gs) (hs : (assignEach (t :: ts) X.env).map (·.2) = assign t X.env :: (assignEach ts X.env).map (·.2) := by rfl) : Tgs1 X Z W (t :: ts) (g :: gs) := by
  obtain ⟨u, p1, k1⟩ := h1
  obtain ⟨us, p2, k2⟩ := h2
  refine ⟨gCons u us, pgs_cons p1 p2 hs, fun ds vs σ3 G D3 σ H Dd l g0 rs r h dk => ?_⟩
  cases r with
  | nil => cases l
  | cons r rr =>
    rename_i d v ds vs
    refine ⟨v, vs, rfl, k1 σ3 G { D3 with nx := fun σ G => asgL gs ds D3 σ G } σ H { Dd with nx := fun σ' H' => us vs σ' H' fun σ2 H2 => Dd.nx σ2 H2 } d v g0 rs r h ⟨fun σ4 G' σ' H' h' g' rs' k' => ?_, dk.rt, dk.bk, dk.ct, dk.ex⟩⟩
    exact k2 ds vs σ4 G' D3 σ' H' Dd (by simpa using l) g' rs' (rr.keep g0 k') h' (dk.keep k')
theorem asgT_ {gs : List (D → TS3)} {ts : List Expr} {k : Nat} {pt : Pos} (hc : X.calm = true) (ht : Tgs1 X Z W ts gs) (he : PE3 X Z W e te) (hs : swapsWithSole [.Tuple ts k pt] e pos.line X.env = pure false := by rfl) (hw : swappedStores [.Tuple ts k pt] e X.env = pure none := by rfl)
    (h1 : (assignEach [.Tuple ts k pt] X.env).map (·.2) = [assign (.Tuple ts k pt) X.env] := by rfl) (hn : (assignEach ts X.env).length = gs.length := by rfl) (hst : (assignEach ts X.env).findIdx? (·.1) = none := by rfl) : PS3 X Z W (.Assign [.Tuple ts k pt] e pos) (sasgs gs te) := by
  obtain ⟨u, p, kk⟩ := ht
  refine PS.imp (ps_asg he (pg_tup (n := gs.length) hc p hn hst) hs hw h1) fun Dd σ H h => ?_
  obtain ⟨σ3, G, D3, g, rs, h, d⟩ := h
  refine ⟨σ3, G, _, _, g, rs, h, fun x G1 v H1 ⟨ds, ex, l, h1⟩ g1 rx k1 => ?_, d.exk g rs⟩
  subst ex
  cases rx with
  | tup s r => exact ⟨_, _, rfl, s, (dvl_len r).symm.trans l, kk ds _ σ3 G1 D3 σ H1 Dd l g1 (rs.keep g k1) r h1 (d.keep k1)⟩
theorem unl_ (is : List Nat) {ts : List Expr} {k : Nat} {pt : Pos} (hc : X.calm = true) (he : PE3 X Z W e te) (hg : PGs X ts (gNames is)) (hs : swapsWithSole [.Tuple ts k pt] e pos.line X.env = pure false := by rfl) (hw : swappedStores [.Tuple ts k pt] e X.env = pure none := by rfl)
    (h1 : (assignEach [.Tuple ts k pt] X.env).map (·.2) = [assign (.Tuple ts k pt) X.env] := by rfl) (hn : (assignEach ts X.env).length = is.length := by rfl) (hst : (assignEach ts X.env).findIdx? (·.1) = none := by rfl) : PS3 X Z W (.Assign [.Tuple ts k pt] e pos) (sunl is te) := by
  refine PS.imp (ps_asg he (pg_lst (n := is.length) hc hg hn hst) hs hw h1) fun Dd σ H h => ?_
  obtain ⟨σ3, G, D3, g, rs, h, d⟩ := h
  refine ⟨σ3, G, _, _, g, rs, h, fun x G1 v H1 ⟨ds, ex, l, h1⟩ g1 rx k1 => ?_, d.exk g rs⟩
  obtain ⟨a, us, ea, s, rl⟩ := lq_ok g1 rx ex
  have lu : us.length = is.length := (dvl_len rl).symm.trans l
  exact ⟨a, us, ea, s, lu, gNames_ok lu (d.nx _ _ _ _ h1 g1 (setD_rs rl (rs.keep g k1)) k1)⟩
end
end L3
/-! ### lambdas handed to a def; defs as values; errors that are held -/
namespace L3
open PySem PySem.Spec PyProof.Rows L2
open He (ga)
section
variable {X : Cx} {pins : List (Addr × Obj)} {σ : L2.St} {H : Hp} {s : Shared}
/-- the lambda is made: all but the maker's table stays -/
theorem lam_new {c P : Addr} {params : Arguments} {body : Expr} {scope : Scope} {pos : Pos}
    {E Q : Value → Shared → Prop} (I : Inv X pins σ H s) (TB : LamX.TabB X.base X.mg c P)
    (hcd : X.env.code = .ref c) (hT : LamX.TabS H P (X.env.qual ++ "<lambda>"))
    (hdef : defaultsOf params X.env = ([], []))
    (hfree : ∀ y ∈ scope.names, y.2 = .free → ∃ c, X.env.cells.lookup y.1 = some c)
    (h : ∀ (f c' : Addr) (pm ctv : Value) (H1 : Hp) (s' : Shared), Inv X pins σ H1 s' →
      (∀ b o, b ≠ P → H b = some o → H1 b = some o) → LamX.TabS H1 P (X.env.qual ++ "<lambda>") →
      s'.heap.get? f = some (PySem.W.kla_obj "<lambda>" (X.env.qual ++ "<lambda>") params body scope
        (cloFrom X.env.cells scope.names []) pm c' ctv) →
      H1 f = none → f ∉ frs X.stack → H1 c' = some (LamX.CodeO c' (X.env.qual ++ "<lambda>")) → Q (.ref f) s') :
    wpAny (model X.prog X.w) X.A (eval (.Lambda params body scope pos) X.env) Q E s := by
  obtain ⟨tb, atP, tok, among⟩ := hT
  refine PySem.W.kla_eval hdef ?_
  have bs : s.heap.BuiltinsAt X.mg P := TB.bm.keeps I.bk
  have realP := I.hok P _ atP
  have free_fr : ∀ f, s.heap.objs.size ≤ f → f ∉ frs X.stack := fun f big z =>
    (List.mem_cons.mp (I.stkSub _ z)).elim
      (fun e => Nat.lt_irrefl _ (Nat.lt_of_lt_of_le (by have := I.lt; rw [← e] at this; exact this) big))
      fun e => I.nofs big e
  have cl := closure_ok hfree
  have gb := I.mod.glob.keeps I.bk
  have ch := TB.code.keeps I.bk
  cases look : codeAmong pos tb.toList with
  | some cv =>
    obtain ⟨c', ec, known⟩ := among pos cv look
    subst ec
    refine PySem.W.kla_makeFunctionHit (mg := X.mg) (c := c) (P := P) (ps := tb) cl I.ok.glob gb hcd ch
      realP tok look bs fun ctv h2 tk keep big => ?_
    exact h h2.objs.size c' ((X.mg "__name__").getD .none) ctv H _
      (I.kept fun b o e => Heap.get?_push_of_some _ (keep b o e)) (fun _ _ _ z => z) ⟨tb, atP, tok, among⟩
      (Heap.get?_push_size _ rfl) (I.hok.fresh big) (free_fr _ big) known
  | none =>
    refine PySem.W.kla_makeFunction (mg := X.mg) (c := c) (P := P) (ps := tb) cl I.ok.glob gb hcd ch
      realP tok look TB.gP bs fun c' ctv h2 tk keep lo hi rec_ tb2 => ?_
    obtain ⟨c3, oc, vs, t, e3, there, dat, nm⟩ := rec_
    cases e3
    have newC : H c' = none := I.hok.fresh lo
    have big : s.heap.objs.size ≤ h2.objs.size := Nat.le_trans lo (Nat.le_of_lt hi)
    have J := LamX.inv_table (q := X.env.qual ++ "<lambda>") (t' := tk)
      (more := #[rawInt pos.line, rawInt pos.col, .ref c'])
      (h' := h2.push (PySem.W.kla_obj "<lambda>" (X.env.qual ++ "<lambda>") params body scope
        (cloFrom X.env.cells scope.names []) ((X.mg "__name__").getD .none) c' ctv)) I atP
      (fun b o ne e => Heap.get?_push_of_some _ (keep b o ne e)) (Heap.get?_push_of_some _ tb2) lo
      ⟨oc, vs, t, Heap.get?_push_of_some _ there, dat, nm⟩
    have stay : ∀ b o, b ≠ P → H b = some o → upd (upd H P (.tbl (tb ++ #[rawInt pos.line, rawInt pos.col, .ref c']))) c' (LamX.CodeO c' (X.env.qual ++ "<lambda>")) b = some o :=
      fun b o ne e => by rw [upd_ne (ne_of_none e newC), upd_ne ne]; exact e
    have ca : ∀ c0, H c0 = some (LamX.CodeO c0 (X.env.qual ++ "<lambda>")) → c0 ≠ P := fun c0 e z => by
      rw [z, atP] at e
      exact LamX.codeO_ne _ (Option.some.inj e).symm
    refine h h2.objs.size c' ((X.mg "__name__").getD .none) ctv _ _ J stay ?_ (Heap.get?_push_size _ rfl) ?_ (free_fr _ big) upd_same
    · refine ⟨_, by rw [upd_ne (ne_of_none atP newC), upd_same], ?_, fun p' cv hcv => ?_⟩
      · rw [show (tb ++ #[rawInt pos.line, rawInt pos.col, .ref c']).toList = tb.toList ++ [rawInt pos.line, rawInt pos.col, .ref c'] by simp]
        exact PySem.TriplesOk_snoc _ _ _ _ tok
      · rw [show (tb ++ #[rawInt pos.line, rawInt pos.col, .ref c']).toList = tb.toList ++ [rawInt pos.line, rawInt pos.col, .ref c'] by simp] at hcv
        rcases LamX.among_app _ tok hcv with z | z
        · obtain ⟨c0, e1, e2⟩ := among p' cv z
          exact ⟨c0, e1, stay _ _ (ca _ e2) e2⟩
        · exact ⟨c', z, upd_same⟩
    · rw [upd_ne (Nat.ne_of_gt hi), upd_ne (Nat.ne_of_gt (Nat.lt_of_lt_of_le (Heap.lt_size realP) big))]
      exact I.hok.fresh big
end

/-! ### what is captured -/
def capD (σ : St3) : List D := σ.map fun o => o.getD .non
def capV : St3 → L2.St → List V
  | some _ :: r, o :: q => o.getD .non :: capV r q
  | none :: r, _ :: q => .non :: capV r q
  | _, _ => []
theorem cap_dv {K : K3} {G : Gp} {H : Hp} : ∀ {σ3 : St3} {σ : L2.St}, Rs K G H σ3 σ → DvL K G H (capD σ3) (capV σ3 σ)
  | [], [], _ => .nil
  | [], _ :: _, r => by have := r.1; simp at this
  | _ :: _, [], r => by have := r.1; simp at this
  | o :: σ3, u :: σ, r => by
    have tl : DvL K G H (capD σ3) (capV σ3 σ) := cap_dv ⟨by simpa using r.1, fun i d e => r.2 (i + 1) d (by simpa using e)⟩
    cases o with
    | none => exact .cons .non tl
    | some d =>
      obtain ⟨v, e1, e2⟩ := r.2 0 d rfl
      simp at e1
      subst e1
      exact .cons e2 tl
theorem cap_rs {K K' : K3} {G G' : Gp} {H H' : Hp} : ∀ {σ3 : St3} {σ : L2.St}, Rs K G H σ3 σ → DvL K' G' H' (capD σ3) (capV σ3 σ) → Rs K' G' H' σ3 σ := by
  intro σ3 σ r h
  refine ⟨r.1, fun i d e => ?_⟩
  obtain ⟨v, e1, _⟩ := r.2 i d e
  refine ⟨v, e1, ?_⟩
  have e2 : (capD σ3)[i]? = some d := by unfold capD; rw [List.getElem?_map, e]; rfl
  obtain ⟨u, e3, e4⟩ := h.get e2
  have key : ∀ (σ3 : St3) (σ : L2.St) (i : Nat), σ3[i]? = some (some d) → σ[i]? = some (some v) → (capV σ3 σ)[i]? = some u → u = v := by
    intro σ3
    induction σ3 with
    | nil => intro σ i e _ _; simp at e
    | cons o r ih =>
      intro σ i e e1 e3
      cases σ with
      | nil => simp at e1
      | cons q σ =>
        cases i with
        | zero =>
          simp at e e1
          subst e e1
          simp [capV] at e3
          exact e3.symm
        | succ i =>
          refine ih σ i (by simpa using e) (by simpa using e1) ?_
          cases o <;> simpa [capV] using e3
  rw [← key σ3 σ i e e1 e3]; exact e4
/-- x(), x a name that holds what was handed -/
def tcl (i : Nat) (L : D) (tl : Gp → QK → EK → Prop) : TE3 := fun σ G Q E => gt σ i = some L ∧ tl G Q E
section
variable {X : Cx} {pins : List (Addr × Obj)} {σ : L2.St} {H : Hp} {s : Shared}
theorem takes_lam {A : Around} {outer : List Env} {E : XK} {scope : Scope} {f c' : Addr} : Takes (LamX.lamCx X A outer s H E scope f c') (fun c d _ H' => E c d H') := takes_of rfl rfl rfl rfl
theorem act_ {CXg : CXT} {Eg : XK} {Ng : List Str} {qg : Str} {sg : Scope} {g f c' : Addr} {cdg pm ctv : Value} {params : Arguments} {body : Expr} {scope : Scope} {k : Nat} {a : Str}
    {σ3 : St3} {G0 : Gp} {tb : TE3} (I : Inv X pins σ H s) (L : LamX.LamS X.env.scope scope)
    (hf : s.heap.get? f = some (PySem.W.kla_obj "<lambda>" (X.env.qual ++ "<lambda>") params body scope (cloFrom X.env.cells scope.names []) pm c' ctv)) (hfn : H f = none) (hfr : f ∉ frs X.stack)
    (hbind : bindArgs (PySem.W.kla_fn "<lambda>" (X.env.qual ++ "<lambda>") params body scope (cloFrom X.env.cells scope.names []) pm (.ref c') ctv) ⟨[], []⟩ = pure [])
    (rs : Rs (Cxk X Z0) G0 H σ3 σ)
    (hbody : ∀ (A : Around) (outer : List Env) (s : Shared) (H : Hp) (E : XK), Room k (A.deeper (LamX.lamEnv X scope s.heap.objs.size f c')) →
      PE3 (LamX.lamCx X A outer s H E scope f c') Z0 (fun c d _ H' => E c d H') body tb)
    (hr : Room (k + 1) (X.A.deeper (envOfC qg sg s.heap.objs.size g cdg)))
    (hN : Ng[0]? = some a) (hv : Vis sg a) (hd : (a == ("__debug__" : Str)) = false) (hcd : (a == ("__classdict__" : Str)) = false)
    (W : WX) (pn : List (Addr × Obj)) (xe : Value → Shared → Prop) (p1 p2 : Pos)
    (tk : Takes ((cxOf CXg X.prog X.w X.K X.mg X.base Ng qg sg g cdg X.A X.stack s H Eg).tr pn xe) W) :
    PE3 ((cxOf CXg X.prog X.w X.K X.mg X.base Ng qg sg g cdg X.A X.stack s H Eg).tr pn xe) Z0 W (.Call (.Name a p1) [] [] p2)
      (tcl 0 (.lam f c' (X.env.qual ++ "<lambda>") (capD σ3) (capV σ3 σ)) (fun G Q E => tb σ3 G Q E)) := by
  refine ⟨fun pinsZ sZ σZ HZ Q IZ h => ?_⟩
  obtain ⟨σ3Z, G, Q3, E3, gZ, rsZ, ⟨e0, ht⟩, qk, xk⟩ := h
  obtain ⟨v0, at0, dv0⟩ := rsZ.2 0 _ (gt_eq _ _ e0)
  cases dv0 with
  | lam hc gc dl =>
  have rz : Rs (Cxk X Z0) G HZ σ3 σ := cap_rs rs dl
  refine wpAny_Call_Name_kw (thn ((pe_var (pos := p1) (i := 0) hN hv hd hcd).run pinsZ sZ σZ HZ (fun v H1 => v = .ref f ∧ H1 = HZ) IZ ⟨.ref f, at0, rfl, rfl⟩) fun u s1 ⟨v, H1, I1, r1, q1⟩ => ?_)
  obtain ⟨ev, eH⟩ := q1
  subst ev
  rw [eH] at I1
  obtain rfl : u = Value.ref f := r1
  have of1 := I1.base.keep f _ hf hfn hfr (fun z => nomatch (show f ∈ ([] : List Addr) from z))
  refine PySem.W.callWith_F0 ⟨_, _, _, _, of1⟩ ?_
  have un : Un (frs X.stack) [] H HZ s.heap s1.heap := I1.base
  obtain ⟨⟨oc, vs, t, hoc, hdc, hvc⟩, _, _⟩ := I1.hok c' _ hc
  let E : XK := fun c d H' => W c d σZ H'
  have rc : codeAny (model X.prog X.w) (X.A.deeper (envOfC qg sg s.heap.objs.size g cdg)) (.call (.ref f) ⟨[], []⟩) (CR (L2.CX X.prog X.w) (envOfC qg sg s.heap.objs.size g cdg :: X.stack) X.prog X.w HZ s1 Q E) s1 := by
    refine PySem.W.kla_callFunE hr.depth of1 rfl L.co L.gen rfl ⟨c', oc, vs, t, rfl, hoc, hdc, hvc⟩ ?_
    rw [hbind]
    refine wpAny_pure (wpAny_newFunctionEnv (fun y hy => (L.own y hy).2) (fun y hy => absurd hy (by simp)) (fun h₁ hns hsb => ⟨I1.nolimit.fresh _ hsb, ?_⟩) L.kind)
    show codeAny _ _ (.expr body (LamX.lamEnv X scope s1.heap.objs.size f c')) _ _
    have kp : ∀ b o, s1.heap.get? b = some o → h₁.get? b = some o := fun b o e => hsb.extBut b o (Nat.ne_of_lt (Heap.lt_size e)) (Heap.get?_push_of_some _ e)
    have J : Inv (LamX.lamCx X (X.A.deeper (envOfC qg sg s.heap.objs.size g cdg)) (envOfC qg sg s.heap.objs.size g cdg :: X.stack) s1 HZ E scope f c') [] σ HZ { s1 with heap := h₁, toks := s1.toks + ([] : List (Str × Value)).length } :=
      LamX.lam_start2 I L I1.env0 hr.hd un hns kp
    have lift : liftE (Cxk (LamX.lamCx X (X.A.deeper (envOfC qg sg s.heap.objs.size g cdg)) (envOfC qg sg s.heap.objs.size g cdg :: X.stack) s1 HZ E scope f c') Z0) (fun c d _ H' => E c d H') tb σ HZ Q :=
      ⟨σ3, G, Q3, E3, gZ, rz, ht, qk, xk⟩
    refine PySem.W.kla_codeExpr (wpAny_mono ((hbody _ _ s1 HZ E (hr.deeper _)).run [] _ _ HZ Q J lift) (fun v s' hq => ?_) fun e s' hq => hq)
    obtain ⟨w', H', J', rv, q⟩ := hq
    exact ⟨w', H', J'.os, J'.bare, J'.base, J'.hok, rv, q⟩
  refine wpAny_call (codeAny_mono rc fun r s' hq => ?_)
  cases r with
  | error e => exact passAt tk σZ _ _ _ _ _ I1 hq
  | ok fl =>
    cases fl with
    | ret u => exact I1.after hq
    | next => exact False.elim hq
    | brk => exact False.elim hq
    | cont => exact False.elim hq
end
/-! ### a def that gets a lambda -/
abbrev SpW := (Gp → QK → EK → Prop) → Gp → QK → EK → Prop
structure Lw3 (P : Program) (w : World) (K : PySem.W.Frag) (mg : Str → Option Value) (base : Heap) (x : Str) (k : Nat) (spw : SpW) : Prop where
  ex : ∃ (g : Addr) (fd : FuncData) (a : Str) (Ng : List Str) (pg : Arguments) (bg : List Stmt) (sg : Scope) (tw : D → (Gp → QK → EK → Prop) → TS3), mg x = some (.ref g) ∧ FunD K x x pg bg sg [] [] g fd ∧
    FnScope Ng [a] sg ∧ Binds K fd [a] [] ∧ Ng[0]? = some a ∧ Vis sg a ∧ (a == ("__debug__" : Str)) = false ∧ (a == ("__classdict__" : Str)) = false ∧
    (∀ (L : D) (tl : Gp → QK → EK → Prop) (cdv : Value) (A : Around) (outer : List Env) (s : Shared) (H : Hp) (E : XK), Room k (A.deeper (envOfC x sg s.heap.objs.size g cdv)) →
      (∀ (W : WX) (pn : List (Addr × Obj)) (xe : Value → Shared → Prop) (p1 p2 : Pos), Takes ((cxOf (L2.CX P w) P w K mg base Ng x sg g cdv A outer s H E).tr pn xe) W →
        PE3 ((cxOf (L2.CX P w) P w K mg base Ng x sg g cdv A outer s H E).tr pn xe) Z0 W (.Call (.Name a p1) [] [] p2) (tcl 0 L tl)) →
      PSs3 (cxOf (L2.CX P w) P w K mg base Ng x sg g cdv A outer s H E) Z0 (fun c d _ H' => E c d H') bg (tw L tl)) ∧
    ∀ L tl G Q E, spw tl G Q E → tw L tl (fnEnds Q E) (start3 Ng [L]) G
def tlam (P : Addr) (q : Str) (spw : SpW) (tb : TE3) : TE3 := fun σ G Q E => G P = some (.tb q) ∧ spw (fun G1 Q1 E1 => tb σ G1 Q1 E1) G Q E
section
variable {X : Cx} {W : WX}
theorem lamw_ {x q : Str} {c P : Addr} {k j : Nat} {spw : SpW} {params : Arguments} {body : Expr} {scope : Scope} {tb : TE3} {p lpos pos : Pos} (F : Lw3 X.prog X.w X.K X.mg X.base x j spw)
    (TB : LamX.TabB X.base X.mg c P) (hcd : X.env.code = .ref c) (eq : X.env.qual ++ ("<lambda>" : Str) = q) (hr : Room k X.A) (hj : j + 1 ≤ k) (tk : Takes X W) (L : LamX.LamS X.env.scope scope)
    (hbody : ∀ (A : Around) (outer : List Env) (s : Shared) (H : Hp) (E : XK) (f c' : Addr), Room (j - 1) (A.deeper (LamX.lamEnv X scope s.heap.objs.size f c')) →
      PE3 (LamX.lamCx X A outer s H E scope f c') Z0 (fun c d _ H' => E c d H') body tb)
    (hj1 : 1 ≤ j) (hg : Gl X x := by rfl) (hdb : (x == ("__debug__" : Str)) = false := by decide) (hdef : defaultsOf params X.env = ([], []) := by rfl)
    (hbind : ∀ (q : Str) (cl : List (Str × Addr)) (pm cv ctv : Value), bindArgs (PySem.W.kla_fn "<lambda>" q params body scope cl pm cv ctv) ⟨[], []⟩ = pure [] := by intros; rfl) :
    PE3 X Z0 W (.Call (.Name x p) [.Lambda params body scope lpos] [] pos) (tlam P q spw tb) := by
  obtain ⟨g, fd, a, Ng, pg, bg, sg, tw, hm, FD, Sg, hb, hNg, hva, hd, hcdd, hw, hv⟩ := F.ex
  refine ⟨fun pins s σ H Q I h => ?_⟩
  obtain ⟨σ3, G, Q3, E3, gh, rs, ⟨hP, hsp⟩, qk, xk⟩ := h
  have hT : LamX.TabS H P (X.env.qual ++ "<lambda>") := by
    have := gh _ _ hP
    rw [eq]; exact this
  refine wpAny_Call_Name_kw (ld_glob I hg hm ?_ hdb)
  refine PySem.W.callWith_K (h₀ := X.base) I.ok.mod.kin FD.kp ?_ (by rfl) (by rfl)
  show wpAny _ _ (spliced ((false, eval (.Lambda params body scope lpos) X.env) :: backTo pos (starEach [] X.env))) _ _ s
  refine Calls.spliced_cons (lam_new I TB hcd hT hdef (L.has I.ok) fun f c' pm' ctv H1 s' I1 kp T1 hf hfn hfr hco => ?_)
  refine Calls.spliced_nil ⟨I1.kIn, ?_⟩
  have keep : Keep G H G H1 := fun b o e n => ⟨kp b o (fun z => by rw [z, hP] at n; cases n) e, n⟩
  have g1 : GH (Cxk X Z0) G H1 := fun b o e => by
    by_cases hb : b = P
    · rw [hb, hP] at e
      cases e
      rw [hb, ← eq]; exact T1
    · obtain ⟨u, hu⟩ := gh.some_of e
      exact (gh b o e).keep gh keep ((kp b u hb hu).trans hu.symm)
  have gc : G c' = none := by
    cases e : G c' with
    | none => rfl
    | some o =>
      have := (g1.none_of hco (by intros; intro z; unfold LamX.CodeO at z; cases z) (by intros; intro z; unfold LamX.CodeO at z; cases z) (by intros; intro z; unfold LamX.CodeO at z; cases z) (by intros; intro z; unfold LamX.CodeO at z; cases z))
      rw [this] at e; cases e
  have rs1 := rs.keep gh keep
  have dl := cap_dv rs1
  obtain ⟨oc, od, dV, kV, doc, pm, an, cdv, ct, osl, rfl, lk, hcg, _, _⟩ := FD.ex
  have rj : Room (j + 1) X.A := hr.mono hj
  have bnd := hb s' [.ref f] I1.kIn rfl
  rw [List.append_nil] at bnd
  have rc : codeAny (model X.prog X.w) X.A (.call (.ref g) ⟨[.ref f], []⟩) (CR (L2.CX X.prog X.w) X.stack X.prog X.w H1 s' Q (fun c d H' => W c d σ H')) s' := by
    refine LamX.run_ofS (CX := L2.CX X.prog X.w) (N := Ng) (ps := [a]) (us := [.ref f]) (vs := [.ref f]) lk hcg Sg rj I1.env0 bnd (.cons rfl .nil) rfl fun hr' => ?_
    have hr2 : Room (j - 1 + 1) (X.A.deeper (envOfC x sg s'.heap.objs.size g cdv)) := by rw [show j - 1 + 1 = j by omega]; exact hr'
    refine ⟨_, hw (.lam f c' (X.env.qual ++ "<lambda>") (capD σ3) (capV σ3 σ)) (fun G1 Q1 E1 => tb σ3 G1 Q1 E1) cdv X.A X.stack s' H1 (fun c d H' => W c d σ H') hr' (fun W' pn xe p1 p2 tk' =>
      act_ (k := j - 1) I1 L hf hfn hfr (hbind _ _ _ _ _) rs1 (fun A outer s H E hr3 => hbody A outer s H E f c' hr3) hr2 hNg hva hd hcdd W' pn xe p1 p2 tk'), ?_⟩
    refine ⟨start3 Ng [.lam f c' (X.env.qual ++ "<lambda>") (capD σ3) (capV σ3 σ)], G, fnEnds Q3 E3, g1, start_rs Ng (.cons (.lam hco gc dl) .nil), hv _ _ G Q3 E3 hsp, ?_⟩
    refine ⟨fun σ4 G1 τ H2 ⟨G2, s2, h1⟩ gg r1 k1 => ?_, fun d G1 v H2 ⟨G2, s2, h1⟩ gg r1 k1 => ?_, fun _ _ _ _ z => z.elim, fun _ _ _ _ z => z.elim, fun x3 σ4 G1 cc dd τ H2 ⟨G2, s2, h1⟩ gg r1 xv k1 => ?_⟩
    · exact qk _ _ _ _ h1 (gg.sub s2) .non ((keep.trans k1).trans (Keep.sub s2))
    · exact qk _ _ _ _ h1 (gg.sub s2) (r1.keep gg (Keep.sub s2)) ((keep.trans k1).trans (Keep.sub s2))
    · exact xk _ _ _ _ _ h1 (gg.sub s2) (xv.sub gg s2) ((keep.trans k1).trans (Keep.sub s2))
  refine wpAny_call (codeAny_mono rc fun r s2 hq => ?_)
  cases r with
  | error e => exact passAt tk σ _ _ _ _ _ I1 hq
  | ok fl =>
    cases fl with
    | ret u => exact I1.after hq
    | next => exact False.elim hq
    | brk => exact False.elim hq
    | cont => exact False.elim hq
end

/-! ### defs as values -/
section
variable {X : Cx} {Z : Zx} {W : WX} {e : Expr} {es : List Expr} {ta : TA3} {te : TE3} {pos p pc : Pos} {x a : Str}
theorem cfn_ (hm : X.mg x = some (.ref (ga X.K x))) (hg : Gl X x := by rfl) (hd : (x == ("__debug__" : Str)) = false := by decide) : PE3 X Z W (.Name x pos) (tc (.fn x)) :=
  PE.imp (pe_glob (v := .ref (ga X.K x)) hg hm rfl hd) fun σ H Q ⟨σ3, G, Q3, E3, g, _, h, q, x⟩ => q_of q g h (.fn _)
def FV (P : Program) (w : World) (K : PySem.W.Frag) (mg : Str → Option Value) (base : Heap) (k : Nat) (tab : List (Str × Sp3)) : Prop := ∀ q ∈ tab, ∃ j, j ≤ k ∧ Fn3 P w K mg base q.1 j q.2 ∧ mg q.1 = some (.ref (ga K q.1))
theorem fv_nil {P : Program} {w : World} {K : PySem.W.Frag} {mg : Str → Option Value} {base : Heap} {k : Nat} : FV P w K mg base k [] := fun _ h => by cases h
theorem fv_cons {P : Program} {w : World} {K : PySem.W.Frag} {mg : Str → Option Value} {base : Heap} {k j : Nat} {x : Str} {sp : Sp3} {tab : List (Str × Sp3)} (F : Fn3 P w K mg base x j sp) (hj : j ≤ k) (hm : mg x = some (.ref (ga K x))) (r : FV P w K mg base k tab) : FV P w K mg base k ((x, sp) :: tab) := fun q hq => by
  rcases List.mem_cons.mp hq with e | e
  · rw [e]; exact ⟨j, hj, F, hm⟩
  · exact r q e
def tcv (i : Nat) (tab : List (Str × Sp3)) (ta : TA3) : TE3 := fun σ G Q E => ∃ x sp, gt σ i = some (.fn x) ∧ tab.lookup x = some sp ∧ ta σ G (fun ds G1 => sp ds G1 Q E) E
/-- x(e, ..), x a name that holds a def -/
theorem callv_ {i k : Nat} {tab : List (Str × Sp3)} (F : FV X.prog X.w X.K X.mg X.base k tab) (hr : Room k X.A) (tk : Takes X W) (ha : PA3 X Z0 W (e :: es) ta)
    (hN : X.N[i]? = some a := by rfl) (hv : Vis X.env.scope a := by first | exact Or.inl rfl | exact Or.inr (Or.inl rfl) | exact Or.inr (Or.inr rfl)) (hdb : (a == ("__debug__" : Str)) = false := by decide) (hcd : (a == ("__classdict__" : Str)) = false := by decide)
    (he : starEach (e :: es) X.env = (false, eval e X.env) :: starEach es X.env := by rfl) (hpl : (backTo pos (starEach es X.env)).any (·.1) = false := by rfl) :
    PE3 X Z0 W (.Call (.Name a p) (e :: es) [] pos) (tcv i tab ta) := by
  refine ⟨fun pins s σ H Q I h => ?_⟩
  obtain ⟨σ3, G, Q3, E3, g, rs, ⟨z, sp, e0, el, ht⟩, qk, xk⟩ := h
  obtain ⟨v0, at0, dv0⟩ := rs.2 i _ (gt_eq _ _ e0)
  cases dv0
  have mem : (z, sp) ∈ tab := PySem.mem_of_lookup el
  obtain ⟨j, hj, F1, hm1⟩ := F _ mem
  obtain ⟨f, fd, ps, hm, hk, hb, F1⟩ := F1.ex
  have ef : f = ga X.K z := by rw [hm] at hm1; injection hm1 with h; injection h
  refine wpAny_Call_Name_kw (thn ((pe_var (pos := p) (i := i) hN hv hdb hcd).run pins s σ H (fun v H1 => v = .ref (ga X.K z) ∧ H1 = H) I ⟨_, at0, rfl, rfl⟩) fun u s1 ⟨v, H1, I1, r1, q1⟩ => ?_)
  obtain ⟨ev, eH⟩ := q1
  subst ev
  rw [eH] at I1
  obtain rfl : u = Value.ref (ga X.K z) := r1
  rw [← ef]
  refine PySem.W.callWith_K (h₀ := X.base) I1.ok.mod.kin hk (thn (ha.run pos pins s1 σ H (fun vs H2 => (liftSp ⟨X.K, Z0⟩ sp) vs H2 Q (fun c d H' => W c d σ H')) I1 ?_) fun us s2 ⟨vs, H2, I2, r2, q2⟩ => ⟨I2.kIn, ?_⟩) he hpl
  · exact ⟨σ3, G, _, E3, g, rs, ht, fun ds G1 vs H2 h1 g1 r1 k1 => ⟨ds, G1, Q3, E3, g1, r1, h1, qk.keep k1, xk.keep k1⟩, xk⟩
  · exact run_fnS (E := WE W) F1 (hr.mono hj) hb (passAt tk σ) I2 r2 q2
end
/-! ### isinstance of a held error -/
def clsA (K : PySem.W.Frag) (b : Bool) (C : Str) : Value := if b then .type "ValueError" else .ref (ga K C)
structure ExiF (K : PySem.W.Frag) (l : List (Str × Str × Bool × Bool)) : Prop where
  ec : ∀ p ∈ l, ExcC K (ga K p.1)
  is : ∀ p ∈ l, PySem.W.kitOne K (.ref (ga K p.1)) (clsA K p.2.2.1 p.2.1) = some p.2.2.2
def excCB (K : PySem.W.Frag) (D : Addr) : Bool := decide (PySem.W.findIn K (.ref D) "__getattribute__" = some (some (.builtin "BaseException.__getattribute__"))) && (decide (PySem.W.findIn K (.ref D) "__getattr__" = some none) &&
  (decide (PySem.W.subIn K (.ref D) (.type "BaseException") = some true) && (PySem.W.hasDictIn K D && (decide (PySem.W.findIn K (.ref D) "__class__" = some (some (.builtin "object.__class__"))) &&
  (decide (PySem.W.specialIn K (.builtin "object.__class__") "__get__" = some (some (.builtin "getset_descriptor.__get__"))) && (decide (PySem.W.takesIn K (.builtin "object.__class__") = some true) && decide (PySem.W.mroIn K D (.type "object") = some true)))))))
def exiB (l : List (Str × Str × Bool × Bool)) (K : PySem.W.Frag) : Bool := l.all fun p => excCB K (ga K p.1) && decide (PySem.W.kitOne K (.ref (ga K p.1)) (clsA K p.2.2.1 p.2.1) = some p.2.2.2)
theorem exiF_ok {K : PySem.W.Frag} {l : List (Str × Str × Bool × Bool)} (h : exiB l K = true) : ExiF K l := by
  have key := fun p hp => He.ba (List.all_eq_true.mp h p hp)
  refine ⟨fun p hp => ?_, fun p hp => of_decide_eq_true (key p hp).2⟩
  obtain ⟨h, _⟩ := key p hp
  obtain ⟨h1, h⟩ := He.ba h
  obtain ⟨h2, h⟩ := He.ba h
  obtain ⟨h3, h⟩ := He.ba h
  obtain ⟨h4, h⟩ := He.ba h
  obtain ⟨h5, h⟩ := He.ba h
  obtain ⟨h6, h⟩ := He.ba h
  obtain ⟨h7, h8⟩ := He.ba h
  exact ⟨of_decide_eq_true h1, of_decide_eq_true h2, of_decide_eq_true h3, h4, of_decide_eq_true h5, of_decide_eq_true h6, of_decide_eq_true h7, of_decide_eq_true h8⟩
def exiOf (l : List (Str × Str × Bool × Bool)) (c C : Str) (b : Bool) : Option Bool := (l.find? fun p => p.1 == c && (p.2.1 == C && p.2.2.1 == b)).map (·.2.2.2)
theorem exi_ok {K : PySem.W.Frag} {l : List (Str × Str × Bool × Bool)} (T : ExiF K l) {c C : Str} {b r : Bool} (h : exiOf l c C b = some r) : ExcC K (ga K c) ∧ PySem.W.kitOne K (.ref (ga K c)) (clsA K b C) = some r := by
  unfold exiOf at h
  cases e : l.find? fun p => p.1 == c && (p.2.1 == C && p.2.2.1 == b) with
  | none => rw [e] at h; cases h
  | some p =>
    rw [e] at h
    have m := List.mem_of_find?_eq_some e
    have q := List.find?_some e
    simp only [Bool.and_eq_true, beq_iff_eq] at q
    have h1 : p.2.2.2 = r := Option.some.inj h
    obtain ⟨q1, q2, q3⟩ := q
    rw [← q1, ← q2, ← q3, ← h1]
    exact ⟨T.ec p m, T.is p m⟩
def tise (l : List (Str × Str × Bool × Bool)) (b : Bool) (C : Str) (te : TE3) : TE3 := fun σ G Q E => te σ G (fun x G1 => ∃ c r, x = .ex c ∧ exiOf l c C b = some r ∧ Q (.bl r) G1) E
theorem isie_ {X : Cx} {a : Addr} {oe : Obj} {d : Option Addr} {pn : List (Addr × Obj)} {W : WX} {e ce : Expr} {te : TE3} {p pos : Pos} {e3 : X3} {l : List (Str × Str × Bool × Bool)} {b : Bool} {C : Str} (T : ExiF X.K l) (hz : Zc (.ref (ga X.K e3.c)) d oe) (hf : ∃ vs, oe.data = .fields vs)
    (hi : X.mg "isinstance" = none) (hc : IsC (X.suite a ((a, oe) :: pn)) ce (clsA X.K b C)) (he : PE3 (X.suite a ((a, oe) :: pn)) ⟨a, .ref (ga X.K e3.c), d⟩ W e te) (hg : Gl X "isinstance" := by rfl)
    (he1 : starEach [e, ce] X.env = (false, eval e X.env) :: starEach [ce] X.env := by rfl) (he2 : starEach [ce] X.env = (false, eval ce X.env) :: starEach [] X.env := by rfl) (hpl : (backTo pos (starEach [ce] X.env)).any (·.1) = false := by rfl) :
    PE3 (X.suite a ((a, oe) :: pn)) ⟨a, .ref (ga X.K e3.c), d⟩ W (.Call (.Name "isinstance" p) [e, ce] [] pos) (tise l b C te) := by
  obtain ⟨cv, hc, k⟩ := hc
  have call : CallR (X.suite a ((a, oe) :: pn)) (.builtin "isinstance") (fun xs H Q => (ExcC X.K (ga X.K e3.c) ∧ d = none) ∧ rIsE X.K (ga X.K e3.c) a xs H Q) := fun pins s σ H xs us Q I r ⟨⟨h1, h2⟩, h3⟩ => by
    subst h2
    exact call_isE h1 hz hf pins s σ H xs us Q I r h3
  refine PE.imp (pe_callB (X := X.suite a ((a, oe) :: pn)) call hg hi (by decide +kernel) (pa_cons he (pa_cons hc pa_nil he2) he1) (by decide) (by decide) he1 hpl) fun σ H Q h => ?_
  obtain ⟨σ3, G, Q3, E3, g, rs, h, qk, x⟩ := h
  refine ⟨σ3, G, _, E3, g, rs, h, fun y G1 v H1 ⟨c, r, ey, h2, h3⟩ g1 r1 k1 => ?_, x⟩
  subst ey
  cases r1 with
  | ex z1 z2 =>
  obtain ⟨t1, t2⟩ := exi_ok T h2
  have z1 : Value.ref (ga X.K e3.c) = .ref (ga X.K c) := z1
  injection z1 with z1
  rw [← z1] at t1 t2
  exact ⟨⟨t1, z2⟩, cv, _, r, rfl, fun u hu => k.eq hu, t2, q_of (qk.keep k1) g1 h3 (.bl r)⟩
/-! ### count of flags -/
def mCount : QM := fun x ds G Q => match ds with
  | [.bl b] => ∃ bs : List Bool, lq G x = some (bs.map D.bl) ∧ Q (.int (bs.count b : Nat)) G
  | _ => False
theorem mt_cnt {X : Cx} : MtR X "list.count" (fun x xs H Q => ∃ (a : Addr) (ys : List V) (y : V), x = .ref a ∧ xs = [y] ∧ SqL X.K H a ys ∧ flatV y = true ∧ ys.all flatV = true ∧ Q (.int (ys.countP fun z => eqV z y : Nat)) H) := by
  intro pins s σ H x xs v us Q I rx rxs h
  obtain ⟨a, ys, y, rfl, rfl, hs, fy, fys, q⟩ := h
  cases rx
  obtain ⟨uy, rfl, ry⟩ := rxs.one
  obtain ⟨its, rv, ⟨⟨cls, dd, data, sl⟩, n, ho, hc, hdn, hd⟩, hlen⟩ := I.list hs
  simp only at hc hd
  subst hc hd
  refine call_meets PySem.F.slot_list_count ⟨_, ho, rfl⟩ PySem.F.entry_list_count (PySem.F.args_list_count_2 _ _)
    (SeqAt.list_countAt a its.toArray n dd sl uy (eqU y)) ⟨ho, fun u hu => mem_eqAt ry fy rv fys u (by simpa using hu), ?_⟩
  have key : ∀ (ys : List V) (its : List Value), Vals ys its → ys.all flatV = true → its.countP (eqU y) = ys.countP fun z => eqV z y := by
    intro ys
    induction ys with
    | nil => intro its r _; cases r; rfl
    | cons z zs ih =>
      intro its r f
      cases r with
      | cons rz rr =>
        simp only [List.all_cons, Bool.and_eq_true] at f
        rw [List.countP_cons, List.countP_cons, ih _ rr f.2, eqU_of rz f.1]
  refine ⟨.int (ys.countP fun z => eqV z y : Nat), H, I.tok _, ⟨s.toks, ?_⟩, q⟩
  show Value.int ((its.toArray.toList.countP (eqU y) : Nat) : Int) s.toks = Value.int ((ys.countP fun z => eqV z y : Nat) : Int) s.toks
  rw [show its.toArray.toList = its from rfl, key ys its rv fys]
theorem me_count {X : Cx} {Z : Zx} : MtR3 X Z "list.count" mCount := by
  refine ⟨_, mt_cnt, fun G H x v xs vs Q3 Q g rx r h q => ?_⟩
  unfold mCount at h
  split at h
  · rename_i b
    cases r with
    | cons r1 r2 =>
    cases r1
    cases r2
    obtain ⟨bs, e, h⟩ := h
    obtain ⟨a, ws, ea, s, rl⟩ := lq_ok g rx e
    have ew : ws = bs.map V.bl := by
      clear e ea s h
      induction bs generalizing ws with
      | nil => cases rl; rfl
      | cons c bs ih => cases rl with | cons r t => cases r; rw [ih _ t]; rfl
    subst ew
    refine ⟨a, _, _, ea, rfl, s, rfl, by rw [List.all_map]; exact List.all_eq_true.mpr fun _ _ => rfl, ?_⟩
    have e2 : (bs.map V.bl).countP (fun z => eqV z (V.bl b)) = bs.count b := by
      rw [List.countP_map]
      unfold List.count
      refine congrArg (fun f => List.countP f bs) (funext fun c => ?_)
      cases c <;> cases b <;> rfl
    rw [e2]
    exact q_of q g h (.int _)
  · exact h.elim
/-! ### the end of a law that hands lambdas on -/
theorem walk3t {l : PySem.W.OpenLaw} {n k : Nat} {q : Program} {loose : List Str} {XP : (Str → Option Value) → Heap → Prop} {YP : World → Heap → Prop} {d : DefRec} {x qn : Str} {sp : Addr → Sp3}
    (hn : l.most = some n) (hn2 : n ≤ sizeLine) (hdf : d.params.defaults = []) (hr : Room k callerA)
    (F : ∀ (w : World) (mg : Str → Option Value) (fa : Addr) (h : Heap), YP w h → h.Ns mainGlobals mg → mg d.name = some (.ref fa) →
      ∃ (K : PySem.W.Frag) (fd : FuncData) (c P : Addr), K.In h ∧ PySem.W.codeHdIn K c P = true ∧ K.lookup P = none ∧ h.get? P = some { cls := .none, data := .fields #[] } ∧ (∀ (s : Shared) (u : Value), BindsTo s fd ⟨[u], []⟩ [(x, u)]) ∧
        ∀ base : Heap, LamX.TabB base mg c P → FnOk l.prog w K mg base (L2.CX l.prog w) k fa fd [x] (liftSp ⟨K, Z0⟩ (sp P)))
    (hsp : ∀ (P : Addr) (ns : List Int) (Q : QK) (E : EK), ns.length ≤ n → (∀ G, Q (.bl true) G) → sp P [.sl (ns.map D.int)] (fun b => if b = P then some (.tb qn) else none) Q E) :
    PySem.W.WalkO q loose XP YP l.row.toRowW d [] (fun f vs => PySem.call f vs) := by
  refine LamX.walk_ofTsE (CX := fun w => L2.CX l.prog w) (x := x) (k := k) (n := n) hn hn2 hdf hr (fun w mg fa h Y G hmg => ?_) fun w H s e s' hx => ?_
  · obtain ⟨K, fd, c, P, KX, hc, nP, eP, hb, hF⟩ := F w mg fa h Y G hmg
    refine ⟨K, KX, fd, [(c, P)], liftSp ⟨K, Z0⟩ (sp P), ?_, ?_, ?_, hb, fun H a ns hlen _ hT hS => ?_, fun base _ _ hTB => hF base (hTB _ (List.mem_singleton.mpr rfl))⟩
    · intro p hp; rw [List.mem_singleton.mp hp]; exact eP
    · intro p hp; rw [List.mem_singleton.mp hp]; exact nP
    · intro p hp; rw [List.mem_singleton.mp hp]; exact PySem.W.codeHd_of_K KX hc
    · have tP : H P = some (.tbl #[]) := hT (c, P) (List.mem_singleton.mpr rfl)
      have g0 : GH ⟨K, Z0⟩ (fun b => if b = P then some (.tb qn) else none) H := fun b o h => by
        dsimp only at h
        by_cases hb : b = P
        · rw [if_pos hb] at h; cases h; rw [hb]; exact LamX.TabS.nil tP
        · rw [if_neg hb] at h; cases h
      have na : a ≠ P := fun z => by
        rcases hS with h | ⟨o, its, n, h, _⟩
        · rw [z] at h; rcases h with h | ⟨o, h⟩ <;> rw [tP] at h <;> cases h
        · rw [z, nP] at h; cases h
      refine ⟨[.sl (ns.map D.int)], _, fun d _ => d = .bl true, fun _ _ => False, g0, .cons (.sl (SqF.of g0 hS (if_neg na)) (dvl_ints ns)) .nil, hsp P ns _ _ hlen fun _ => rfl,
        fun d G' v H' h g r k => by subst h; cases r; rfl, fun _ _ _ _ _ z => z.elim⟩
  · obtain ⟨_, _, _, _, _, _, _, _, _, _, _, _, z⟩ := hx
    exact z
theorem isc_ve {X : Cx} {p : Pos} {C : Str} (hm : X.mg "ValueError" = none) (hg : Gl X "ValueError" := by rfl) : IsC X (.Name "ValueError" p) (clsA X.K true C) :=
  ⟨.ty "ValueError", pe_bltn hg hm (by decide +kernel) rfl (by decide +kernel) (by decide +kernel), .ty _⟩
theorem isc_oe {X : Cx} {p : Pos} {x : Str} (hm : X.mg x = some (.ref (ga X.K x))) (hg : Gl X x := by rfl) (hd : (x == ("__debug__" : Str)) = false := by decide +kernel) : IsC X (.Name x p) (clsA X.K false x) :=
  ⟨.ref (ga X.K x), pe_glob hg hm rfl hd, .own _⟩
theorem code_of {K : PySem.W.Frag} {x q : Str} {params : Arguments} {body : List Stmt} {scope : Scope} {fd : FuncData} {p : Str × Option Str} (F : FunD K x q params body scope [] [] (He.fAd K p) fd) : fd.code = .ref (He.codeOf K p) := by
  obtain ⟨oc, od, dV, kV, doc, pm, an, cdv, ct, osl, rfl, lk, hcd, _, _⟩ := F.ex
  obtain ⟨c, rfl⟩ := He.codeIn_ref hcd
  rw [He.codeOf_eq lk rfl]
section
variable {P : Program} {w : World} {mg : Str → Option Value} {base : Heap}
theorem fn3_ofc {K : PySem.W.Frag} {x qual : Str} {params : Arguments} {body : List Stmt} {scope : Scope} {f c : Addr} {fd : FuncData} {N ps : List Str} {k : Nat} {sp : Sp3}
    (F : FunD K x qual params body scope [] [] f fd) (hc : fd.code = .ref c) (S : FnScope N ps scope) (len : ∀ ds G Q E, sp ds G Q E → ds.length = ps.length)
    (hbody : ∃ t : TS3, (∀ (A : Around) (outer : List Env) (s : Shared) (H : Hp) (E : XK), Room k (A.deeper (envOfC qual scope s.heap.objs.size f (.ref c))) →
        PSs3 (cxOf (L2.CX P w) P w K mg base N qual scope f (.ref c) A outer s H E) Z0 (fun c d _ H' => E c d H') body t) ∧
      ∀ ds G Q E, sp ds G Q E → t (fnEnds Q E) (start3 N ds) G) : FnOk P w K mg base (L2.CX P w) (k + 1) f fd ps (liftSp ⟨K, Z0⟩ sp) := by
  obtain ⟨t, hb, hv⟩ := hbody
  obtain ⟨oc, od, dV, kV, doc, pm, an, cdv, ct, osl, rfl, lk, hcd, _, _⟩ := F.ex
  have hc : cdv = .ref c := hc
  subst hc
  refine fn_of lk hcd S (fun vs H Q E h => ?_) fun A outer s H vs Q E hr h => ?_
  · obtain ⟨ds, G, Q3, E3, g, r, h, _⟩ := h
    rw [← r.length]
    exact len _ _ _ _ h
  · refine ⟨_, hb A outer s H E hr, ?_⟩
    obtain ⟨ds, G, Q3, E3, g, r, h, q, x⟩ := h
    refine ⟨start3 N ds, G, fnEnds Q3 E3, g, start_rs N r, hv ds G Q3 E3 h, ⟨fun σ3 G1 σ H1 ⟨G2, s2, h1⟩ g1 r1 k1 => ?_, fun d G1 v H1 ⟨G2, s2, h1⟩ g1 r1 k1 => ?_, fun _ _ _ _ z => z.elim, fun _ _ _ _ z => z.elim, fun x3 σ3 G1 c d σ H1 ⟨G2, s2, h1⟩ g1 r1 xv k1 => ?_⟩⟩
    · exact q _ _ _ _ h1 (g1.sub s2) .non (k1.trans (Keep.sub s2))
    · exact q _ _ _ _ h1 (g1.sub s2) (r1.keep g1 (Keep.sub s2)) (k1.trans (Keep.sub s2))
    · exact x _ _ _ _ _ h1 (g1.sub s2) (xv.sub g1 s2) (k1.trans (Keep.sub s2))
end
/-- == of plain things, where the room is not told (in an except suite) -/
def eqs3 : Q2 := fun x y G Q => scD x y = true ∧ Q (.bl (eqD x y)) G
theorem o_eqs {X : Cx} {Z : Zx} : OpR3 X Z (compareOp .Eq) eqs3 := by
  refine ⟨_, op_eq, fun G H x y v u Q3 Q g rx ry h q => ?_⟩
  obtain ⟨c, h⟩ := h
  obtain ⟨h1, h2⟩ := scal_of rx ry c
  exact ⟨h1, by rw [h2]; exact q_of q g h (.bl _)⟩
section
variable {P : Program} {w : World} {K : PySem.W.Frag} {mg : Str → Option Value} {base : Heap} {N : List Str} {qual : Str} {sc : Scope} {f c : Addr} {A : Around} {outer : List Env} {s : Shared} {H : Hp} {E : XK}
/-- lamw_ in a def's own body -/
theorem lamwc_ {x : Str} {Pt : Addr} {k j : Nat} {spw : SpW} {params : Arguments} {body : Expr} {scope : Scope} {tb : TE3} {p lpos pos : Pos} (F : Lw3 P w K mg base x j spw) (TB : LamX.TabB base mg c Pt)
    (hr : Room k (A.deeper (envOfC qual sc s.heap.objs.size f (.ref c)))) (hj : j + 1 ≤ k) (L : LamX.LamS sc scope)
    (hbody : ∀ (A1 : Around) (outer1 : List Env) (s1 : Shared) (H1 : Hp) (E1 : XK) (f1 c1 : Addr), Room (j - 1) (A1.deeper (LamX.lamEnv (cxOf (L2.CX P w) P w K mg base N qual sc f (.ref c) A outer s H E) scope s1.heap.objs.size f1 c1)) →
      PE3 (LamX.lamCx (cxOf (L2.CX P w) P w K mg base N qual sc f (.ref c) A outer s H E) A1 outer1 s1 H1 E1 scope f1 c1) Z0 (fun c d _ H' => E1 c d H') body tb)
    (hj1 : 1 ≤ j) (hg : Gl (cxOf (L2.CX P w) P w K mg base N qual sc f (.ref c) A outer s H E) x := by rfl) (hdb : (x == ("__debug__" : Str)) = false := by decide) (hdef : defaultsOf params (cxOf (L2.CX P w) P w K mg base N qual sc f (.ref c) A outer s H E).env = ([], []) := by rfl)
    (hbind : ∀ (q : Str) (cl : List (Str × Addr)) (pm cv ctv : Value), bindArgs (PySem.W.kla_fn "<lambda>" q params body scope cl pm cv ctv) ⟨[], []⟩ = pure [] := by intros; rfl) :
    PE3 (cxOf (L2.CX P w) P w K mg base N qual sc f (.ref c) A outer s H E) Z0 (fun c d _ H' => E c d H') (.Call (.Name x p) [.Lambda params body scope lpos] [] pos) (tlam Pt (qual ++ (".<locals>." : Str) ++ ("<lambda>" : Str)) spw tb) :=
  lamw_ (X := cxOf (L2.CX P w) P w K mg base N qual sc f (.ref c) A outer s H E) F TB rfl rfl hr hj tk_of L hbody hj1 hg hdb hdef hbind
end
/-! ### a, b, c = e1, e2, e3 -/
def spar3 (i j l : Nat) (ta : TA3) : TS3 := fun D σ G => ta σ G (fun ds G1 => ∃ u v w, ds = [u, v, w] ∧ D.nx (((σ.set i (some u)).set j (some v)).set l (some w)) G1) (fun x G1 => D.ex x σ G1)
theorem par3_ {X : Cx} {Z : Zx} {W : WX} {a b c : Expr} {ta : TA3} {pos : Pos} (i j l : Nat) {x y z : Str} {px py pz pt : Pos} {kt k2 pt2} (hc : X.calm = true) (hN : X.N.Nodup) (ha : PA3 X Z W [a, b, c] ta) (hi : X.N[i]? = some x := by rfl) (hj : X.N[j]? = some y := by rfl) (hl : X.N[l]? = some z := by rfl)
    (hij : i ≠ j := by decide) (hil : i ≠ l := by decide) (hjl : j ≠ l := by decide)
    (hx : X.env.scope.names.lookup x = some .local := by rfl) (hy : X.env.scope.names.lookup y = some .local := by rfl) (hz : X.env.scope.names.lookup z = some .local := by rfl)
    (hw : swappedStores [.Tuple [.Name x px, .Name y py, .Name z pz] kt pt] (.Tuple [a, b, c] k2 pt2) X.env = pure (some [x, y, z]) := by rfl)
    (hs : swapsWithSole [.Tuple [.Name x px, .Name y py, .Name z pz] kt pt] (.Tuple [a, b, c] k2 pt2) pos.line X.env = pure false := by rfl) :
    PS3 X Z W (.Assign [.Tuple [.Name x px, .Name y py, .Name z pz] kt pt] (.Tuple [a, b, c] k2 pt2) pos) (spar3 i j l ta) := PS.imp (ps_par3 hc hN hi hj hl hij hil hjl hx hy hz ha hw hs) fun D σ H h => by
  obtain ⟨σ3, G, D3, g, rs, h, d⟩ := h
  refine ⟨σ3, G, _, _, g, rs, h, fun ds G1 vs H1 ⟨u, v, w, e, h1⟩ g1 r1 k1 => ?_, d.exk g rs⟩
  subst e
  cases r1 with
  | cons r1 r2 =>
  cases r2 with
  | cons r2 r3 =>
  cases r3 with
  | cons r3 r4 =>
  cases r4
  exact ⟨_, _, _, rfl, d.nx _ _ _ _ h1 g1 ((((rs.keep g k1).set r1 i).set r2 j).set r3 l) k1⟩
end L3
namespace L3
open PySem PySem.Spec PyProof.Rows L2
open He (ga)
/-! ### methods of own instances -/
def tMthS (C : Addr) (m : Str) (sp : Sp) (E : St → XK) (ta : TE) (t : TA) : TE := fun σ H Q => ta σ H fun x H1 => ∃ a dx fs, x = .ref a ∧ H1 a = some (.ins C dx fs) ∧ fs.lookup m = none ∧ t σ H1 fun vs H2 => sp (x :: vs) H2 Q (E σ)
section
variable {X : Cx} {CX : CXT} {k : Nat} {f C : Addr} {fd : FuncData} {ps : List Str} {sp : Sp} {E : St → XK} {x m : Str} {p pos apos : Pos} {e o : Expr} {es : List Expr} {ta : TE} {t : TA}
theorem pe_mthS {pl : Sem Bool} (he : PE X o ta) (c : Cls X.K C) (hm : Meth X.K C m f) (F : FnOk X.prog X.w X.K X.mg X.base CX k f fd ps sp) (hr : Room k X.A) (hb : Binds X.K fd ps []) (hx : ∀ σ, PassesAt CX X σ (E σ)) (ha : PA X (e :: es) t)
    (hst : starEach (e :: es) X.env = (false, eval e X.env) :: starEach es X.env := by rfl) (hpl : (backTo pos (starEach es X.env)).any (·.1) = false := by rfl)
    (ht : eval (.Call (.Attribute o m apos) (e :: es) [] pos) X.env = (do
      let ov ← eval o X.env
      standAt apos.atName
      let (f, first) ← holding [ov] (getMethod ov m pl)
      callWith pos f first (backTo pos (starEach (e :: es) X.env)) (backToKw pos (keywordEach [] X.env))) := by rfl) :
    PE X (.Call (.Attribute o m apos) (e :: es) [] pos) (tMthS C m sp E ta t) := by
  refine ⟨fun pins s σ H Q I h => ?_⟩
  refine PySem.W.methodCall_KW (pl := pl) (thn (he.run pins s σ H _ I h) fun u s1 ⟨x, H1, I1, rx, a, dx, fs, ex, ea, l, q⟩ => ?_) ht
  subst ex
  obtain rfl : u = Value.ref a := rx
  refine getmeth_ok I1 ea c hm l ?_
  refine PySem.W.callWith_K (first := [.ref a]) (h₀ := X.base) I.ok.mod.kin hm.kp (thn (ha.run pos pins s1 σ H1 _ I1 q) fun us s2 ⟨vs, H2, I2, r, q2⟩ => ⟨I2.kIn, ?_⟩) hst hpl
  exact run_fnS (us := .ref a :: us) (vs := .ref a :: vs) F hr hb (hx σ) I2 (.cons rfl r) q2
theorem pe_mthS0 {pl : Sem Bool} (he : PE X o ta) (c : Cls X.K C) (hm : Meth X.K C m f) (F : FnOk X.prog X.w X.K X.mg X.base CX k f fd ps sp) (hr : Room k X.A) (hb : Binds X.K fd ps []) (hx : ∀ σ, PassesAt CX X σ (E σ))
    (ht : eval (.Call (.Attribute o m apos) [] [] pos) X.env = (do
      let ov ← eval o X.env
      standAt apos.atName
      let (f, first) ← holding [ov] (getMethod ov m pl)
      callWith pos f first (backTo pos (starEach [] X.env)) (backToKw pos (keywordEach [] X.env))) := by rfl) :
    PE X (.Call (.Attribute o m apos) [] [] pos) (tMthS C m sp E ta tNil) := by
  refine ⟨fun pins s σ H Q I h => ?_⟩
  refine PySem.W.methodCall_KW (pl := pl) (thn (he.run pins s σ H _ I h) fun u s1 ⟨x, H1, I1, rx, a, dx, fs, ex, ea, l, q⟩ => ?_) ht
  subst ex
  obtain rfl : u = Value.ref a := rx
  refine getmeth_ok I1 ea c hm l ?_
  exact PySem.W.callWith_K0 (first := [.ref a]) I1.kIn hm.kp (run_fnS (us := [.ref a]) (vs := [.ref a]) F hr hb (hx σ) I1 (.cons rfl .nil) q)
end
/-- an instance of c without an attribute m -/
def insM (c m : Str) (G : Gp) : D → Prop
  | .ref a => ∃ fs, G a = some (.ins c fs) ∧ fs.lookup m = none
  | .ob c' ns xs => c' = c ∧ (ns.zip xs).lookup m = none
  | _ => False
def tmth (c m : Str) (sp : Sp3) (to : TE3) (ta : TA3) : TE3 := fun σ G Q E => to σ G (fun x G1 => insM c m G1 x ∧ ta σ G1 (fun ds G2 => sp (x :: ds) G2 Q E) E) E
section
variable {K : K3} {G : Gp} {H : Hp}
theorem zip_none : ∀ {ns : List Str} {xs : List D} {vs : List V} {f : Str}, DvL K G H xs vs → (ns.zip xs).lookup f = none → (ns.zip vs).lookup f = none
  | [], _, _, _, _, _ => by simp
  | _ :: _, [], [], _, .nil, _ => by simp
  | n :: ns, x :: xs, v :: vs, f, .cons r t, h => by
    rw [List.zip_cons_cons, List.lookup_cons] at h ⊢
    cases e : f == n with
    | true => rw [e] at h; cases h
    | false =>
      rw [e] at h
      exact zip_none t h
theorem insM_ok (g : GH K G H) {c m : Str} {x : D} {v : V} (r : Dv K G H x v) (h : insM c m G x) : ∃ a dx fs, v = .ref a ∧ H a = some (.ins (ga K.f c) dx fs) ∧ fs.lookup m = none := by
  cases r with
  | ob s l n r =>
    obtain ⟨e, h⟩ := h
    subst e
    exact ⟨_, _, _, rfl, s, zip_none r h⟩
  | ref a =>
    obtain ⟨fs, e, h⟩ := h
    obtain ⟨dx, vs, h2, r⟩ := g a _ e
    rw [← zip_self fs] at h
    exact ⟨_, dx, _, rfl, h2, zip_none r h⟩
  | _ => exact h.elim
end
section
variable {X : Cx} {W : WX} {o e : Expr} {es : List Expr} {to : TE3} {ta : TA3} {pos apos : Pos} {c m : Str} {sp : Sp3}
theorem mth_k (σ : L2.St) (H : Hp) (Q : VK) (h : liftE (Cxk X Z0) W (tmth c m sp to ta) σ H Q) : tMthS (ga X.K c) m (liftSp (Cxk X Z0) sp) (WE W) (liftE (Cxk X Z0) W to) (liftA (Cxk X Z0) W ta) σ H Q := by
  obtain ⟨σ3, G, Q3, E3, g, rs, h, q, x⟩ := h
  refine ⟨σ3, G, _, E3, g, rs, h, fun d G1 v H1 ⟨h1, h2⟩ g1 r1 k1 => ?_, x⟩
  obtain ⟨a, dx, fs, ev, eH, l⟩ := insM_ok g1 r1 h1
  refine ⟨a, dx, fs, ev, eH, l, σ3, G1, _, E3, g1, rs.keep g k1, h2, fun ds G2 vs H2 h3 g2 r2 k2 => ?_, x.keep k1⟩
  exact ⟨d :: ds, G2, Q3, E3, g2, .cons (r1.keep g1 k2) r2, h3, q.keep (k1.trans k2), x.keep (k1.trans k2)⟩
theorem mth_ {j k : Nat} {f : Addr} {pl : Sem Bool} (c : Str) (F : Mn3 X.prog X.w X.K X.mg X.base f j sp) (cl : Cls X.K (ga X.K c)) (hm : Meth X.K (ga X.K c) m f) (hr : Room k X.A) (hj : j ≤ k) (tk : Takes X W) (ho : PE3 X Z0 W o to) (ha : PA3 X Z0 W (e :: es) ta)
    (hst : starEach (e :: es) X.env = (false, eval e X.env) :: starEach es X.env := by rfl) (hpl : (backTo pos (starEach es X.env)).any (·.1) = false := by rfl)
    (ht : eval (.Call (.Attribute o m apos) (e :: es) [] pos) X.env = (do
      let ov ← eval o X.env
      standAt apos.atName
      let (f, first) ← holding [ov] (getMethod ov m pl)
      callWith pos f first (backTo pos (starEach (e :: es) X.env)) (backToKw pos (keywordEach [] X.env))) := by rfl) :
    PE3 X Z0 W (.Call (.Attribute o m apos) (e :: es) [] pos) (tmth c m sp to ta) := by
  obtain ⟨fd, ps, hb, F⟩ := F.ex
  exact PE.imp (pe_mthS (pl := pl) ho cl hm F (hr.mono hj) hb (fun σ => passAt tk σ) ha hst hpl ht) mth_k
theorem mth0_ {j k : Nat} {f : Addr} {pl : Sem Bool} (c : Str) (F : Mn3 X.prog X.w X.K X.mg X.base f j sp) (cl : Cls X.K (ga X.K c)) (hm : Meth X.K (ga X.K c) m f) (hr : Room k X.A) (hj : j ≤ k) (tk : Takes X W) (ho : PE3 X Z0 W o to)
    (ht : eval (.Call (.Attribute o m apos) [] [] pos) X.env = (do
      let ov ← eval o X.env
      standAt apos.atName
      let (f, first) ← holding [ov] (getMethod ov m pl)
      callWith pos f first (backTo pos (starEach [] X.env)) (backToKw pos (keywordEach [] X.env))) := by rfl) :
    PE3 X Z0 W (.Call (.Attribute o m apos) [] [] pos) (tmth c m sp to anil) := by
  obtain ⟨fd, ps, hb, F⟩ := F.ex
  refine PE.imp (pe_mthS0 (pl := pl) ho cl hm F (hr.mono hj) hb (fun σ => passAt tk σ) ht) fun σ H Q h => ?_
  obtain ⟨σ3, G, Q3, E3, g, rs, h, q, x⟩ := h
  refine ⟨σ3, G, _, E3, g, rs, h, fun d G1 v H1 ⟨h1, h2⟩ g1 r1 k1 => ?_, x⟩
  obtain ⟨a, dx, fs, ev, eH, l⟩ := insM_ok g1 r1 h1
  exact ⟨a, dx, fs, ev, eH, l, [d], G1, Q3, E3, g1, .cons r1 .nil, h2, q.keep k1, x.keep k1⟩
end
/-! ### o.f as a target among others; o.f op= e -/
def gAttr (K : PySem.W.Frag) (to : TE) (f : Str) : TG := fun v σ H Q => to σ H fun x H2 => ∃ a C dx fs, x = .ref a ∧ H2 a = some (.ins C dx fs) ∧ Cls K C ∧ NoAttr K C f ∧ fs.length < 1000 ∧ Q σ (upd H2 a (.ins C dx (putF f v fs)))
theorem pg_attr {X : Cx} {o : Expr} {f : Str} {pos : Pos} {to : TE} (ho : PE X o to) : PG X (.Attribute o f pos) (gAttr X.K to f) := by
  refine ⟨fun pins s σ H v u Q I r h => ?_⟩
  rw [arm_assign_Attribute]
  refine wpAny_bind (wpAny_holding (thn (ho.run pins s σ H _ I h) fun ov s1 ⟨x, H1, I1, r1, a, C, dx, fs, ex, ea, c, n, l, q1⟩ => ?_))
  subst ex
  obtain rfl : ov = Value.ref a := r1
  refine wpAny_bind (wpAny_standAt (wpAny_bind (wpAny_holding ?_)))
  exact setattr_ok I1 ea c n l r fun s3 I3 => wpAny_release ⟨σ, _, I3, q1⟩
def tgF (c f : Str) (to : TE3) (d : D) : TS3 := fun E σ G => to σ G (fun x G2 => ∃ a fs, x = .ref a ∧ G2 a = some (.ins c fs) ∧ fs.length < 1000 ∧ E.nx σ (up G2 a (.ins c (put3 f d fs)))) (fun x G1 => E.ex x σ G1)
def saugF (c f : Str) (to tv : TE3) (t : Q2) : TS3 := fun D σ G => to σ G (fun x G1 => ∃ d, fldD c f G1 x = some d ∧ tv σ G1 (fun y G2 => t d y G2 (fun z G3 => ∃ a fs, x = .ref a ∧ G3 a = some (.ins c fs) ∧ fs.length < 1000 ∧ D.nx σ (up G3 a (.ins c (put3 f z fs))))) (fun x G1 => D.ex x σ G1)) (fun x G1 => D.ex x σ G1)
section
variable {X : Cx} {Z : Zx} {W : WX} {e o : Expr} {te to tv : TE3} {pos tpos p : Pos}
theorem tf_ (c : Str) {f : Str} (cl : Cls X.K (ga X.K c)) (na : NoAttr X.K (ga X.K c) f) (ho : PE3 X Z W o to) : Tg1 X Z W (.Attribute o f p) (tgF c f to) := by
  refine ⟨_, pg_attr ho, fun σ3 G D3 σ H Dd d v g rs rv h dk => ?_⟩
  refine ⟨σ3, G, _, _, g, rs, h, fun x G2 u H2 ⟨a, fs, ex, eG, l, h2⟩ g2 r2 k2 => ?_, dk.exk g rs⟩
  subst ex
  cases r2
  obtain ⟨dx, vs, eH, r⟩ := g2 a _ eG
  obtain ⟨us, h3, h4⟩ := put_ok (f := f) (rv.keep g k2) r
  refine ⟨a, _, dx, _, rfl, eH, cl, na, ?_, ?_⟩
  · rw [List.length_zip, List.length_map, ← r.length, List.length_map]; omega
  · rw [h3]
    exact (dk.keep k2).nx _ _ _ _ h2 (g2.set eG ⟨dx, us, upd_same, h4.keep g2 (Keep.set eG)⟩) ((rs.keep g k2).keep g2 (Keep.set eG)) (Keep.set eG)
theorem augF_ (c : Str) {f : Str} {op : Operator} {t : Q2} (hop : IpR3 X Z op t) (cl : Cls X.K (ga X.K c)) (na : NoAttr X.K (ga X.K c) f) (ho : PE3 X Z W o to) (hv : PE3 X Z W e tv) : PS3 X Z W (.AugAssign (.Attribute o f tpos) op e pos) (saugF c f to tv t) := by
  obtain ⟨r, hp, kk⟩ := hop
  refine PS.imp (ps_fldaug (rd := r) ho hv fun pins s σ H x y u v Q I rx ry q => hp pins s σ H x y u v Q I rx ry q) fun D σ H h => ?_
  obtain ⟨σ3, G, D3, g, rs, h, d⟩ := h
  refine ⟨σ3, G, _, _, g, rs, h, fun x G1 v H1 ⟨w, ew, h1⟩ g1 r1 k1 => ?_, d.exk g rs⟩
  obtain ⟨a, dx, fs, u, ea, eH, el, ru⟩ := fldD_ok g1 r1 ew
  refine ⟨a, _, dx, fs, u, ea, eH, cl, na, el, σ3, G1, _, _, g1, rs.keep g k1, h1, fun y G2 vy H2 h2 g2 r2 k2 => ?_, (d.keep k1).exk g1 (rs.keep g k1)⟩
  refine kk G2 H2 w y u vy _ _ g2 (ru.keep g1 k2) r2 h2 fun z G3 vz H3 ⟨b, gs, eb, eG, l, h3⟩ g3 r3 k3 => ?_
  have rx := (r1.keep g1 k2).keep g2 k3
  subst eb
  cases rx
  cases ea
  obtain ⟨dx', vs, eH', r⟩ := g3 _ _ eG
  obtain ⟨us, h5, h4⟩ := put_ok (f := f) r3 r
  refine ⟨dx', _, eH', ?_, ?_⟩
  · rw [List.length_zip, List.length_map, ← r.length, List.length_map]; omega
  · rw [h5]
    exact d.nx _ _ _ _ h3 (g3.set eG ⟨dx', us, upd_same, h4.keep g3 (Keep.set eG)⟩) ((((rs.keep g k1).keep g1 k2).keep g2 k3).keep g3 (Keep.set eG)) (((k1.trans k2).trans k3).trans (Keep.set eG))
end
/-! ### sum of a tuple -/
theorem iter_tup {prog : Program} {w : World} {A : Around} {E : Value → Shared → Prop} {s : Shared} {l : Addr} {items : Array Value} {Q : Value → Shared → Prop} (hl : s.heap.IsTuple l items)
    (h : ∀ s₂ : Shared, s₂ = { s with heap := s.heap.push { cls := .type "tuple_iterator", data := .fields #[.ref l, .int 0 0] } } →
      (s₂.heap.IsTupleIter s.heap.objs.size l 0 ∧ s₂.heap.IsTuple l items) → (∀ b ∈ [s.heap.objs.size, l], b < s₂.heap.objs.size) → l ≠ s.heap.objs.size → Q (.ref s.heap.objs.size) s₂) :
    wpAny (model prog w) A (pyIter (.ref l)) Q E s := by
  have hlt : l < s.heap.objs.size := by obtain ⟨_, e, _⟩ := hl; exact Heap.lt_size e
  refine wpAny_pyIter_tuple hl (h _ rfl ⟨⟨_, Heap.get?_push_size _ rfl, rfl, rfl⟩, hl.push _⟩ (fun b hb => ?_) (Nat.ne_of_lt hlt))
  show b < (s.heap.push _).objs.size
  rw [Heap.size_push]
  rcases List.mem_cons.mp hb with rfl | hb
  · exact Nat.lt_succ_self _
  · rcases List.mem_cons.mp hb with rfl | hb
    · exact Nat.lt_succ_of_lt hlt
    · cases hb
theorem sum_tup {prog : Program} {w : World} {A : Around} {E : Value → Shared → Prop} {s : Shared} {l : Addr} {its : List Value} {ns : List Int} {Q : Value → Shared → Prop} (hh : A.handled = none) (hl : s.heap.IsTuple l its.toArray) (hi : IntsAre its ns)
    (h : ∀ h' tk t', (∀ b o, s.heap.get? b = some o → h'.get? b = some o) → Q (.int ns.sum t') { s with heap := h', toks := tk }) : wpAny (model prog w) A (call (.builtin "sum") [.ref l]) Q E s := by
  obtain ⟨xs, e⟩ := hi.allInts.items
  have hn : numsOf (intItems xs).toList = ns := by rw [← e]; exact hi.numsOf
  rw [nums_intItems] at hn
  rw [e] at hl
  refine PySem.call_sum_walkG (iter_tup hl fun s₂ e st hfp hlI => ?_)
  subst e
  refine ⟨_, _, _, _, _, _, PySem.numAt xs, rfl, Walks.tuple (A := A.in1) hh _ l hlI (intItems xs), st, hfp, (fun _ _ => intItems_at), fun h' tk t' hk => ?_⟩
  have := h h' tk t' fun b o e => hk b o (fun hm => by
    rcases List.mem_cons.mp hm with e1 | hm
    · exact absurd (e1 ▸ Heap.lt_size e) (Nat.lt_irrefl _)
    · cases hm) (Heap.get?_push_of_some _ e)
  have e2 : (intItems xs).size = xs.size := by simp [intItems]
  rw [e2, preSum_eq, List.take_of_length_le (by simp), hn]
  exact this
def bSumT : QL := fun ds G Q => match ds with
  | [x] => ∃ xs ns, sq G x = some xs ∧ intsD xs = some ns ∧ Q (.int ns.sum) G
  | _ => False
theorem cr_sumT {X : Cx} (hc : X.calm = true) : CallR X (.builtin "sum") (fun vs H Q => ∃ (a : Addr) (ns : List Int), vs = [V.ref a] ∧ SqT X.K H a (ns.map V.int) ∧ Q (.int ns.sum) H) := by
  intro pins s σ H vs us Q I r h
  obtain ⟨a, ns, rfl, hs, q⟩ := h
  obtain ⟨its, rv, hl, _⟩ := I.tuple hs
  rw [Vals.ref1 r]
  exact sum_tup (I.ok.hd hc) hl rv.ints fun h' tk t' hk => ⟨.int _, H, I.kept hk, ⟨_, rfl⟩, q⟩
theorem b_sumT {X : Cx} {Z : Zx} (hc : X.calm = true) : CallR3 X Z (.builtin "sum") bSumT := by
  refine ⟨_, (cr_sum hc).or (cr_sumT hc), fun G H xs vs Q3 Q g r h q => ?_⟩
  unfold bSumT at h
  split at h
  · cases r with
    | cons r1 r2 =>
    cases r2
    obtain ⟨xs, ns, e, e2, h⟩ := h
    obtain ⟨p, vs, ep, s, r⟩ := sq_ok g r1 e
    rcases s with s | s
    · exact .inl ⟨p, ns, by rw [ep], by rw [← ints_ok r e2]; exact s, q_of q g h (.int _)⟩
    · exact .inr ⟨p, ns, by rw [ep], by rw [← ints_ok r e2]; exact s, q_of q g h (.int _)⟩
  · exact h.elim
/-! ### a def that stands under another name -/
theorem fn3n {P : Program} {w : World} {mg : Str → Option Value} {base : Heap} {K : PySem.W.Frag} {x nm qual : Str} {params : Arguments} {body : List Stmt} {scope : Scope} {f : Addr} {fd : FuncData} {N ps : List Str} {k : Nat} {sp : Sp3} (hm : mg x = some (.ref f))
    (F : FunD K nm qual params body scope [] [] f fd) (S : FnScope N ps scope) (hb : Binds K fd ps []) (len : ∀ ds G Q E, sp ds G Q E → ds.length = ps.length)
    (hbody : ∃ t : TS3, (∀ (cdv : Value) (A : Around) (outer : List Env) (s : Shared) (H : Hp) (E : XK), Room k (A.deeper (envOfC qual scope s.heap.objs.size f cdv)) →
        PSs3 (cxOf (L2.CX P w) P w K mg base N qual scope f cdv A outer s H E) Z0 (fun c d _ H' => E c d H') body t) ∧
      ∀ ds G Q E, sp ds G Q E → t (fnEnds Q E) (start3 N ds) G) : Fn3 P w K mg base x (k + 1) sp := ⟨f, fd, ps, hm, F.kp, hb, fn3_of F S len hbody⟩
/-! ### a Hook whose reach is three steps and the methods' codes: the full six steps eat the kernel's memory at 90 defs -/
def ownRefs (g : Addr → Option Obj) (a : Addr) : List Addr := match g a with
  | some ⟨c, d, .func fd, sl⟩ => He.refsD ⟨c, d, .func fd, sl⟩
  | some ⟨_, _, .cls cd, _⟩ => cd.ns :: cd.mro.flatMap He.refV
  | _ => []
def nsRefs (g : Addr → Option Obj) (a : Addr) : List Addr := match g a with
  | some ⟨c, d, .dict es n, sl⟩ => He.refsO ⟨c, d, .dict es n, sl⟩
  | some ⟨_, _, .cls cd, _⟩ => [cd.ns]
  | _ => []
def fnRefs (g : Addr → Option Obj) (a : Addr) : List Addr := match g a with
  | some ⟨c, d, .func fd, sl⟩ => He.refsD ⟨c, d, .func fd, sl⟩
  | _ => []
def asY3 (g : Addr → Option Obj) (l1 l2 l3 : List Addr) : List Addr := PySem.mainGlobals :: (l1 ++ (l2 ++ (l3 ++ l3.flatMap (fnRefs g))))
def asY2 (g : Addr → Option Obj) (l1 l2 : List Addr) : List Addr := asY3 g l1 l2 (l2.flatMap (nsRefs g))
def asY1 (g : Addr → Option Obj) (l1 : List Addr) : List Addr := asY2 g l1 (l1.flatMap (ownRefs g))
def asY (g : Addr → Option Obj) (_ : Nat) : List Addr := asY1 g (nsRefs g PySem.mainGlobals)
def lookY (fa : List He.Fa) (fn : List He.DefD) (ts : List He.Tab) (tf : List He.Defn) (ex : PySem.W.Frag → Bool) (g : Addr → Option Obj) (as : List Addr) : He.AlX := (He.obsT fa fn ts (He.frT g as), ex (He.frT g as) && He.tabsB g tf (He.frT g as))
def obsY (n : Nat) (fa : List He.Fa) (fn : List He.DefD) (ts : List He.Tab) (tf : List He.Defn) (ex : PySem.W.Frag → Bool) (g : Addr → Option Obj) : He.AlX := lookY fa fn ts tf ex g (asY g n)
theorem saysY {as : List Addr} {fa : List He.Fa} {fn : List He.DefD} {ts : List He.Tab} {tf : List He.Defn} {ex : PySem.W.Frag → Bool} {w : World} {h : Heap} (e : lookY fa fn ts tf ex h.get? as = He.valX fn ts w) : He.SaysX fa fn ts tf ex w h (He.frT h.get? as) := by
  have h2 : (ex (He.frT h.get? as) && He.tabsB h.get? tf (He.frT h.get? as)) = true := congrArg Prod.snd e
  have h3 := (Bool.and_eq_true_iff.mp h2).2
  have tab : ∀ p ∈ tf, PySem.W.codeHdIn (He.frT h.get? as) (He.cT (He.frT h.get? as) p).1 (He.cT (He.frT h.get? as) p).2 = true ∧ ∃ o, h.get? (He.cT (He.frT h.get? as) p).2 = some o ∧ He.emptyTab o = true := by
    intro p hp
    have z := Bool.and_eq_true_iff.mp (List.all_eq_true.mp h3 p hp)
    refine ⟨z.1, ?_⟩
    have z2 := z.2
    cases q : h.get? (He.cT (He.frT h.get? as) p).2 with
    | none => rw [q] at z2; cases z2
    | some o => rw [q] at z2; exact ⟨o, rfl, z2⟩
  refine ⟨congrArg Prod.fst e, (Bool.and_eq_true_iff.mp h2).1, fun p hp => (tab p hp).1, fun p hp => ?_, fun p hp => ?_⟩
  · obtain ⟨o, q, z⟩ := (tab p hp).2
    exact He.frT_none q z
  · obtain ⟨o, q, z⟩ := (tab p hp).2
    rw [q, He.emptyTab_eq z]
def hookY (n : Nat) (fa : List He.Fa) (fn : List He.DefD) (ts : List He.Tab) (tf : List He.Defn) (ex : PySem.W.Frag → Bool) : PySem.W.Hook where
  α := He.AlX
  obs := fun s => obsY n fa fn ts tf ex s.heap.get?
  val := fun w => He.valX fn ts w
  says := fun w h => ∃ K : PySem.W.Frag, K.In h ∧ He.SaysX fa fn ts tf ex w h K
  of := fun _ _ e => ⟨_, He.frT_in, saysY e⟩
  keeps := fun _ _ _ ⟨K, hK, c⟩ k => ⟨K, PySem.W.Frag.In.keeps hK k, ⟨c.t, c.more, c.hd, c.out, fun p hp => k _ _ (c.empty p hp)⟩⟩
theorem obsY_eq {n : Nat} {fa : List He.Fa} {fn : List He.DefD} {ts : List He.Tab} {tf : List He.Defn} {ex : PySem.W.Frag → Bool} {g : Addr → Option Obj} {s : Shared} (h : ∀ a, g a = s.heap.get? a) : obsY n fa fn ts tf ex g = (hookY n fa fn ts tf ex).obs s := by
  rw [show g = s.heap.get? from funext h] <;> rfl
end L3
namespace L3
open PySem PySem.Spec PyProof.Rows L2
open He (ga)
/-! ### {"a": 1, ..}[e]: a dict of constants that is asked once -/
def cdK (kvs : List (Str × Int)) : List (Key × V) := kvs.map fun p => (Sum.inr p.1, V.int p.2)
def tcdix (kvs : List (Str × Int)) (te : TE3) : TE3 := fun σ G Q E => te σ G (fun y G1 => ∃ s n, y = .str s ∧ valV (mergeK [] (cdK kvs)) (Sum.inr s) = some (V.int n) ∧ Q (.int n) G1) E
theorem tPairs_c {σ : St} : ∀ (kvs : List (Str × Int)) {H : Hp} {Q : List (V × V) → Hp → Prop}, Q ((cdK kvs).map fun kv => (kV kv.1, kv.2)) H → tPairs (kvs.map fun p => (tC (.str p.1), tC (.int p.2))) σ H Q
  | [], _, _, h => h
  | p :: r, _, _, h => tPairs_c r h
theorem cdix_ {X : Cx} {Z : Zx} {W : WX} {i : Expr} {te : TE3} {pos pd : Pos} {keys : List (Option Expr)} {values : List Expr} {k : Nat} (kvs : List (Str × Int)) (hr : Room k X.A) (hd : PPs X pd keys values (kvs.map fun p => (tC (.str p.1), tC (.int p.2)))) (hi : PE3 X Z W i te) (hs : NoSl i := by trivial)
    (hall : keys.all (·.isSome) = true := by rfl) (hl : keys.length = values.length := by rfl) (h0 : keys ≠ [] := by simp) (h15 : keys.length ≤ 15 := by decide) (k15 : kvs.length ≤ 15 := by decide) : PE3 X Z W (.Subscript (.Dict keys values pd) i pos) (tcdix kvs te) :=
  PE.imp (pe_dget (by have := hr.units; omega) (pe_disp hd hall hl h0 h15) hi hs) fun σ H Q hq => by
  obtain ⟨σ3, G, Q3, E3, g, rs, h, q, x⟩ := hq
  intro p n
  refine tPairs_c kvs ⟨upd_same, cdK kvs, rfl, by unfold cdK; rw [List.length_map]; exact k15, ?_⟩
  rw [upd_upd]
  have kp : Keep G H G (upd H p (.dK (mergeK [] (cdK kvs)))) := Keep.new n
  refine ⟨σ3, G, _, E3, g.new n, rs.keep g kp, h, fun d G1 v H1 ⟨s, m, e, l, h1⟩ g1 r1 k1 => ?_, x.keep kp⟩
  subst e
  cases r1
  have gp : G p = none := g.free n
  obtain ⟨hp, _⟩ := k1 p _ upd_same gp
  exact ⟨p, .int m, rfl, by rw [← l]; exact DGet.k (k := Sum.inr s) hp, q _ _ _ _ h1 g1 (.int _) (kp.trans k1)⟩
end L3
namespace L3
open PySem PySem.Spec PyProof.Rows L2
open He (ga)
/-! ### a comprehension whose turns change G and whose list is written later -/
theorem lc_invT {t : Tg} {tt : TT3} {te : TE3} {gd : Gp → Prop} {σ : St3} {Q : QK} {G : Gp} {xs : List D} (I : Nat → List D → Gp → Prop) (l : xs.length ≤ sizeLine)
    (step : ∀ (k : Nat) (x : D) (acc : List D) (G : Gp) (p : Addr) (N : D → Gp → Prop) (N' : Gp → Prop), xs[k]? = some x → G p = none → I k acc G → (∀ d G3, G3 p = none → I (k + 1) (acc ++ [d]) G3 → N d (up G3 p (.lst acc))) → (∀ G3, G3 p = none → I (k + 1) acc G3 → N' (up G3 p (.lst acc))) →
      gd (up G p (.lst acc)) ∧ t.b x σ fun σ' => tt σ' (up G p (.lst acc)) (fun b G1 => if b = true then te σ' G1 N (fun _ _ => False) else N' G1) (fun _ _ => False))
    (fin : ∀ acc G p, G p = none → I xs.length acc G → gd (up G p (.lst acc)) ∧ Q (.ref p) (up G p (.lst acc))) (h : I 0 [] G) : ∀ p, G p = none → lcL t tt te gd σ p (lcEnd true p Q) xs (up G p (.lst [])) := by
  intro p np
  have key : ∀ (n k : Nat) (acc : List D) (G : Gp), n + k = xs.length → acc.length ≤ k → G p = none → I k acc G → lcL t tt te gd σ p (lcEnd true p Q) (xs.drop k) (up G p (.lst acc)) := by
    intro n
    induction n with
    | zero =>
      intro k acc G e ha np h
      have e : k = xs.length := by omega
      subst e
      rw [List.drop_length]
      obtain ⟨h1, h2⟩ := fin acc G p np h
      exact ⟨h1, ⟨acc, up_same⟩, h2⟩
    | succ n ih =>
      intro k acc G e ha np h
      have lt : k < xs.length := by omega
      rw [List.drop_eq_getElem_cons lt]
      refine step k xs[k] acc G p _ _ (by simp [lt]) np h (fun d G3 n3 h3 => ⟨acc, up_same, by omega, ?_⟩) fun G3 n3 h3 => ?_
      · rw [up_up]
        exact ih (k + 1) (acc ++ [d]) G3 (by omega) (by simp; omega) n3 h3
      · exact ih (k + 1) acc G3 (by omega) (by omega) n3 h3
  simpa using key xs.length 0 [] G (by omega) (by simp) np h
end L3
namespace L3
open PySem PySem.Spec PyProof.Rows L2
open He (ga)
/-! ### dicts that are written -/
def valD {α : Type} (kvs : List (Key × α)) (k : Key) : Option α := (kvs.find? fun kv => decide (kv.1 = k)).map (·.2)
def dropD {α : Type} (kvs : List (Key × α)) (k : Key) : List (Key × α) := kvs.filter fun kv => decide (kv.1 ≠ k)
section
variable {K : K3} {G : Gp} {H : Hp}
theorem KR.val : ∀ {ds : List (Key × D)} {vs : List (Key × V)} {k : Key} {d : D}, KR K G H ds vs → valD ds k = some d → ∃ v, valV vs k = some v ∧ Dv K G H d v
  | _, _, _, _, .nil, e => by cases e
  | _, _, k, d, .cons (k := j) r t, e => by
    by_cases q : j = k
    · unfold valD at e
      rw [List.find?_cons_of_pos (by simpa using q)] at e
      injection e with e
      subst e
      exact ⟨_, valV_pos q, r⟩
    · unfold valD at e
      rw [List.find?_cons_of_neg (by simpa using q)] at e
      obtain ⟨v, h1, h2⟩ := KR.val t e
      exact ⟨v, by rw [valV_neg q]; exact h1, h2⟩
theorem KR.val0 : ∀ {ds : List (Key × D)} {vs : List (Key × V)} {k : Key}, KR K G H ds vs → valD ds k = none → valV vs k = none
  | _, _, _, .nil, _ => rfl
  | _, _, k, .cons (k := j) r t, e => by
    by_cases q : j = k
    · unfold valD at e
      rw [List.find?_cons_of_pos (by simpa using q)] at e
      cases e
    · unfold valD at e
      rw [List.find?_cons_of_neg (by simpa using q)] at e
      rw [valV_neg q]; exact KR.val0 t e
theorem KR.drop : ∀ {ds : List (Key × D)} {vs : List (Key × V)} {k : Key}, KR K G H ds vs → KR K G H (dropD ds k) (dropK vs k)
  | _, _, _, .nil => .nil
  | _, _, k, .cons (k := j) r t => by
    have t := KR.drop (k := k) t
    unfold dropD dropK at t ⊢
    rw [List.filter_cons, List.filter_cons]
    by_cases q : j = k
    · simp only [q]
      rw [if_neg (by simp), if_neg (by simp)]
      exact t
    · rw [if_pos (by simpa using q), if_pos (by simpa using q)]
      exact .cons r t
theorem KR.length : ∀ {ds : List (Key × D)} {vs : List (Key × V)}, KR K G H ds vs → ds.length = vs.length
  | _, _, .nil => rfl
  | _, _, .cons _ t => congrArg Nat.succ (KR.length t)
theorem GH.setD (g : GH K G H) {p : Addr} {u : GO} {ds : List (Key × D)} {ws : List (Key × V)} (e : G p = some u) (r : KR K G H ds ws) : GH K (up G p (.dic ds)) (upd H p (.dK ws)) := by
  obtain ⟨m1, m2⟩ := r.keys
  exact g.set e ⟨ws.map (·.2), by rw [upd_same]; exact congrArg (fun z => some (HO.dK z)) m1, m2.keep g (Keep.set e)⟩
theorem GH.newD (g : GH K G H) {p : Addr} {ds : List (Key × D)} {ws : List (Key × V)} (n : H p = none) (r : KR K G H ds ws) : GH K (up G p (.dic ds)) (upd H p (.dK ws)) := by
  obtain ⟨m1, m2⟩ := r.keys
  exact g.newG n ⟨ws.map (·.2), by rw [upd_same]; exact congrArg (fun z => some (HO.dK z)) m1, m2.keep g (Keep.newG n)⟩
end
theorem kD_inj {a b : Key} (e : kD a = kD b) : a = b := by
  cases a <;> cases b <;> first | (injection e with e; rw [e]) | cases e
/-- d[k] -/
def dget3 : Q2 := fun x y G Q => ∃ p kvs k d, x = .ref p ∧ G p = some (.dic kvs) ∧ y = kD k ∧ valD kvs k = some d ∧ Q d G
/-- d[k] = v -/
def sdput (td tk tv : TE3) : TS3 := fun E σ G => tv σ G (fun v G1 => td σ G1 (fun x G2 => tk σ G2 (fun y G3 => ∃ p kvs k, x = .ref p ∧ G3 p = some (.dic kvs) ∧ y = kD k ∧ kvs.length < sizeLine ∧ E.nx σ (up G3 p (.dic (putA kvs k v)))) (fun x G1 => E.ex x σ G1)) (fun x G1 => E.ex x σ G1)) (fun x G1 => E.ex x σ G1)
/-- {} -/
def temp : TE3 := fun _ G Q _ => ∀ p, G p = none → Q (.ref p) (up G p (.dic []))
def flatP (kvs : List (Key × D)) : List D := kvs.flatMap fun kv => [kD kv.1, kv.2]
/-- {k: v, ..} -/
def tdsp (t : TA3) : TE3 := fun σ G Q E => ∀ p, G p = none → t σ (up G p (.dic [])) (fun ds G1 => G1 p = some (.dic []) ∧ ∃ kvs : List (Key × D), ds = flatP kvs ∧ kvs.length ≤ 15 ∧ Q (.ref p) (up G1 p (.dic (mergeD kvs)))) E
/-- d.get(k, x) -/
def tdget (td ty tx : TE3) : TE3 := fun σ G Q E => td σ G (fun x G1 => ∃ p, x = .ref p ∧ (∃ kvs, G1 p = some (.dic kvs)) ∧ ty σ G1 (fun y G2 => tx σ G2 (fun z G3 => ∃ kvs k, G3 p = some (.dic kvs) ∧ y = kD k ∧ Q ((valD kvs k).getD z) G3) E) E) E
/-- d.get(k) -/
def tdget1 (td ty : TE3) : TE3 := fun σ G Q E => td σ G (fun x G1 => ∃ p, x = .ref p ∧ (∃ kvs, G1 p = some (.dic kvs)) ∧ ty σ G1 (fun y G2 => ∃ kvs k, G2 p = some (.dic kvs) ∧ y = kD k ∧ Q ((valD kvs k).getD .non) G2) E) E
/-- d.pop(k), k there -/
def tdpop (td ty : TE3) : TE3 := fun σ G Q E => td σ G (fun x G1 => ∃ p, x = .ref p ∧ (∃ kvs, G1 p = some (.dic kvs)) ∧ ty σ G1 (fun y G2 => ∃ kvs k d, G2 p = some (.dic kvs) ∧ y = kD k ∧ valD kvs k = some d ∧ Q d (up G2 p (.dic (dropD kvs k)))) E) E
section
variable {X : Cx} {Z : Zx} {W : WX} {o i e f : Expr} {td ty tx te : TE3} {pos apos tpos : Pos} {k : Nat}
theorem dix_ (hr : Room k X.A) (ho : PE3 X Z W o td) (hi : PE3 X Z W i ty) (hs : NoSl i) : PE3 X Z W (.Subscript o i pos) (t2 dget3 td ty) :=
  PE.imp (pe_dget (by have := hr.units; omega) ho hi hs) fun σ H Q h => by
  obtain ⟨σ3, G, Q3, E3, g, rs, h, q, x⟩ := h
  refine ⟨σ3, G, _, E3, g, rs, h, fun d1 G1 v1 H1 h1 g1 r1 k1 => ?_, x⟩
  refine ⟨σ3, G1, _, E3, g1, rs.keep g k1, h1, fun d2 G2 v2 H2 ⟨p, kvs, k, d, e1, e2, e3, e4, h2⟩ g2 r2 k2 => ?_, x.keep k1⟩
  subst e1 e3
  cases r1
  have := kD_inv r2
  subst this
  obtain ⟨vs, e5, r5⟩ := g2 p _ e2
  obtain ⟨v, ev, rv⟩ := (KR.of r5).val e4
  have dg := DGet.k (k := k) e5
  rw [ev] at dg
  exact ⟨p, v, rfl, dg, q _ _ _ _ h2 g2 rv (k1.trans k2)⟩
theorem dnotin_ (hr : Room k X.A) (hi : PE3 X Z W i ty) (ho : PE3 X Z W o td) (hm : behindInMarks .NotIn o = false := by rfl) : PE3 X Z W (.Compare i [.NotIn] [o] pos) (tdin true ty td) :=
  PE.imp (pe_cmp (pc_dnotin (by have := hr.units; omega) hi ho) hm) fun σ H Q h => din_k true h
theorem tdnotin_ (hr : Room k X.A) (hi : PE3 X Z W i ty) (ho : PE3 X Z W o td) (hm : behindInMarks .NotIn o = false := by rfl) : PT3 X Z W (.Compare i [.NotIn] [o] pos) (tb3 (tdin true ty td)) :=
  PT.imp (pt_cmp (pc_dnotin (by have := hr.units; omega) hi ho) hm) fun σ H Q hq => din_k (W := W) (Q := fun x H' => ∃ k, x = .bl k ∧ Q k H') true (by
    obtain ⟨σ3, G, Q3, E3, g, rs, h, q, x⟩ := hq
    refine ⟨σ3, G, _, E3, g, rs, h, fun d G1 v H1 ⟨b, e, h1⟩ g1 r1 k1 => ?_, x⟩
    subst e
    cases r1
    exact ⟨b, rfl, q b G1 H1 h1 g1 k1⟩)
theorem dput_ (hr : Room k X.A) (ho : PE3 X Z W o td) (hi : PE3 X Z W i ty) (hv : PE3 X Z W e te) (hs : swapsWith e (some (.Subscript o i tpos)) pos.line X.env = pure false := by rfl) : PS3 X Z W (.Assign [.Subscript o i tpos] e pos) (sdput td ty te) :=
  PS.imp (ps_dput (by have := hr.units; omega) ho hi hv hs) fun D σ H h => by
  obtain ⟨σ3, G, D3, g, rs, h, d⟩ := h
  refine ⟨σ3, G, _, _, g, rs, h, fun x G1 v H1 h1 g1 r1 k1 => ?_, d.exk g rs⟩
  refine ⟨σ3, G1, _, _, g1, rs.keep g k1, h1, fun x2 G2 v2 H2 h2 g2 r2 k2 => ?_, (d.keep k1).exk g1 (rs.keep g k1)⟩
  refine ⟨σ3, G2, _, _, g2, (rs.keep g k1).keep g1 k2, h2, fun x3 G3 v3 H3 h3 g3 r3 k3 => ?_, ((d.keep k1).keep k2).exk g2 ((rs.keep g k1).keep g1 k2)⟩
  obtain ⟨p, kvs, k, e1, e2, e3, l, h3⟩ := h3
  subst e1 e3
  cases r2
  have := kD_inv r3
  subst this
  obtain ⟨vs, e5, r5⟩ := g3 p _ e2
  have kr := KR.of r5
  have rv := (r1.keep g1 k2).keep g2 k3
  refine ⟨p, _, rfl, DPut.k (k := k) (v := v) e5 (by rw [← kr.length]; exact l), ?_⟩
  exact d.nx _ _ _ _ h3 (g3.setD e2 (kr.put rv)) ((((rs.keep g k1).keep g1 k2).keep g2 k3).keep g3 (Keep.set e2)) (((k1.trans k2).trans k3).trans (Keep.set e2))
theorem demp_ : PE3 X Z W (.Dict [] [] pos) temp := PE.imp pe_dnewK fun σ H Q h => by
  obtain ⟨σ3, G, Q3, E3, g, rs, h, q, x⟩ := h
  intro p n
  exact q _ _ _ _ (h p (g.free n)) (g.newD n .nil) (.ref p) (Keep.newG n)
/-- a display's pairs -/
def PP3 (X : Cx) (Z : Zx) (W : WX) (pos : Pos) (keys : List (Option Expr)) (values : List Expr) (t : TA3) : Prop :=
  ∃ trs, PPs X pos keys values trs ∧ ∀ σ H (Q : List (V × V) → Hp → Prop), liftA (Cxk X Z) W t σ H (fun vs H1 => ∃ ps : List (V × V), vs = ps.flatMap (fun p => [p.1, p.2]) ∧ Q ps H1) → tPairs trs σ H Q
theorem pp_nil : PP3 X Z W pos [] [] anil := ⟨[], pps_nil, fun σ H Q h => by
  obtain ⟨σ3, G, Q3, E3, g, rs, h, q, x⟩ := h
  obtain ⟨ps, e, h1⟩ := q _ _ _ _ h g .nil Keep.refl
  cases ps with
  | nil => exact h1
  | cons p ps => cases e⟩
theorem flat2 {ps : List (V × V)} {a b : V} {vs : List V} (e : a :: b :: vs = ps.flatMap (fun p => [p.1, p.2])) : ∃ qs, ps = (a, b) :: qs ∧ vs = qs.flatMap (fun p => [p.1, p.2]) := by
  cases ps with
  | nil => cases e
  | cons p ps =>
    rw [List.flatMap_cons] at e
    injection e with e1 e2
    injection e2 with e2 e3
    subst e1 e2
    exact ⟨ps, rfl, e3⟩
theorem pp_cons {ks : List (Option Expr)} {vs : List Expr} {t : TA3} (hk : PE3 X Z W i ty) (hv : PE3 X Z W e te) (hr : PP3 X Z W pos ks vs t) : PP3 X Z W pos (some i :: ks) (e :: vs) (acons ty (acons te t)) := by
  obtain ⟨trs, hp, kk⟩ := hr
  refine ⟨_, pps_cons hk hv hp, fun σ H Q h => ?_⟩
  obtain ⟨σ3, G, Q3, E3, g, rs, h, q, x⟩ := h
  refine ⟨σ3, G, _, E3, g, rs, h, fun d1 G1 v1 H1 h1 g1 r1 k1 => ?_, x⟩
  refine ⟨σ3, G1, _, E3, g1, rs.keep g k1, h1, fun d2 G2 v2 H2 h2 g2 r2 k2 => ?_, x.keep k1⟩
  refine kk _ _ _ ⟨σ3, G2, _, E3, g2, (rs.keep g k1).keep g1 k2, h2, fun ds G3 vs3 H3 h3 g3 r3 k3 => ?_, (x.keep k1).keep k2⟩
  have r1' := (r1.keep g1 k2).keep g2 k3
  have r2' := r2.keep g2 k3
  obtain ⟨ps, e1, q1⟩ := q _ _ _ _ h3 g3 (.cons r1' (.cons r2' r3)) ((k1.trans k2).trans k3)
  obtain ⟨qs, e2, e3⟩ := flat2 e1
  subst e2
  exact ⟨qs, e3, q1⟩
theorem dvl2 {K : K3} {G : Gp} {H : Hp} {k : Key} {d : D} {L : List D} {vs : List V} (h : DvL K G H (kD k :: d :: L) vs) : ∃ v us, vs = kV k :: v :: us ∧ Dv K G H d v ∧ DvL K G H L us := by
  cases h with
  | cons r1 h =>
  cases h with
  | cons r2 h =>
  have := kD_inv r1
  subst this
  exact ⟨_, _, rfl, r2, h⟩
theorem dv_flat {K : K3} {G : Gp} {H : Hp} : ∀ {kvs : List (Key × D)} {vs : List V}, DvL K G H (flatP kvs) vs → ∃ ws : List (Key × V), vs = (ws.map fun kv => (kV kv.1, kv.2)).flatMap (fun p => [p.1, p.2]) ∧ KR K G H kvs ws
  | [], _, .nil => ⟨[], rfl, .nil⟩
  | (k, d) :: kvs, vs, h => by
    obtain ⟨v, us, e0, r2, h⟩ := dvl2 (L := flatP kvs) h
    obtain ⟨ws, e, r⟩ := dv_flat h
    exact ⟨(k, v) :: ws, by rw [e0, List.map_cons, List.flatMap_cons, e]; rfl, .cons r2 r⟩
theorem flat_inj : ∀ {ps qs : List (V × V)}, ps.flatMap (fun p => [p.1, p.2]) = qs.flatMap (fun p => [p.1, p.2]) → ps = qs
  | [], [], _ => rfl
  | [], _ :: _, e => by cases e
  | _ :: _, [], e => by cases e
  | p :: ps, q :: qs, e => by
    rw [List.flatMap_cons, List.flatMap_cons] at e
    injection e with e1 e2
    injection e2 with e2 e3
    rw [flat_inj e3]
    congr 1
    exact Prod.ext e1 e2
theorem dsp_ {keys : List (Option Expr)} {values : List Expr} {t : TA3} (h : PP3 X Z W pos keys values t) (hall : keys.all (·.isSome) = true) (hl : keys.length = values.length) (h0 : keys ≠ []) (h15 : keys.length ≤ 15) : PE3 X Z W (.Dict keys values pos) (tdsp t) := by
  obtain ⟨trs, hp, kk⟩ := h
  refine PE.imp (pe_disp hp hall hl h0 h15) fun σ H Q h => ?_
  obtain ⟨σ3, G, Q3, E3, g, rs, h, q, x⟩ := h
  intro p n
  have kp := Keep.newG (G := G) (H := H) (o := .dK []) (u := .dic []) n
  have gp : GH (Cxk X Z) (up G p (.dic [])) (upd H p (.dK [])) := g.newD n .nil
  refine kk _ _ _ ⟨σ3, up G p (.dic []), _, E3, gp, rs.keep g kp, h p (g.free n), fun ds G1 vs H1 h1 g1 r1 k1 => ?_, x.keep kp⟩
  obtain ⟨e1, kvs, e2, l, h1⟩ := h1
  subst e2
  obtain ⟨ws, e3, r⟩ := dv_flat r1
  obtain ⟨us, e4, r4⟩ := g1 p _ e1
  cases r4
  refine ⟨_, e3, e4, ws, rfl, by rw [← r.length]; exact l, ?_⟩
  have m := KR.merge r (KR.nil (K := Cxk X Z) (G := G1) (H := H1))
  exact q _ _ _ _ h1 (g1.setD e1 m) (.ref p) ((kp.trans k1).trans (Keep.set e1))
end
section
variable {X : Cx} {Z : Zx} {W : WX} {o i e f : Expr} {td ty tx te : TE3} {pos apos tpos : Pos} {k : Nat}
theorem dget_ (hr : Room k X.A) (ho : PE3 X Z W o td) (hi : PE3 X Z W i ty) (he : PE3 X Z W e tx) (hb : attributeBase o "get" X.env (eval o X.env) = eval o X.env := by rfl)
    (hf : ((backTo pos (starEach [i, e] X.env)).all (fun x => !x.1) && (backToKw pos (keywordEach [] X.env)).all (fun x => x.1.isSome) && decide (([i, e] : List Expr).length + ([] : List Keyword).length + (if ([] : List Keyword).isEmpty then 0 else 1) < 30)) = true := by rfl)
    (hl : (apos.endLine == pos.line) = true := by rfl) (ht : backTo pos (starEach [i, e] X.env) = [(false, eval i X.env), (false, eval e X.env)] := by rfl) :
    PE3 X Z W (.Call (.Attribute o "get" apos) [i, e] [] pos) (tdget td ty tx) := PE.imp (pe_dget2 (by have := hr.units; omega) ho hi he ⟨hb, hf, hl, ht⟩) fun σ H Q h => by
  obtain ⟨σ3, G, Q3, E3, g, rs, h, q, x⟩ := h
  refine ⟨σ3, G, _, E3, g, rs, h, fun d1 G1 v1 H1 ⟨p, e1, ⟨kvs, e2⟩, h1⟩ g1 r1 k1 => ?_, x⟩
  subst e1
  cases r1
  obtain ⟨vs, e5, r5⟩ := g1 p _ e2
  refine ⟨p, rfl, .inl ⟨_, .inl e5⟩, σ3, G1, _, E3, g1, rs.keep g k1, h1, fun d2 G2 v2 H2 h2 g2 r2 k2 => ?_, x.keep k1⟩
  refine ⟨σ3, G2, _, E3, g2, (rs.keep g k1).keep g1 k2, h2, fun d3 G3 v3 H3 ⟨kvs, k, e3, e4, h3⟩ g3 r3 k3 => ?_, (x.keep k1).keep k2⟩
  subst e4
  have := kD_inv (r2.keep g2 k3)
  subst this
  obtain ⟨vs, e6, r6⟩ := g3 p _ e3
  refine ⟨_, DGet.k (k := k) e6, ?_⟩
  cases e7 : valD kvs k with
  | none =>
    rw [(KR.of r6).val0 e7]
    rw [e7] at h3
    exact q _ _ _ _ h3 g3 r3 ((k1.trans k2).trans k3)
  | some d =>
    obtain ⟨v, ev, rv⟩ := (KR.of r6).val e7
    rw [ev]
    rw [e7] at h3
    exact q _ _ _ _ h3 g3 rv ((k1.trans k2).trans k3)
theorem dget1_ (hr : Room k X.A) (ho : PE3 X Z W o td) (hi : PE3 X Z W i ty) (hb : attributeBase o "get" X.env (eval o X.env) = eval o X.env := by rfl)
    (hf : ((backTo pos (starEach [i] X.env)).all (fun x => !x.1) && (backToKw pos (keywordEach [] X.env)).all (fun x => x.1.isSome) && decide (([i] : List Expr).length + ([] : List Keyword).length + (if ([] : List Keyword).isEmpty then 0 else 1) < 30)) = true := by rfl)
    (hl : (apos.endLine == pos.line) = true := by rfl) (ht : backTo pos (starEach [i] X.env) = [(false, eval i X.env)] := by rfl) :
    PE3 X Z W (.Call (.Attribute o "get" apos) [i] [] pos) (tdget1 td ty) := PE.imp (pe_dget1 (by have := hr.units; omega) ho hi ⟨hb, hf, hl, ht⟩) fun σ H Q h => by
  obtain ⟨σ3, G, Q3, E3, g, rs, h, q, x⟩ := h
  refine ⟨σ3, G, _, E3, g, rs, h, fun d1 G1 v1 H1 ⟨p, e1, ⟨kvs, e2⟩, h1⟩ g1 r1 k1 => ?_, x⟩
  subst e1
  cases r1
  obtain ⟨vs, e5, r5⟩ := g1 p _ e2
  refine ⟨p, rfl, .inl ⟨_, .inl e5⟩, σ3, G1, _, E3, g1, rs.keep g k1, h1, fun d2 G2 v2 H2 ⟨kvs, k, e3, e4, h3⟩ g2 r2 k2 => ?_, x.keep k1⟩
  subst e4
  have := kD_inv r2
  subst this
  obtain ⟨vs, e6, r6⟩ := g2 p _ e3
  refine ⟨_, DGet.k (k := k) e6, ?_⟩
  cases e7 : valD kvs k with
  | none =>
    rw [(KR.of r6).val0 e7]
    rw [e7] at h3
    exact q _ _ _ _ h3 g2 .non (k1.trans k2)
  | some d =>
    obtain ⟨v, ev, rv⟩ := (KR.of r6).val e7
    rw [ev]
    rw [e7] at h3
    exact q _ _ _ _ h3 g2 rv (k1.trans k2)
theorem dpop_ (ho : PE3 X Z W o td) (hi : PE3 X Z W i ty) (hb : attributeBase o "pop" X.env (eval o X.env) = eval o X.env := by rfl)
    (hf : ((backTo pos (starEach [i] X.env)).all (fun x => !x.1) && (backToKw pos (keywordEach [] X.env)).all (fun x => x.1.isSome) && decide (([i] : List Expr).length + ([] : List Keyword).length + (if ([] : List Keyword).isEmpty then 0 else 1) < 30)) = true := by rfl)
    (hl : (apos.endLine == pos.line) = true := by rfl) (ht : backTo pos (starEach [i] X.env) = [(false, eval i X.env)] := by rfl) :
    PE3 X Z W (.Call (.Attribute o "pop" apos) [i] [] pos) (tdpop td ty) := PE.imp (pe_dpop1 ho hi ⟨hb, hf, hl, ht⟩) fun σ H Q h => by
  obtain ⟨σ3, G, Q3, E3, g, rs, h, q, x⟩ := h
  refine ⟨σ3, G, _, E3, g, rs, h, fun d1 G1 v1 H1 ⟨p, e1, ⟨kvs, e2⟩, h1⟩ g1 r1 k1 => ?_, x⟩
  subst e1
  cases r1
  obtain ⟨vs, e5, r5⟩ := g1 p _ e2
  refine ⟨p, rfl, .inl ⟨_, .inl e5⟩, σ3, G1, _, E3, g1, rs.keep g k1, h1, fun d2 G2 v2 H2 ⟨kvs, k, d, e3, e4, e7, h3⟩ g2 r2 k2 => ?_, x.keep k1⟩
  subst e4
  have := kD_inv r2
  subst this
  obtain ⟨vs, e6, r6⟩ := g2 p _ e3
  have kr := KR.of r6
  obtain ⟨v, ev, rv⟩ := kr.val e7
  refine ⟨_, k, v, e6, rfl, ev, ?_⟩
  exact q _ _ _ _ h3 (g2.setD e3 kr.drop) (rv.keep g2 (Keep.set e3)) ((k1.trans k2).trans (Keep.set e3))
/-- dict(d), len(d) -/
def bDictD : QL := fun ds G Q => match ds with
  | [.ref a] => ∃ kvs, G a = some (.dic kvs) ∧ ∀ p, G p = none → Q (.ref p) (up G p (.dic kvs))
  | _ => False
theorem b_dictD : CallR3 X Z (.type "dict") bDictD := by
  refine ⟨_, call_dictD, fun G H xs vs Q3 Q g r h q => ?_⟩
  unfold bDictD at h
  split at h
  · cases r with
    | cons r1 r2 =>
    cases r1; cases r2
    rename_i a
    obtain ⟨kvs, e, h⟩ := h
    obtain ⟨ws, e5, r5⟩ := g a _ e
    refine ⟨a, _, rfl, .inl e5, fun p n => ?_⟩
    exact q _ _ _ _ (h p (g.free n)) (g.newD n (KR.of r5)) (.ref p) (Keep.newG n)
  · exact h.elim
end
/-! ### zip of two lists, written or not -/
def izipW (ta : TA3) : TI3 := fun σ G R E => ta σ G (fun ds G1 => ∃ x y xs ys, ds = [x, y] ∧ ((x = .tup xs ∧ y = .tup ys ∧ R (List.zipWith (fun a b => D.tup [a, b]) xs ys) (fun _ => True) G1) ∨ (lq G1 x = some xs ∧ lq G1 y = some ys ∧ R (List.zipWith (fun a b => D.tup [a, b]) xs ys) (fun G => gdOf x xs G ∧ gdOf y ys G) G1))) E
theorem itr_zipW {K : K3} {G : Gp} {H : Hp} {x y : D} {xs ys : List D} {a b : Addr} (g : GH K G H) (r1 : Dv K G H x (.ref a)) (r2 : Dv K G H y (.ref b)) (e1 : lq G x = some xs) (e2 : lq G y = some ys) : ItR K G H (Itz K.f a b) (List.zipWith (fun a b => D.tup [a, b]) xs ys) (fun G => gdOf x xs G ∧ gdOf y ys G) := by
  have key : ∀ {d : D} {xs : List D} {a : Addr} {G1 H1}, Dv K G H d (.ref a) → lq G d = some xs → Keep G H G1 H1 → GH K G1 H1 → gdOf d xs G1 → ∃ ws, SqL K.f H1 a ws ∧ DvL K G1 H1 xs ws := fun {d xs a G1 H1} r e k g1 gd => by
    have r1 := r.keep g k
    have e1 : lq G1 d = some xs := by
      cases d with
      | ref p => unfold lq; simp only; rw [show G1 p = some (.lst xs) from gd]
      | _ => exact e
    obtain ⟨b, ws, eb, s, rl⟩ := lq_ok g1 r1 e1
    cases eb
    exact ⟨ws, s, rl⟩
  refine ⟨fun G1 H1 k g1 gd => ?_, fun i G1 H1 hi k g1 gd => ?_, fun i x v G1 H1 H2 hi k g1 gd y => ?_⟩
  · obtain ⟨us, s1, l1⟩ := key r1 e1 k g1 gd.1
    obtain ⟨ws, s2, l2⟩ := key r2 e2 k g1 gd.2
    refine ⟨us, ws, s1, s2, ?_⟩
    rw [← l1.length, ← l2.length, List.length_zipWith]; omega
  · obtain ⟨us, s1, l1⟩ := key r1 e1 k g1 gd.1
    obtain ⟨ws, s2, l2⟩ := key r2 e2 k g1 gd.2
    rw [List.length_zipWith] at hi
    have h1 : i < us.length := by rw [← l1.length]; omega
    have h2 : i < ws.length := by rw [← l2.length]; omega
    exact ⟨us, ws, us[i], ws[i], s1, s2, by simp [h1], by simp [h2]⟩
  · obtain ⟨us, s1, l1⟩ := key r1 e1 k g1 gd.1
    obtain ⟨ws, s2, l2⟩ := key r2 e2 k g1 gd.2
    obtain ⟨T, u, w, rfl, nT, rfl, h1, h2⟩ := y
    obtain ⟨p, q, u', w', rfl, e1, e2, q1, q2⟩ := zip_at l1 l2 hi
    rw [h1 us s1] at e1; cases e1
    rw [h2 ws s2] at e2; cases e2
    have kn := Keep.new (G := G1) (o := .tup [u, w]) nT
    exact ⟨g1.new nT, kn, .tup (SqT.of upd_same) (.cons (q1.keep g1 kn) (.cons (q2.keep g1 kn) .nil))⟩
theorem izipW_ {X : Cx} {Z : Zx} {W : WX} {e e2 : Expr} {ta : TA3} {p pos tpos : Pos} {elts : List Expr} {kk : Nat} (hm : X.mg "zip" = none) (ha : PA3 X Z W [e, e2] ta) (hg : Gl X "zip" := by rfl)
    (hs : starEach [e, e2] X.env = (false, eval e X.env) :: starEach [e2] X.env := by rfl) (hpl : (backTo pos (starEach [e2] X.env)).any (·.1) = false := by rfl) :
    PI3 X Z W (.Tuple elts kk tpos) (.Call (.Name "zip" p) [e, e2] [] pos) (izipW ta) := PI.imp (RZ.pi_zipA hg hm ha hs hpl) fun σ H R h => by
  obtain ⟨σ3, G, R3, E3, g, rs, h, q, x⟩ := h
  refine ⟨σ3, G, _, E3, g, rs, h, fun ds G1 vs H1 ⟨x, y, xs, ys, e, h1⟩ g1 r1 k1 => ?_, x⟩
  subst e
  cases r1 with
  | cons ra rb =>
  cases rb with
  | cons rb rc =>
  cases rc
  rcases h1 with ⟨e1, e2, h1⟩ | ⟨e1, e2, h1⟩
  · subst e1 e2
    have ra' := ra
    have rb' := rb
    cases ra with
    | tup s1 l1 =>
    cases rb with
    | tup s2 l2 => exact ⟨_, _, _, _, rfl, .inr ⟨s1, s2, q _ _ _ _ _ h1 g1 k1 (itr_zipT g1 ra' rb')⟩⟩
  · obtain ⟨a, us, ea, s1, l1⟩ := lq_ok g1 ra e1
    obtain ⟨b, ws, eb, s2, l2⟩ := lq_ok g1 rb e2
    subst ea eb
    exact ⟨_, _, _, _, rfl, .inl ⟨s1, s2, q _ _ _ _ _ h1 g1 k1 (itr_zipW g1 ra rb e1 e2)⟩⟩
end L3
namespace L3
open PySem PySem.Spec PyProof.Rows L2
open He (ga)
/-! ### tuples of ints, by order -/
def ltT3 : Q2 := fun x y G Q => ∃ ns ms : List Int, x = .tup (ns.map D.int) ∧ y = .tup (ms.map D.int) ∧ Q (.bl (HT.lexLt ns ms)) G
theorem ints_mapD : ∀ ns : List Int, intsD (ns.map D.int) = some ns
  | [] => rfl
  | n :: ns => by
    show (intsD (ns.map D.int)).map (n :: ·) = _
    rw [ints_mapD ns]; rfl
theorem o_ltT {X : Cx} {Z : Zx} {k : Nat} (hr : Room k X.A) : OpR3 X Z (compareOp .Lt) ltT3 := by
  refine ⟨_, op_ltT (by have := hr.units; omega), fun G H x y v u Q3 Q g rx ry h q => ?_⟩
  obtain ⟨ns, ms, e1, e2, h⟩ := h
  subst e1 e2
  cases rx with
  | tup s1 l1 =>
  cases ry with
  | tup s2 l2 =>
  have a1 := ints_ok l1 (ints_mapD ns)
  have a2 := ints_ok l2 (ints_mapD ms)
  subst a1 a2
  exact ⟨_, _, ns, ms, rfl, rfl, s1, s2, q_of q g h (.bl _)⟩
end L3
namespace L3
open PySem PySem.Spec PyProof.Rows L2
open He (ga)
/-! ### // by a divisor of up to 64 bits -/
def CDivW (_ j : Int) : Prop := 0 < j ∧ j < 18446744073709551616
theorem noPyW {x y : Int} (h : y.natAbs < 18446744073709551616) : Builtin.divisionGoesByPylong x y = false := by
  refine PyProof.noPylong_of_log2 ?_
  by_cases h0 : y.natAbs = 0
  · rw [h0]; decide +kernel
  · have : y.natAbs.log2 < 64 := (Nat.log2_lt h0).mpr h
    omega
theorem op_fdivW {X : Cx} : OpR X (binaryOp .FloorDiv) (rI CDivW fun i j => .int (i / j)) := opI fun i j _ _ _ _ _ hc q => by
  have h1 : (0 : Int) < j := hc.1
  have h2 : j < 18446744073709551616 := hc.2
  exact floordiv_int (by omega) (by rw [Int.fdiv_eq_ediv_of_nonneg i (by omega)]; exact q) (.inl (noPyW (by omega)))
def fdiv3W : Q2 := fun x y G Q => match x, y with
  | .int i, .int j => 0 < j ∧ j < 18446744073709551616 ∧ Q (.int (i / j)) G
  | _, _ => False
theorem o_fdivW {X : Cx} {Z : Zx} : OpR3 X Z (binaryOp .FloorDiv) fdiv3W := by
  refine ⟨_, op_fdivW, fun G H x y v u Q3 Q g rx ry h q => ?_⟩
  unfold fdiv3W at h
  split at h
  · cases rx; cases ry
    exact ⟨_, _, rfl, rfl, ⟨h.1, h.2.1⟩, q_of q g h.2.2 (.int _)⟩
  · exact h.elim
/-! ### sorted -/
def bSortI (m : Bool) : QL := fun ds G Q => match ds with
  | [x] => ∃ xs ns, lq G x = some xs ∧ intsD xs = some ns ∧ ∀ ms : List Int, ms.Perm ns → ms.Pairwise (· ≤ ·) → outL m (ms.map D.int) G Q
  | _ => False
theorem intsL {K : K3} {G : Gp} {H : Hp} : ∀ ms : List Int, DvL K G H (ms.map D.int) (ms.map V.int)
  | [] => .nil
  | m :: ms => .cons (.int m) (intsL ms)
theorem b_sortI {X : Cx} {Z : Zx} (m : Bool) : CallR3 X Z (.builtin "sorted") (bSortI m) := by
  refine ⟨_, cr_sortedI, fun G H xs vs Q3 Q g r h q => ?_⟩
  unfold bSortI at h
  split at h
  · cases r with
    | cons r1 r2 =>
    cases r2
    obtain ⟨xs, ns, e, e2, h⟩ := h
    obtain ⟨p, vs, ep, s, r⟩ := lq_ok g r1 e
    exact ⟨p, ns, by rw [ep], by rw [← ints_ok r e2]; exact s, fun ms p' h1 h2 n => outL_ok m g (intsL ms) q (h ms h1 h2) n⟩
  · exact h.elim
/-- a list of pairs of ints -/
def PL (K : PySem.W.Frag) (H : Hp) : List V → List (Int × Int) → Prop
  | [], [] => True
  | x :: xs, p :: ps => (∃ t, x = V.ref t ∧ SqT K H t [.int p.1, .int p.2]) ∧ PL K H xs ps
  | _, _ => False
def rSortPP (K : PySem.W.Frag) : List V → Hp → VK → Prop := fun vs H Q => ∃ (a : Addr) (xs : List V) (ps : List (Int × Int)), vs = [V.ref a] ∧ SqL K H a xs ∧ PL K H xs ps ∧
  ∀ (ys : List V) (qs : List (Int × Int)) (p : Addr), PL K H ys qs → qs.Perm ps → qs.Pairwise (fun a b => ¬ (b.1 < a.1 ∨ (b.1 = a.1 ∧ b.2 < a.2))) → H p = none → Q (.ref p) (upd H p (.lst ys))
theorem PL.mem {K : PySem.W.Frag} {H : Hp} : ∀ {xs : List V} {ps : List (Int × Int)}, PL K H xs ps → ∀ x ∈ xs, ∃ t p, x = V.ref t ∧ SqT K H t [.int (Prod.fst p), .int (Prod.snd p)]
  | [], [], _, x, h => by cases h
  | y :: ys, p :: ps, ⟨⟨t, e, s⟩, r⟩, x, h => by
    rcases List.mem_cons.mp h with h | h
    · subst h; exact ⟨t, p, e, s⟩
    · exact PL.mem r x h
  | [], _ :: _, h, _, _ => h.elim
  | _ :: _, [], h, _, _ => h.elim
theorem PL.map_of {K : PySem.W.Frag} {H : Hp} {k : V → Int × Int} (inj : ∀ t p, SqT K H t [.int (Prod.fst p), .int (Prod.snd p)] → k (.ref t) = p) : ∀ {xs : List V} {ps : List (Int × Int)}, PL K H xs ps → ps = xs.map k
  | [], [], _ => rfl
  | x :: xs, p :: ps, ⟨⟨t, e, s⟩, r⟩ => by
    rw [List.map_cons, ← PL.map_of inj r, e, inj t p s]
  | [], _ :: _, h => h.elim
  | _ :: _, [], h => h.elim
theorem PL.of_map {K : PySem.W.Frag} {H : Hp} {k : V → Int × Int} : ∀ {ys : List V}, (∀ y ∈ ys, ∃ t, y = V.ref t ∧ SqT K H t [.int (k y).1, .int (k y).2]) → PL K H ys (ys.map k)
  | [], _ => trivial
  | y :: ys, h => ⟨h y (List.mem_cons_self ..), PL.of_map fun z m => h z (List.mem_cons_of_mem _ m)⟩
theorem cr_sortPP {X : Cx} : CallR X (.builtin "sorted") (rSortPP X.K) := by
  intro pins s σ H vs us Q I r h
  obtain ⟨a, xs, ps, rfl, hs, hp, q⟩ := h
  let k : V → Int × Int := fun v => match v with
    | .ref t => open Classical in if h : ∃ p : Int × Int, SqT X.K H t [.int p.1, .int p.2] then h.choose else (0, 0)
    | _ => (0, 0)
  have inj : ∀ t (p : Int × Int), SqT X.K H t [.int p.1, .int p.2] → k (.ref t) = p := fun t p s => by
    have h : ∃ p : Int × Int, SqT X.K H t [.int p.1, .int p.2] := ⟨p, s⟩
    have e : k (.ref t) = h.choose := dif_pos h
    have e2 := I.tuple_inj h.choose_spec s
    rw [e]
    injection e2 with e3 e4
    injection e4 with e4
    injection e3 with e3
    injection e4 with e4
    exact Prod.ext e3 e4
  have hx : ∀ x ∈ xs, ∃ t, x = V.ref t ∧ SqT X.K H t [.int (k x).1, .int (k x).2] := fun x m => by
    obtain ⟨t, p, e, s⟩ := PL.mem hp x m
    exact ⟨t, e, by rw [e, inj t p s]; exact s⟩
  have eps := PL.map_of inj hp
  obtain ⟨its, rv, hl, hz⟩ := I.list hs
  obtain ⟨u, rfl, ru⟩ := vals1 r
  obtain rfl : u = Value.ref a := ru
  obtain ⟨e1, e2⟩ := refs_back rv fun x m => by
    obtain ⟨t, e, _⟩ := hx x m
    exact ⟨t, e⟩
  refine SrtO.sorted_pairsO (k := fun u => k (backV u)) hl.isList (by rw [← rv.length]; exact hz) (fun v hv => ?_) fun h' d out h1 h2 kp hd hn => ?_
  · obtain ⟨t, rfl⟩ := e2 v hv
    have hm : V.ref t ∈ xs := by rw [e1]; exact List.mem_map.mpr ⟨_, hv, rfl⟩
    obtain ⟨t', e, ht⟩ := hx _ hm
    cases e
    obtain ⟨its2, r2, ⟨o, ho, hc, n, hd⟩, _⟩ := I.tuple ht
    obtain ⟨u1, u2, rfl, ri, rj⟩ := vals2 r2
    obtain ⟨t1, rfl⟩ := ri
    obtain ⟨t2, rfl⟩ := rj
    exact ⟨t, o, t1, t2, n, rfl, ho, hc, hd⟩
  · have h3 : ∀ u ∈ out, ∃ a, u = Value.ref a := fun u hu => e2 u (h2.perm.mem_iff.mp hu)
    obtain ⟨n, hn⟩ := hn
    have hb : SrtO.Stb (ltP k) (out.map backV) xs := by
      rw [e1]
      exact SrtO.Stb.map (ltP_swo k) backV h2
    refine ⟨.ref d, upd H d (.lst (out.map backV)), I.laid (t' := s.toks) kp hd ⟨?_, out, n, vals_back h3, hn⟩, rfl, q _ ((out.map backV).map k) d (PL.of_map fun y m => hx y (hb.perm.mem_iff.mp m)) (by rw [eps]; exact hb.perm.map k) (List.pairwise_map.mpr ((SrtO.srtd_map h1 : SrtO.Srtd (ltP k) (out.map backV)).imp fun {x y} h => SrtO.lexB_no.mp h)) (I.hok.fresh hd)⟩
    rw [hb.len]
    exact hz
def pairD (p : Int × Int) : D := .tup [.int p.1, .int p.2]
def bSortP (m : Bool) : QL := fun ds G Q => match ds with
  | [x] => ∃ ps : List (Int × Int), lq G x = some (ps.map pairD) ∧ ∀ qs : List (Int × Int), qs.Perm ps → qs.Pairwise (fun a b => ¬ (b.1 < a.1 ∨ (b.1 = a.1 ∧ b.2 < a.2))) → outL m (qs.map pairD) G Q
  | _ => False
theorem pairs_pl {K : K3} {G : Gp} {H : Hp} : ∀ (ps : List (Int × Int)) (vs : List V), DvL K G H (ps.map pairD) vs → PL K.f H vs ps
  | [], vs, h => by
    rw [List.map_nil] at h
    cases h
    exact trivial
  | p :: ps, vs, h => by
    rw [List.map_cons] at h
    cases h with
    | cons r t =>
    unfold pairD at r
    cases r with
    | tup s r =>
    cases r with
    | cons r1 r2 =>
    cases r1
    cases r2 with
    | cons r3 r4 =>
    cases r3
    cases r4
    exact ⟨⟨_, rfl, s⟩, pairs_pl ps _ t⟩
theorem pl_pairs {K : K3} {G : Gp} {H : Hp} : ∀ (ps : List (Int × Int)) (vs : List V), PL K.f H vs ps → DvL K G H (ps.map pairD) vs
  | [], [], _ => .nil
  | p :: ps, v :: vs, ⟨⟨t, e, s⟩, r⟩ => by
    subst e
    rw [List.map_cons]
    refine DvL.cons ?_ (pl_pairs ps vs r)
    unfold pairD
    exact Dv.tup s (DvL.cons (Dv.int p.1) (DvL.cons (Dv.int p.2) DvL.nil))
  | _ :: _, [], h => h.elim
  | [], _ :: _, h => h.elim
theorem b_sortP {X : Cx} {Z : Zx} (m : Bool) : CallR3 X Z (.builtin "sorted") (bSortP m) := by
  refine ⟨_, cr_sortPP, fun G H xs vs Q3 Q g r h q => ?_⟩
  unfold bSortP at h
  split at h
  · cases r with
    | cons r1 r2 =>
    cases r2
    obtain ⟨ps, e, h⟩ := h
    obtain ⟨p, vs, ep, s, r⟩ := lq_ok g r1 e
    exact ⟨p, vs, ps, by rw [ep], s, pairs_pl _ _ r, fun ys qs p' h1 h2 h3 n => outL_ok m g (pl_pairs _ _ h1) q (h qs h2 h3) n⟩
  · exact h.elim
end L3
namespace L3
open PySem PySem.Spec PyProof.Rows L2
open He (ga)
/-! ### max of a list of pairs of ints -/
def lxg (p q : Int × Int) : Bool := if (p.1 == q.1) = true then (if (p.2 == q.2) = true then false else decide (q.2 < p.2)) else decide (q.1 < p.1)
theorem lxg_iff {p q : Int × Int} : lxg p q = true ↔ q.1 < p.1 ∨ (q.1 = p.1 ∧ q.2 < p.2) := by
  unfold lxg
  by_cases h : p.1 = q.1
  · rw [if_pos (beq_iff_eq.mpr h)]
    by_cases k : p.2 = q.2
    · rw [if_pos (beq_iff_eq.mpr k)]
      exact ⟨fun z => (by cases z), fun z => (by omega)⟩
    · rw [if_neg (fun z => k (beq_iff_eq.mp z)), decide_eq_true_eq]; omega
  · rw [if_neg (fun z => h (beq_iff_eq.mp z)), decide_eq_true_eq]; omega
theorem lxg_no {p q : Int × Int} : lxg p q = false ↔ ¬ (q.1 < p.1 ∨ (q.1 = p.1 ∧ q.2 < p.2)) := by
  rw [← lxg_iff]; cases lxg p q <;> simp
theorem gt_pair {A : Around} {s : Shared} {l b : Addr} {p q : Int × Int} {t1 t2 t3 t4 : Tok} (hl : s.heap.IsTuple l #[.int p.1 t1, .int p.2 t2]) (hb : s.heap.IsTuple b #[.int q.1 t3, .int q.2 t4]) (hu : A.units < cLine) : Ob.RcOp .Gt A s (.ref l) (.ref b) (lxg p q) := by
  have R := Ob.RcOp.tuples_gt (A := A) (s := s) (e := fun j => match j with | 0 => p.1 == q.1 | _ => p.2 == q.2) (r := fun j => match j with | 0 => decide (q.1 < p.1) | _ => decide (q.2 < p.2)) hl hb hu
    (fun j h1 h2 => by
      match j, h1, h2 with
      | 0, _, _ => exact SeqAt.EqAt.int_int _ _ _ _
      | 1, _, _ => exact SeqAt.EqAt.int_int _ _ _ _
      | j + 2, h1, _ => exact absurd h1 (by simp))
    (fun j h1 h2 _ => by
      match j, h1, h2 with
      | 0, _, _ => exact Ob.RcOp.gt_int _ _ _ _
      | 1, _, _ => exact Ob.RcOp.gt_int _ _ _ _
      | j + 2, h1, _ => exact absurd h1 (by simp))
  exact R
theorem best_lx (k : Nat → Int × Int) : ∀ n, argBest (fun i j => lxg (k i) (k j)) n ≤ n ∧ ∀ j, j ≤ n → lxg (k j) (k (argBest (fun i j => lxg (k i) (k j)) n)) = false
  | 0 => ⟨Nat.le_refl _, fun j hj => by
    have : j = 0 := by omega
    subst this
    exact lxg_no.mpr (by show ¬ ((k 0).1 < (k 0).1 ∨ ((k 0).1 = (k 0).1 ∧ (k 0).2 < (k 0).2)); omega)⟩
  | n + 1 => by
    obtain ⟨h1, h2⟩ := best_lx k n
    have e : argBest (fun i j => lxg (k i) (k j)) (n + 1) = if lxg (k (n + 1)) (k (argBest (fun i j => lxg (k i) (k j)) n)) = true then n + 1 else argBest (fun i j => lxg (k i) (k j)) n := rfl
    rw [e]
    generalize argBest (fun i j => lxg (k i) (k j)) n = b at h1 h2
    by_cases z : lxg (k (n + 1)) (k b) = true
    · rw [if_pos z]
      refine ⟨Nat.le_refl _, fun j hj => ?_⟩
      have z := lxg_iff.mp z
      by_cases q : j = n + 1
      · subst q
        exact lxg_no.mpr (by omega)
      · have := lxg_no.mp (h2 j (by omega))
        exact lxg_no.mpr (by omega)
    · rw [if_neg z]
      refine ⟨by omega, fun j hj => ?_⟩
      by_cases q : j = n + 1
      · subst q
        cases y : lxg (k (n + 1)) (k b) with
        | true => exact absurd y z
        | false => rfl
      · exact h2 j (by omega)
theorem max_pairs {prog : Program} {w : World} {A : Around} {E : Value → Shared → Prop} {s : Shared} {l : Addr} {its : Array Value} {k : Nat → Int × Int} {Q : Value → Shared → Prop} (hh : A.handled = none) (hu : A.units + 1 < cLine) (hl : s.heap.IsList l its) (hn : 0 < its.size)
    (hp : ∀ i v, its[i]? = some v → ∃ a t1 t2, v = .ref a ∧ s.heap.IsTuple a #[.int (k i).1 t1, .int (k i).2 t2])
    (h : ∀ i v h' tk, its[i]? = some v → (∀ j, j < its.size → lxg (k j) (k i) = false) → (∀ b o, s.heap.get? b = some o → h'.get? b = some o) → Q v { s with heap := h', toks := tk }) : wpAny (model prog w) A (call (.builtin "max") [.ref l]) Q E s := by
  refine call_max_walkH (PySem.W.iter_listW (A := A.in1) hh hl fun s₂ e W st hfp hw hk => ?_)
  refine ⟨_, _, _, _, _, _, _, s.heap, (fun i j => lxg (k i) (k j)), rfl, W, st, hfp, hn, hw, hk, fun i j vi vj s' Q' E' hs hi hj hq => ?_, fun v s' hP m => ?_⟩
  · obtain ⟨a, t1, t2, rfl, o, ho, r⟩ := hp i vi hi
    obtain ⟨b, t3, t4, rfl, o', ho', r'⟩ := hp j vj hj
    exact gt_pair ⟨o, hs _ _ ho, r⟩ ⟨o', hs _ _ ho', r'⟩ (by show A.units + 1 < cLine; exact hu) prog w E' Q' hq
  · obtain ⟨h', tk, rfl, hk'⟩ := PySem.W.moved_old e rfl m
    obtain ⟨b1, b2⟩ := best_lx k (its.size - 1)
    exact h _ v h' tk hP (fun j hj => b2 j (by omega)) hk'
theorem PL.at {K : PySem.W.Frag} {H : Hp} : ∀ {xs : List V} {ps : List (Int × Int)}, PL K H xs ps → ∀ (i : Nat) (x : V), xs[i]? = some x → ∃ (t : Addr) (p : Int × Int), ps[i]? = some p ∧ x = V.ref t ∧ SqT K H t [.int p.1, .int p.2]
  | [], [], _, i, x, e => by simp at e
  | y :: ys, p :: ps, ⟨⟨t, e1, s⟩, r⟩, i, x, e => by
    cases i with
    | zero =>
      rw [List.getElem?_cons_zero] at e ⊢
      cases e
      exact ⟨t, p, rfl, e1, s⟩
    | succ i =>
      rw [List.getElem?_cons_succ] at e ⊢
      exact PL.at r i x e
  | [], _ :: _, h, _, _, _ => h.elim
  | _ :: _, [], h, _, _, _ => h.elim
theorem PL.len {K : PySem.W.Frag} {H : Hp} : ∀ {xs : List V} {ps : List (Int × Int)}, PL K H xs ps → xs.length = ps.length
  | [], [], _ => rfl
  | _ :: _, _ :: _, ⟨_, r⟩ => by rw [List.length_cons, List.length_cons, PL.len r]
  | [], _ :: _, h => h.elim
  | _ :: _, [], h => h.elim
def rMaxPP (K : PySem.W.Frag) : List V → Hp → VK → Prop := fun vs H Q => ∃ (a : Addr) (xs : List V) (ps : List (Int × Int)), vs = [V.ref a] ∧ SqL K H a xs ∧ PL K H xs ps ∧ 0 < ps.length ∧
  ∀ (t : Addr) (p : Int × Int), p ∈ ps → SqT K H t [.int p.1, .int p.2] → (∀ q ∈ ps, ¬ (p.1 < q.1 ∨ (p.1 = q.1 ∧ p.2 < q.2))) → Q (.ref t) H
theorem cr_maxPP {X : Cx} (hc : X.calm = true) (hu : X.A.units + 1 < cLine) : CallR X (.builtin "max") (rMaxPP X.K) := by
  intro pins s σ H vs us Q I r h
  obtain ⟨a, xs, ps, rfl, hs, hp, h0, q⟩ := h
  obtain ⟨its, rv, hl, hz⟩ := I.list hs
  rw [Vals.ref1 r]
  have len := PL.len hp
  have len2 := rv.length
  have back : ∀ (i : Nat) (v : Value), its.toArray[i]? = some v → ∃ (t : Addr) (p : Int × Int), ps[i]? = some p ∧ v = .ref t ∧ SqT X.K H t [.int p.1, .int p.2] := fun i v e => by
    have e : its[i]? = some v := by simpa using e
    have hi : i < its.length := (List.getElem?_eq_some_iff.mp e).1
    have ex : xs[i]? = some xs[i] := List.getElem?_eq_getElem (by omega)
    obtain ⟨u, eu, ru⟩ := rv.get ex
    obtain ⟨t, p, ep, et, st⟩ := PL.at hp i _ ex
    rw [et] at ru
    have eu2 : u = v := Option.some.inj (eu.symm.trans e)
    subst eu2
    exact ⟨t, p, ep, ru, st⟩
  have gd : ∀ (i : Nat) (p : Int × Int), ps[i]? = some p → ps.getD i (0, 0) = p := fun i p e => by rw [List.getD_eq_getElem?_getD, e]; rfl
  refine max_pairs (k := fun i => ps.getD i (0, 0)) (I.ok.hd hc) hu hl.isList (by rw [List.size_toArray]; omega) (fun i v e => ?_) fun i v h' tk e hb hk => ?_
  · obtain ⟨t, p, ep, rfl, st⟩ := back i v e
    obtain ⟨its2, r2, hd, _⟩ := I.tuple st
    obtain ⟨u1, u2, rfl, ri, rj⟩ := vals2 r2
    obtain ⟨t1, rfl⟩ := ri
    obtain ⟨t2, rfl⟩ := rj
    refine ⟨t, t1, t2, rfl, ?_⟩
    simp only [gd i p ep]
    exact hd
  · obtain ⟨t, p, ep, rfl, st⟩ := back i v e
    refine ⟨.ref t, H, I.kept hk, rfl, q t p (List.mem_of_getElem? ep) st fun z mz => ?_⟩
    obtain ⟨j, hj, ej⟩ := List.mem_iff_getElem.mp mz
    have := hb j (by rw [List.size_toArray]; omega)
    simp only [gd i p ep, gd j z (by rw [List.getElem?_eq_getElem hj, ej])] at this
    exact lxg_no.mp this
def bMaxP : QL := fun ds G Q => match ds with
  | [x] => ∃ ps : List (Int × Int), lq G x = some (ps.map pairD) ∧ 0 < ps.length ∧ ∀ p ∈ ps, (∀ q ∈ ps, ¬ (p.1 < q.1 ∨ (p.1 = q.1 ∧ p.2 < q.2))) → Q (pairD p) G
  | _ => False
theorem b_maxP {X : Cx} {Z : Zx} {k : Nat} (hc : X.calm = true) (hr : Room k X.A) : CallR3 X Z (.builtin "max") bMaxP := by
  refine ⟨_, cr_maxPP hc (by have := hr.units; omega), fun G H xs vs Q3 Q g r h q => ?_⟩
  unfold bMaxP at h
  split at h
  · cases r with
    | cons r1 r2 =>
    cases r2
    obtain ⟨ps, e, h0, h⟩ := h
    obtain ⟨a, vs, ep, s, r⟩ := lq_ok g r1 e
    refine ⟨a, vs, ps, by rw [ep], s, pairs_pl _ _ r, h0, fun t p mp st hb => ?_⟩
    refine q_of q g (h p mp hb) ?_
    unfold pairD
    exact Dv.tup st (DvL.cons (Dv.int p.1) (DvL.cons (Dv.int p.2) DvL.nil))
  · exact h.elim
end L3
namespace L3
open PySem PySem.Spec PyProof.Rows L2
/-! ### a tuple times one -/
theorem tuple_mul1 (l : Addr) (items : Array Value) (n : Nat) (dd : Option Addr) (sl : Array (Option Value)) (u : Tok) :
    Meets (Builtin.«tuple.__mul__» ⟨[.ref l, .int 1 u], []⟩) (fun _ R s => s.heap.get? l = some { cls := .type "tuple", dict := dd, data := .seq items n, slots := sl } ∧ R (.ok (.ret (Value.ref l))) s) :=
  .of_wp fun prog w A R s h => by
    obtain ⟨hp, g, d, tk, os⟩ := s
    obtain ⟨hl, h⟩ := h
    have f1 := AutoSeq1.idx_int
    wp_walk using wpAny_loadPart' hl
    exact ⟨_, rfl, h⟩
def rRepT1 (K : PySem.W.Frag) : R2 := fun x y H Q => ∃ l xs, x = .ref l ∧ y = .int 1 ∧ SqT K H l xs ∧ Q (.ref l) H
theorem op_repT1 {X : Cx} : OpR X (binaryOp .Mult) (rRepT1 X.K) := by
  intro pins s σ H x y v u Q I rx ry h
  obtain ⟨l, xs, rfl, rfl, hT, q⟩ := h
  cases rx
  obtain ⟨t, rfl⟩ := ry
  obtain ⟨its, r, ⟨⟨cls, dd, data, sl⟩, ho, hc, n, hd⟩, hs⟩ := I.tuple hT
  simp only at hc hd
  subst hc hd
  refine wpAny_binaryOp_repeat_ref (T := "tuple") (U := "int") (by decide) ⟨_, ho, rfl⟩ (fun s' => typeIs_int s' 1 t) noFill_tuple_mul F.fills_int_mul F.slot_int_rmul repeat_tuple F.slot_int_index.lookup
    (call_meets F.slot_int_rmul (typeIs_int s 1 t) F.entry_int_rmul (F.args_int_rmul_2 _ _) (int_rmul_tuple 1 t l its.toArray n dd sl)
      ⟨ho, rfl, ⟨_, ho, rfl⟩, call_meets F.slot_tuple_mul ⟨_, ho, rfl⟩ F.entry_tuple_mul (F.args_tuple_mul_2 _ _) (tuple_mul1 l its.toArray n dd sl t) ⟨ho, ?_⟩⟩)
  exact ⟨.ref l, H, I, rfl, q⟩
def mul3T : Q2 := fun x y G Q => (y = .int 1 ∧ ∃ xs, x = .tup xs ∧ Q x G) ∨ mul3 false x y G Q
theorem o_mulT {X : Cx} {Z : Zx} : OpR3 X Z (binaryOp .Mult) mul3T := by
  obtain ⟨r, h, k⟩ := o_mul (X := X) (Z := Z) false
  refine ⟨_, op_repT1.or h, fun G H x y v u Q3 Q g rx ry h q => ?_⟩
  rcases h with ⟨rfl, xs, rfl, h⟩ | h
  · cases ry
    cases rx with
    | tup s r =>
    exact .inl ⟨_, _, rfl, rfl, s, q_of q g h (.tup s r)⟩
  · exact .inr (k G H x y v u Q3 Q g rx ry h q)
end L3
namespace L3
open PySem PySem.Spec PyProof.Rows L2
/-! ### len(set(list of ints)) -/
theorem step_nd {acc : List Int} {x : Int} (h : acc.Nodup) : (PyProof.Rows.step_dedup acc x).Nodup ∧ ∀ y, y ∈ PyProof.Rows.step_dedup acc x ↔ y ∈ acc ∨ y = x := by
  unfold PyProof.Rows.step_dedup
  by_cases c : acc.any (· == x) = true
  · rw [if_pos c]
    refine ⟨h, fun y => ⟨.inl, fun k => k.elim id fun e => ?_⟩⟩
    obtain ⟨z, mz, ez⟩ := List.any_eq_true.mp c
    rw [e, ← eq_of_beq ez]; exact mz
  · rw [if_neg c]
    refine ⟨?_, fun y => by rw [List.mem_append, List.mem_singleton]⟩
    rw [List.nodup_append]
    refine ⟨h, by simp, fun a ma b mb => ?_⟩
    rw [List.mem_singleton.mp mb]
    intro e
    exact c (List.any_eq_true.mpr ⟨a, ma, by rw [e]; exact beq_self_eq_true x⟩)
theorem met_nd (val : Nat → Int) : ∀ i, (PyProof.Rows.firstMet val i).Nodup ∧ ∀ y, y ∈ PyProof.Rows.firstMet val i ↔ ∃ j, j < i ∧ val j = y
  | 0 => ⟨by rw [PyProof.Rows.firstMet_zero]; exact .nil, fun y => by rw [PyProof.Rows.firstMet_zero]; exact ⟨fun h => (by cases h), fun ⟨j, h, _⟩ => absurd h (Nat.not_lt_zero j)⟩⟩
  | i + 1 => by
    obtain ⟨h1, h2⟩ := met_nd val i
    obtain ⟨h3, h4⟩ := step_nd (x := val i) h1
    rw [PyProof.Rows.firstMet_succ]
    refine ⟨h3, fun y => ?_⟩
    rw [h4, h2]
    constructor
    · rintro (⟨j, hj, e⟩ | e)
      · exact ⟨j, by omega, e⟩
      · exact ⟨i, by omega, e.symm⟩
    · rintro ⟨j, hj, e⟩
      by_cases z : j = i
      · subst z; exact .inr e.symm
      · exact .inl ⟨j, by omega, e⟩
def tLenSetA (K : PySem.W.Frag) (ta : TE) : TE := fun σ H Q => ta σ H fun x H1 => ∃ (l : Addr) (ns : List Int), x = .ref l ∧ SqL K H1 l (ns.map V.int) ∧ ns.length ≤ 4000 ∧ ∀ m : List Int, m.Nodup → (∀ y, y ∈ m ↔ y ∈ ns) → Q (.int (m.length : Nat)) H1
theorem pe_lenSetA {X : Cx} {a : Expr} {ta : TE} {p p2 q pos : Pos} (hg : Gl X "len") (hm : X.mg "len" = none) (hg2 : Gl X "set") (hm2 : X.mg "set" = none) (ha : PE X a ta) (hc : X.calm = true)
    (na : starEach [a] X.env = (false, eval a X.env) :: starEach [] X.env := by rfl) : PE X (.Call (.Name "len" p) [.Call (.Name "set" p2) [a] [] q] [] pos) (tLenSetA X.K ta) := by
  refine ⟨fun pins s σ H Q I h => ?_⟩
  refine Call_ (ld_blt I hg hm boot_len ?_)
  refine PyProof.Rows.callWith_builtin1 (PyProof.Rows.args_cons ?_ rfl) rfl rfl
  refine Call_ (ld_blt I hg2 hm2 boot_set ?_)
  refine PyProof.Rows.callWith_type1 (PyProof.Rows.args_cons (thn (ha.run pins s σ H _ I h) fun v s1 ⟨x, H1, I1, r1, q1⟩ => PyProof.Rows.args_nil ?_) na) na rfl
  obtain ⟨l, ns, rfl, hq, hl, q1⟩ := q1
  cases r1
  obtain ⟨its, r, pl, hz⟩ := I1.list hq
  have hlen : its.toArray.size = ns.length := by rw [List.size_toArray, ← r.length, List.length_map]
  refine call_set_list (I1.ok.hd hc) pl.isList (ns := ns) (by simpa using RZ.intsAre_vals r) (by rw [hlen]; unfold scanBound; omega) fun h' tk hS hk => ?_
  refine PyProof.Rows.args_nil ?_
  rw [hlen] at hS
  obtain ⟨o, es, ep, t, ho, hex, hd, _, _, _, hf, hn⟩ := hS
  have I2 : Inv X pins σ H1 { s1 with heap := h', toks := tk } := I1.kept fun b o e => hk b o (Heap.lt_size e) e
  have nd := met_nd (fun j => ns.getD j 0) ns.length
  have hle := PyProof.Rows.firstMet_length_le (fun j => ns.getD j 0) ns.length
  refine call_len_set ho hex hd hf (by rw [hn]; omega) ⟨.int (PyProof.Rows.firstMet (fun j => ns.getD j 0) ns.length).length, H1, I2.tok _, ⟨_, by rw [hn]⟩, q1 _ nd.1 fun y => ?_⟩
  rw [nd.2]
  constructor
  · rintro ⟨j, hj, e⟩
    rw [List.getD_eq_getElem?_getD, List.getElem?_eq_getElem hj] at e
    rw [← e]; exact List.getElem_mem hj
  · intro m
    obtain ⟨j, hj, e⟩ := List.mem_iff_getElem.mp m
    exact ⟨j, hj, by rw [List.getD_eq_getElem?_getD, List.getElem?_eq_getElem hj]; exact e⟩
def tlset (ta : TE3) : TE3 := fun σ G Q E => ta σ G (fun x G1 => ∃ (xs : List D) (ns : List Int), lq G1 x = some xs ∧ intsD xs = some ns ∧ ns.length ≤ 4000 ∧ ∀ m : List Int, m.Nodup → (∀ y, y ∈ m ↔ y ∈ ns) → Q (.int (m.length : Nat)) G1) E
theorem lset_ {X : Cx} {Z : Zx} {W : WX} {a : Expr} {ta : TE3} {p p2 q pos : Pos} (hc : X.calm = true) (hl : X.mg "len" = none) (hr : X.mg "set" = none) (ha : PE3 X Z W a ta) (hg : Gl X "len" := by rfl) (hg2 : Gl X "set" := by rfl)
    (na : starEach [a] X.env = (false, eval a X.env) :: starEach [] X.env := by rfl) : PE3 X Z W (.Call (.Name "len" p) [.Call (.Name "set" p2) [a] [] q] [] pos) (tlset ta) := PE.imp (pe_lenSetA hg hl hg2 hr ha hc na) fun σ H Q hq => by
  obtain ⟨σ3, G, Q3, E3, g, rs, h, qk, x⟩ := hq
  refine ⟨σ3, G, _, E3, g, rs, h, fun d G1 v H1 ⟨xs, ns, e1, e2, hl, h1⟩ g1 r1 k1 => ?_, x⟩
  obtain ⟨b, vs, ev, s, rl⟩ := lq_ok g1 r1 e1
  have := ints_ok rl e2
  subst this
  exact ⟨b, ns, ev, s, hl, fun m nd hm => qk.keep k1 _ _ _ _ (h1 m nd hm) g1 (.int _) Keep.refl⟩
end L3
namespace L3
open PySem PySem.Spec PyProof.Rows L2
open He (ga)
/-! ### the end of a law of which several defs hand lambdas on -/
def tbG (ms : List Str) (qn : Str → Str) (P : Str → Addr) : Gp := fun b => match ms.find? (fun m => decide (P m = b)) with
  | some m => some (.tb (qn m))
  | none => none
theorem tbG_at {ms : List Str} {qn : Str → Str} {P : Str → Addr} (inj : ∀ a ∈ ms, ∀ b ∈ ms, P a = P b → a = b) {m : Str} (hm : m ∈ ms) : tbG ms qn P (P m) = some (.tb (qn m)) := by
  unfold tbG
  cases e : ms.find? (fun k => decide (P k = P m)) with
  | none => exact absurd (decide_eq_true rfl) (List.find?_eq_none.mp e m hm)
  | some k =>
    have h1 : P k = P m := of_decide_eq_true (List.find?_some (p := fun k => decide (P k = P m)) e)
    have h2 := inj k (List.mem_of_find?_eq_some e) m hm h1
    rw [h2]
theorem tbG_of {ms : List Str} {qn : Str → Str} {P : Str → Addr} {b : Addr} {o : GO} (h : tbG ms qn P b = some o) : ∃ m ∈ ms, P m = b ∧ o = .tb (qn m) := by
  unfold tbG at h
  cases e : ms.find? (fun k => decide (P k = b)) with
  | none => rw [e] at h; cases h
  | some k =>
    rw [e] at h
    cases h
    exact ⟨k, List.mem_of_find?_eq_some e, of_decide_eq_true (List.find?_some (p := fun k => decide (P k = b)) e), rfl⟩
theorem nd_inj {f : Str → Addr} : ∀ {l : List Str}, (l.map f).Nodup → ∀ a ∈ l, ∀ b ∈ l, f a = f b → a = b
  | [], _, a, ha, _, _, _ => by cases ha
  | x :: l, h, a, ha, b, hb, e => by
    rw [List.map_cons, List.nodup_cons] at h
    rcases List.mem_cons.mp ha with ha | ha
    · rcases List.mem_cons.mp hb with hb | hb
      · rw [ha, hb]
      · exact (h.1 (List.mem_map.mpr ⟨b, hb, by rw [← e, ha]⟩)).elim
    · rcases List.mem_cons.mp hb with hb | hb
      · exact (h.1 (List.mem_map.mpr ⟨a, ha, by rw [e, hb]⟩)).elim
      · exact nd_inj h.2 a ha b hb e
theorem walk3m {l : PySem.W.OpenLaw} {n k : Nat} {q : Program} {loose : List Str} {XP : (Str → Option Value) → Heap → Prop} {YP : World → Heap → Prop} {d : DefRec} {x : Str} {ms : List Str} {qn : Str → Str} {sp : (Str → Addr) → Sp3}
    (hn : l.most = some n) (hn2 : n ≤ sizeLine) (hdf : d.params.defaults = []) (hr : Room k callerA)
    (F : ∀ (w : World) (mg : Str → Option Value) (fa : Addr) (h : Heap), YP w h → h.Ns mainGlobals mg → mg d.name = some (.ref fa) →
      ∃ (K : PySem.W.Frag) (fd : FuncData) (cd P : Str → Addr), K.In h ∧ (∀ m ∈ ms, PySem.W.codeHdIn K (cd m) (P m) = true ∧ K.lookup (P m) = none ∧ h.get? (P m) = some { cls := .none, data := .fields #[] }) ∧ (∀ a ∈ ms, ∀ b ∈ ms, P a = P b → a = b) ∧ (∀ (s : Shared) (u : Value), BindsTo s fd ⟨[u], []⟩ [(x, u)]) ∧
        ∀ base : Heap, (∀ m ∈ ms, LamX.TabB base mg (cd m) (P m)) → FnOk l.prog w K mg base (L2.CX l.prog w) k fa fd [x] (liftSp ⟨K, Z0⟩ (sp P)))
    (hsp : ∀ (P : Str → Addr) (G0 : Gp) (ns : List Int) (Q : QK) (E : EK), (∀ m ∈ ms, G0 (P m) = some (.tb (qn m))) → ns.length ≤ n → (∀ G, Q (.bl true) G) → sp P [.sl (ns.map D.int)] G0 Q E) :
    PySem.W.WalkO q loose XP YP l.row.toRowW d [] (fun f vs => PySem.call f vs) := by
  refine LamX.walk_ofTsE (CX := fun w => L2.CX l.prog w) (x := x) (k := k) (n := n) hn hn2 hdf hr (fun w mg fa h Y G hmg => ?_) fun w H s e s' hx => ?_
  · obtain ⟨K, fd, cd, P, KX, hm, inj, hb, hF⟩ := F w mg fa h Y G hmg
    refine ⟨K, KX, fd, ms.map fun m => (cd m, P m), liftSp ⟨K, Z0⟩ (sp P), ?_, ?_, ?_, hb, fun H a ns hlen _ hT hS => ?_, fun base _ _ hTB => hF base fun m mm => hTB (cd m, P m) (List.mem_map.mpr ⟨m, mm, rfl⟩)⟩
    · intro p hp; obtain ⟨m, mm, rfl⟩ := List.mem_map.mp hp; exact (hm m mm).2.2
    · intro p hp; obtain ⟨m, mm, rfl⟩ := List.mem_map.mp hp; exact (hm m mm).2.1
    · intro p hp; obtain ⟨m, mm, rfl⟩ := List.mem_map.mp hp; exact PySem.W.codeHd_of_K KX (hm m mm).1
    · have tP : ∀ m ∈ ms, H (P m) = some (.tbl #[]) := fun m mm => hT (cd m, P m) (List.mem_map.mpr ⟨m, mm, rfl⟩)
      have g0 : GH ⟨K, Z0⟩ (tbG ms qn P) H := fun b o h => by
        obtain ⟨m, mm, e, rfl⟩ := tbG_of h
        subst e
        exact LamX.TabS.nil (tP m mm)
      have na : tbG ms qn P a = none := by
        cases e : tbG ms qn P a with
        | none => rfl
        | some o =>
          obtain ⟨m, mm, e2, rfl⟩ := tbG_of e
          have t := tP m mm
          rw [e2] at t
          rcases hS with h | ⟨o, its, n, h, _⟩
          · rcases h with h | ⟨o, h⟩ <;> rw [t] at h <;> cases h
          · have := (hm m mm).2.1
            rw [e2, h] at this; cases this
      refine ⟨[.sl (ns.map D.int)], _, fun d _ => d = .bl true, fun _ _ => False, g0, .cons (.sl (SqF.of g0 hS na) (dvl_ints ns)) .nil, hsp P _ ns _ _ (fun m mm => tbG_at inj mm) hlen fun _ => rfl,
        fun d G' v H' h g r k => by subst h; cases r; rfl, fun _ _ _ _ _ z => z.elim⟩
  · obtain ⟨_, _, _, _, _, _, _, _, _, _, _, _, z⟩ := hx
    exact z
end L3
namespace L3
open PySem PySem.Spec PyProof.Rows L2
open He (ga)
/-! ### isinstance of a held error that may have a field -/
theorem cls_some {K : PySem.W.Frag} {D : Addr} (h : PySem.W.hasDictIn K D = true) : (PySem.W.clsIn K D).isSome = true := by
  obtain ⟨cd, hc, _⟩ := PySem.W.any_some h
  rw [hc]; rfl
theorem call_isEF {X : Cx} {a D : Addr} {oe : Obj} {d : Option Addr} {pn : List (Addr × Obj)} (C : ExcC X.K D) (hz : Zc (.ref D) d oe) (hf : ∃ vs, oe.data = .fields vs) :
    CallR (X.suite a ((a, oe) :: pn)) (.builtin "isinstance") (fun xs H Q => (d = none ∨ ∃ (dd : Addr) (fs : List (Str × V)), d = some dd ∧ H dd = some (.xd fs)) ∧ rIsE X.K D a xs H Q) := by
  intro pins s σ H xs us Q I r h
  obtain ⟨hd, c, cv, b, rfl, hcv, e, q⟩ := h
  cases r with
  | cons rx rr =>
  cases rr with
  | cons rt rr =>
  cases rr
  cases rx
  have ec := hcv _ rt
  subst ec
  have hget := (I.pin (a, oe) (List.mem_append.mpr (.inl List.mem_cons_self))).1
  obtain ⟨vs, hv⟩ := hf
  have J : ∃ od, PySem.W.InstAt s.heap a oe D od := by
    rcases hd with rfl | ⟨dd, fs, rfl, hH⟩
    · exact ⟨none, hget, hz.1, by unfold PySem.W.notCls; rw [hv] <;> rfl, by rw [hz.2]; trivial⟩
    · have hx : ObjOk X.prog X.w H s.heap dd (.xd fs) := I.hok dd _ hH
      obtain ⟨mA, hns, _⟩ := hx
      obtain ⟨ob, h1, _⟩ := lookIn_ns hns
      exact ⟨some ob, hget, hz.1, by unfold PySem.W.notCls; rw [hv] <;> rfl, by rw [hz.2]; exact h1⟩
  obtain ⟨od, J⟩ := J
  exact PySem.W.kia_one (PySem.W.kitx_exc (od := od) (cls_some C.hd) C.hg C.hk C.hs C.ha C.hn C.ht C.hm) I.kIn J e (fun z => nomatch z) fun tk => ⟨.bl b, H, I.kept (t' := tk) fun _ _ z => z, rfl, q⟩
def tiseF (l : List (Str × Str × Bool × Bool)) (b : Bool) (C : Str) (te : TE3) : TE3 := fun σ G Q E => te σ G (fun x G1 => ∃ c r, (x = .ex c ∨ ∃ f y, x = .exf c f y) ∧ exiOf l c C b = some r ∧ Q (.bl r) G1) E
theorem isieF_ {X : Cx} {a : Addr} {oe : Obj} {d : Option Addr} {pn : List (Addr × Obj)} {W : WX} {e ce : Expr} {te : TE3} {p pos : Pos} {e3 : X3} {l : List (Str × Str × Bool × Bool)} {b : Bool} {C : Str} (T : ExiF X.K l) (hz : Zc (.ref (ga X.K e3.c)) d oe) (hf : ∃ vs, oe.data = .fields vs)
    (hi : X.mg "isinstance" = none) (hc : IsC (X.suite a ((a, oe) :: pn)) ce (clsA X.K b C)) (he : PE3 (X.suite a ((a, oe) :: pn)) ⟨a, .ref (ga X.K e3.c), d⟩ W e te) (hg : Gl X "isinstance" := by rfl)
    (he1 : starEach [e, ce] X.env = (false, eval e X.env) :: starEach [ce] X.env := by rfl) (he2 : starEach [ce] X.env = (false, eval ce X.env) :: starEach [] X.env := by rfl) (hpl : (backTo pos (starEach [ce] X.env)).any (·.1) = false := by rfl) :
    PE3 (X.suite a ((a, oe) :: pn)) ⟨a, .ref (ga X.K e3.c), d⟩ W (.Call (.Name "isinstance" p) [e, ce] [] pos) (tiseF l b C te) := by
  obtain ⟨cv, hc, k⟩ := hc
  have call : CallR (X.suite a ((a, oe) :: pn)) (.builtin "isinstance") (fun xs H Q => ExcC X.K (ga X.K e3.c) ∧ ((d = none ∨ ∃ (dd : Addr) (fs : List (Str × V)), d = some dd ∧ H dd = some (.xd fs)) ∧ rIsE X.K (ga X.K e3.c) a xs H Q)) := fun pins s σ H xs us Q I r ⟨h1, h2⟩ =>
    call_isEF h1 hz hf pins s σ H xs us Q I r h2
  refine PE.imp (pe_callB (X := X.suite a ((a, oe) :: pn)) call hg hi (by decide +kernel) (pa_cons he (pa_cons hc pa_nil he2) he1) (by decide) (by decide) he1 hpl) fun σ H Q h => ?_
  obtain ⟨σ3, G, Q3, E3, g, rs, h, qk, x⟩ := h
  refine ⟨σ3, G, _, E3, g, rs, h, fun y G1 v H1 ⟨c, r, ey, h2, h3⟩ g1 r1 k1 => ?_, x⟩
  obtain ⟨t1, t2⟩ := exi_ok T h2
  rcases ey with rfl | ⟨f, z, rfl⟩
  · cases r1 with
    | ex z1 z2 =>
    have z1 : Value.ref (ga X.K e3.c) = .ref (ga X.K c) := z1
    injection z1 with z1
    rw [← z1] at t1 t2
    exact ⟨t1, .inl z2, cv, _, r, rfl, fun u hu => k.eq hu, t2, q_of (qk.keep k1) g1 h3 (.bl r)⟩
  · cases r1 with
    | exf z1 z2 z3 r4 =>
    have z1 : Value.ref (ga X.K e3.c) = .ref (ga X.K c) := z1
    injection z1 with z1
    rw [← z1] at t1 t2
    exact ⟨t1, .inr ⟨_, _, z2, z3⟩, cv, _, r, rfl, fun u hu => k.eq hu, t2, q_of (qk.keep k1) g1 h3 (.bl r)⟩
end L3
/-! ### int != a dict, int != an own object -/
namespace NQ
open PySem PySem.Spec PyProof.Rows PySem.SeqAt
open AutoSeq1 (wpAny_loadPart')
theorem int_plain (b : Int) (u : Tok) (l : Addr) (c : Value) (dd : Option Addr) (sl : Array (Option Value)) :
    Meets (Builtin.«int.__ne__» ⟨[.int b u, .ref l], []⟩) (fun _ R s => s.heap.get? l = some { cls := c, dict := dd, data := .plain, slots := sl } ∧ R (.ok (.ret .notImplemented)) s) :=
  .of_wp fun prog w A R s h => by
    obtain ⟨hp, g, d, tk, os⟩ := s
    obtain ⟨hl, h⟩ := h
    wp_walk using wpAny_loadPart' hl, wpAny_load hl
    exact ⟨_, rfl, h⟩
theorem int_dict (b : Int) (u : Tok) (l : Addr) (c : Value) (es : Array DictEntry) (ep : Nat) (dd : Option Addr) (sl : Array (Option Value)) :
    Meets (Builtin.«int.__ne__» ⟨[.int b u, .ref l], []⟩) (fun _ R s => s.heap.get? l = some { cls := c, dict := dd, data := .dict es ep, slots := sl } ∧ R (.ok (.ret .notImplemented)) s) :=
  .of_wp fun prog w A R s h => by
    obtain ⟨hp, g, d, tk, os⟩ := s
    obtain ⟨hl, h⟩ := h
    wp_walk using wpAny_loadPart' hl, wpAny_load hl
    exact ⟨_, rfl, h⟩
theorem dict_int (l : Addr) (es : Array DictEntry) (ep : Nat) (dd : Option Addr) (sl : Array (Option Value)) (b : Int) (u : Tok) :
    Meets (Builtin.«dict.__ne__» ⟨[.ref l, .int b u], []⟩) (fun _ R s => s.heap.get? l = some { cls := .type "dict", dict := dd, data := .dict es ep, slots := sl } ∧ R (.ok (.ret .notImplemented)) s) :=
  .of_wp fun prog w A R s h => by
    obtain ⟨hp, g, d, tk, os⟩ := s
    obtain ⟨hl, h⟩ := h
    have f1 := F.sub_int_dict
    wp_walk using wpAny_loadPart' hl
    exact ⟨_, rfl, h⟩
section
variable {M : Model} {prog : Program} {w : World} {A : Around} {E : Value → Shared → Prop} {s : Shared} {K : PySem.W.Frag} {x C f : Addr} {od : Option Obj} {dx : Addr}
theorem ne_dict {l : Addr} {o : Obj} {es : Array DictEntry} {ep : Nat} (i : Int) (t : Tok) (ho : s.heap.get? l = some o) (hc : o.cls = .type "dict") (hd : o.data = .dict es ep) (hu : A.units < cLine) {Q : Value → Shared → Prop} (h : Q (.bool true) s) :
    wpAny (model prog w) A (richCompare .NotEq (.int i t) (.ref l)) Q E s := by
  obtain ⟨cls, dd, data, sl⟩ := o
  simp only at hc hd
  subst hc hd
  exact rc_ne_decline_or (k := false) (typeIs_int s i t) ⟨_, ho, rfl⟩ (by decide) F.sub_dict_int F.slot_int_ne F.slot_dict_ne_refl
    (fun _ hq => call_meets F.slot_int_ne (typeIs_int s i t) F.entry_int_ne (F.args_int_ne_2 _ _) (int_dict i t l (.type "dict") es ep dd sl) ⟨ho, hq⟩)
    (fun _ hq => call_meets F.slot_dict_ne_refl ⟨_, ho, rfl⟩ F.entry_dict_ne (F.args_dict_ne_2 _ _) (dict_int l es ep dd sl i t) ⟨ho, hq⟩)
    (fun _ hq => wpAny_of_eq (rfl : isSame (.int i t) (.ref l) = pure false) hq) (.inr hu) h
theorem ifBound_b {name : Str} {id : String} {ox : Obj} {args : List Value} {Q : Option Value → Shared → Prop} (X : K.In s.heap) (I : PySem.W.InstAt s.heap x ox C od) (hs : PySem.W.findIn K (.ref C) name = some (some (.builtin id)))
    (hb : ∀ self, bindSpecial (.builtin id) self = pure (.builtin id, [self]))
    (h : wpAny M A (call (.builtin id) (.ref x :: args)) (fun v => Q (some v)) E s) : wpAny M A (callSpecialIfBound? (.ref x) name args) Q E s := by
  simp only [callSpecialIfBound?, bindSpecialIfBound?]
  refine wpAny_holding (wpAny_bind (wpAny_bind (wpAny_bind (I.type.here ((PySem.W.looks_findIn X hs).here ?_)))))
  refine wpAny_bind (wpAny_askSetting (wpAny_ite ?_))
  have fin : wpAny M A (call (.builtin id) ([.ref x] ++ args) >>= fun v => pure (some v)) Q E s := wpAny_bind (wpAny_mono h (fun v s' h' => wpAny_pure h') fun _ _ h' => h')
  split
  · exact wpAny_bind (wpAny_of_eq (hb _) (wpAny_pure (by exact fin)))
  · exact wpAny_tryCatch (wpAny_bind (wpAny_of_eq (hb _) (wpAny_pure (by exact fin))))
theorem eqe_int {i : Int} {t : Tok} {Q : Fin → Shared → Prop} (hq : Q (.done (.ret .notImplemented)) s) : wpAny M A (Builtin.«object.__eq__» ⟨[.ref x, .int i t], []⟩) Q E s := by
  unfold Builtin.«object.__eq__»
  repeat (first | with_reducible refine wpAny_of_eq (rfl : isSame (.ref x) (.int i t) = pure false) ?_ | wp_step)
  exact hq
theorem callEq_int {i : Int} {t : Tok} {ox : Obj} {Q : Value → Shared → Prop} (X : K.In s.heap) (I : PySem.W.InstAt s.heap x ox C od) (hm : PySem.W.mroIn K C (.type "object") = some true) (hq : Q .notImplemented s) :
    wpAny (model prog w) A (call (.builtin "object.__eq__") [.ref x, .int i t]) Q E s :=
  wpAny_call (codeAny_call_builtin F.cmp_object.eq.plain F.cmpEntry_eq (PySem.W.check_slot F.cmpKind_eq F.cmpSplit_eq (I.type.andThen (PySem.W.looks_mroIn X hm)) (F.cmpArgs_eq _ _) (eqe_int hq)))
theorem nee_of {i : Int} {t : Tok} (hu : A.units < cLine) {Q : Fin → Shared → Prop}
    (h : wpAny M A (callSpecialIfBound? (.ref x) "__eq__" [.int i t]) (fun r s' => (r = some .notImplemented ∧ Q (.done (.ret .notImplemented)) s') ∨ ∃ b, r = some (.bool b) ∧ Q (.done (.ret (.bool (!b)))) s') E s) :
    wpAny M A (Builtin.«object.__ne__» ⟨[.ref x, .int i t], []⟩) Q E s := by
  unfold Builtin.«object.__ne__»
  repeat (first
    | with_reducible refine wpAny_cRoomFor hu ?_
    | (refine wpAny_bind (m := callSpecialIfBound? (.ref x) (Str.ofString "__eq__") [.int i t])
        (wpAny_mono h (fun r s' hr => by
          rcases hr with ⟨rfl, hq⟩ | ⟨b, rfl, hq⟩
          · exact wpAny_pure hq
          · refine wpAny_bind (m := truthy (.bool _)) (wpAny_truthy_bool ?_)
            exact wpAny_pure hq) fun _ _ e => e))
    | wp_step)
theorem callNe {i : Int} {t : Tok} {ox : Obj} (hu : A.units + 1 < cLine) {Q : Value → Shared → Prop} (X : K.In s.heap) (I : PySem.W.InstAt s.heap x ox C od) (hm : PySem.W.mroIn K C (.type "object") = some true)
    (h : wpAny (model prog w) A.in1 (callSpecialIfBound? (.ref x) "__eq__" [.int i t]) (fun r s' => (r = some .notImplemented ∧ Q .notImplemented s') ∨ ∃ b, r = some (.bool b) ∧ Q (.bool (!b)) s') E s) :
    wpAny (model prog w) A (call (.builtin "object.__ne__") [.ref x, .int i t]) Q E s :=
  wpAny_call (codeAny_call_builtin F.cmp_object.ne.plain F.cmpEntry_ne (PySem.W.check_slot F.cmpKind_ne F.cmpSplit_ne (I.type.andThen (PySem.W.looks_mroIn X hm)) (F.cmpArgs_ne _ _) (nee_of (A := A.in1) hu h)))
theorem ne_obj {i : Int} {t : Tok} {Q : Value → Shared → Prop} (hu : A.units + 1 < cLine) (X : K.In s.heap) (I : PySem.W.InstAt s.heap x (PySem.W.instObj C dx) C od) (hm : PySem.W.mroIn K C (.type "object") = some true)
    (hi : PySem.W.subIn K (.ref C) (.type "int") = some false) (hs : PySem.W.findIn K (.ref C) "__ne__" = some (some (.builtin "object.__ne__")))
    (h : wpAny (model prog w) A.in1 (callSpecialIfBound? (.ref x) "__eq__" [.int i t]) (fun r s' => (r = some .notImplemented ∧ Q (.bool true) s') ∨ ∃ b, r = some (.bool b) ∧ Q (.bool (!b)) s') E s) :
    wpAny (model prog w) A (richCompare .NotEq (.int i t) (.ref x)) Q E s := by
  have one : wpAny (model prog w) A (tryCompare (.int i t) "__ne__" (.ref x)) (fun r s' => r = none ∧ s' = s) E s :=
    wpAny_tryCompare_declines (typeIs_int s i t) F.slot_int_ne (call_meets F.slot_int_ne (typeIs_int s i t) F.entry_int_ne (F.args_int_ne_2 _ _) (int_plain i t x _ _ _) ⟨I.at_, rfl, rfl, rfl⟩)
  have two : wpAny (model prog w) A (tryCompare (.ref x) "__ne__" (.int i t)) (fun r s' => (r = none ∧ Q (.bool true) s') ∨ ∃ b, r = some (.bool b) ∧ Q (.bool b) s') E s := by
    unfold tryCompare
    refine wpAny_bind (ifBound_b X I hs F.cmp_object.ne.bind (callNe hu X I hm (wpAny_mono h (fun r s' hr => ?_) fun _ _ e => e)))
    rcases hr with ⟨e, hq⟩ | ⟨b, e, hq⟩
    · exact .inl ⟨e, wpAny_pure (.inl ⟨rfl, hq⟩)⟩
    · exact .inr ⟨b, e, wpAny_pure (.inr ⟨_, rfl, hq⟩)⟩
  have hu0 : A.units < cLine := Nat.lt_of_succ_lt hu
  simp only [richCompare, cmpInfo_NotEq, (typeIs_int s i t).oneThing_none]
  refine wpAny_holding (wpAny_bind (wpAny_cRoomFor hu0 ?_))
  refine wpAny_bind (wpAny_typeOf (typeIs_int s i t) ?_)
  refine wpAny_bind (I.type.here ?_)
  split
  · refine wpAny_bind ((PySem.W.looks_subIn X hi).here ?_)
    simp only [Bool.false_eq_true, if_false, Bool.not_false, if_true]
    refine wpAny_bind (m := tryCompare (.int i t) _ (.ref x)) (wpAny_mono one (fun r s1 z => ?_) fun _ _ e => e)
    obtain ⟨z1, z2⟩ := z
    subst z1
    subst z2
    refine wpAny_bind (m := tryCompare (.ref x) _ (.int i t)) (wpAny_mono two (fun r s2 z => ?_) fun _ _ e => e)
    rcases z with ⟨z1, hq⟩ | ⟨b, z1, hq⟩
    · subst z1
      exact wpAny_bind (wpAny_rule (wpAny_bind (wpAny_of_eq (rfl : isSame (.int i t) (.ref x) = pure false) (wpAny_pure hq))))
    · subst z1
      exact wpAny_pure hq
  · rename_i q
    exact absurd (by simp) q
end
end NQ
namespace L3
open PySem PySem.Spec PyProof.Rows L2
open He (ga)
/-- of an own class's table: what int != its object asks -/
structure NeC (K : PySem.W.Frag) (c : Str) : Prop where
  m : PySem.W.mroIn K (ga K c) (.type "object") = some true
  i : PySem.W.subIn K (.ref (ga K c)) (.type "int") = some false
  n : PySem.W.findIn K (.ref (ga K c)) "__ne__" = some (some (.builtin "object.__ne__"))
structure NeT (K : PySem.W.Frag) (OP : List Str) (c : Str) : Prop where
  p : ∀ d ∈ OP, NeC K d ∧ PySem.W.findIn K (.ref (ga K d)) "__eq__" = some (some (.builtin "object.__eq__"))
  o : NeC K c
  s : PySem.W.findIn K (.ref (ga K c)) "__eq__" = some (some (.ref (He.ma K (ga K c) "__eq__")))
  f : PySem.W.isFn K (.ref (He.ma K (ga K c) "__eq__")) = true
def necB (c : Str) (K : PySem.W.Frag) : Bool := decide (PySem.W.mroIn K (ga K c) (.type "object") = some true) && (decide (PySem.W.subIn K (.ref (ga K c)) (.type "int") = some false) &&
  decide (PySem.W.findIn K (.ref (ga K c)) "__ne__" = some (some (.builtin "object.__ne__"))))
theorem nec_ok {K : PySem.W.Frag} {c : Str} (h : necB c K = true) : NeC K c := by
  obtain ⟨h1, h⟩ := He.ba h
  obtain ⟨h2, h3⟩ := He.ba h
  exact ⟨of_decide_eq_true h1, of_decide_eq_true h2, of_decide_eq_true h3⟩
def netB (OP : List Str) (c : Str) (K : PySem.W.Frag) : Bool := (OP.all fun d => necB d K && decide (PySem.W.findIn K (.ref (ga K d)) "__eq__" = some (some (.builtin "object.__eq__")))) && (necB c K &&
  (decide (PySem.W.findIn K (.ref (ga K c)) "__eq__" = some (some (.ref (He.ma K (ga K c) "__eq__")))) && PySem.W.isFn K (.ref (He.ma K (ga K c) "__eq__"))))
theorem net_ok {K : PySem.W.Frag} {OP : List Str} {c : Str} (h : netB OP c K = true) : NeT K OP c := by
  obtain ⟨h1, h⟩ := He.ba h
  obtain ⟨h2, h⟩ := He.ba h
  obtain ⟨h3, h4⟩ := He.ba h
  exact ⟨fun d hd => let ⟨a, b⟩ := He.ba (List.all_eq_true.mp h1 d hd); ⟨nec_ok a, of_decide_eq_true b⟩, nec_ok h2, of_decide_eq_true h3, h4⟩
def isQ : D → Bool
  | .tup _ => true
  | .fl _ => true
  | .emp => true
  | _ => false
/-- int != a tuple, a list, a dict, an object of a class without an own ==, an object of c, whose own == promises sp -/
def neI (OP : List Str) (c : Str) (sp : Sp3) : Q2 := fun x y G Q => ∃ i, x = .int i ∧ ((isQ y = true ∧ Q (.bl true) G) ∨ (∃ d ∈ OP, tyD G y = some (.o d) ∧ Q (.bl true) G) ∨
  (tyD G y = some (.o c) ∧ sp [y, x] G (fun z G1 => ∃ b, z = .bl b ∧ Q (.bl (!b)) G1) (fun _ _ => False)))
def neX (OP : List Str) (c : Str) (sp : Sp3) : Q2 := fun x y G Q => (eqOk x y = true ∧ Q (.bl (!eqD x y)) G) ∨ neI OP c sp x y G Q
theorem ins_of {K : K3} {G : Gp} {H : Hp} {y : D} {u : V} {c : Str} (g : GH K G H) (ry : Dv K G H y u) (h : tyD G y = some (.o c)) : ∃ a dx fs, u = .ref a ∧ H a = some (.ins (ga K.f c) dx fs) := by
  cases ry with
  | ob s l n r => cases h; exact ⟨_, _, _, rfl, s⟩
  | ref a =>
    unfold tyD at h
    simp only at h
    split at h
    · cases h
    · cases h
    · rename_i c' fs e
      cases h
      obtain ⟨dx, vs, h2, _⟩ := g a _ e
      exact ⟨_, _, _, rfl, h2⟩
    · cases h
    · cases h
  | _ => cases h
theorem o_neX {X : Cx} {OP : List Str} {c : Str} {sp : Sp3} {j k : Nat} (T : NeT X.K OP c) (F : Mn3 X.prog X.w X.K X.mg X.base (He.ma X.K (ga X.K c) "__eq__") j sp) (hr : Room k X.A) (hj : j + 1 ≤ k) : OpR3 X Z0 (compareOp .NotEq) (neX OP c sp) := by
  obtain ⟨r1, h1, b1⟩ := o_ne (X := X) (Z := Z0) hr
  obtain ⟨fd, ps, hb, F⟩ := F.ex
  have hr1 : Room (j + 1) X.A := hr.mono hj
  have sb : L2.Sub X j X.A.in1 := L2.Sub.in1 ⟨hr1, rfl⟩
  have hu : X.A.units + 1 < cLine := by have := hr.units; omega
  have h2 : OpR X (compareOp .NotEq) (fun v u H Q => ∃ G x y Q3, GH (Cxk X Z0) G H ∧ Dv (Cxk X Z0) G H x v ∧ Dv (Cxk X Z0) G H y u ∧ neI OP c sp x y G Q3 ∧ Qk (Cxk X Z0) G H Q3 Q) := by
    intro pins s σ H v u v' u' Q I rv ru h
    obtain ⟨G, x, y, Q3, g, rx, ry, ⟨i, ex, h⟩, q⟩ := h
    subst ex
    cases rx
    obtain ⟨t, hv'⟩ := (show ∃ t, v' = Value.int i t from rv)
    subst hv'
    show wpAny (model X.prog X.w) X.A (richCompare .NotEq (.int i t) u') (EP X pins σ Q) X.xe s
    rcases h with ⟨ty, h⟩ | ⟨d, hd, ty, h⟩ | ⟨ty, h⟩
    · have fin := q_of q g h (.bl true)
      cases ry with
      | tup sq _ =>
        cases (show u' = Value.ref _ from ru)
        obtain ⟨its, r, e, z⟩ := I.tuple sq
        exact PySem.SeqAt.RcNeAt.int_tuple i t e hr.units0 X.prog X.w _ _ ⟨.bl true, H, I, rfl, fin⟩
      | fl e n _ =>
        cases (show u' = Value.ref _ from ru)
        obtain ⟨_, its, k, r, e⟩ := I.hok _ _ e
        exact PySem.SeqAt.RcNeAt.int_list i t ⟨_, e, rfl, _, rfl⟩ hr.units0 X.prog X.w _ _ ⟨.bl true, H, I, rfl, fin⟩
      | emp ea n =>
        cases (show u' = Value.ref _ from ru)
        obtain ⟨_, _, vs, _, o, es, ep, h1, h2, h3, _⟩ := (show ObjOk X.prog X.w H s.heap _ (.dK _) from I.hok _ _ ea)
        exact NQ.ne_dict i t h1 h2.1 h3 hr.units0 ⟨.bl true, H, I, rfl, fin⟩
      | _ => cases ty
    · obtain ⟨a, dx, fs, eu, ea⟩ := ins_of g ry ty
      subst eu
      cases (show u' = Value.ref a from ru)
      obtain ⟨mA, J, _⟩ := ins_get I.hok ea
      obtain ⟨od, J, _⟩ := J.look
      obtain ⟨tc, te⟩ := T.p d hd
      refine NQ.ne_obj hu I.kIn J tc.m tc.i tc.n ?_
      refine NQ.ifBound_b I.kIn J te PySem.F.cmp_object.eq.bind (NQ.callEq_int I.kIn J tc.m (.inl ⟨rfl, ⟨.bl true, H, I, rfl, q_of q g h (.bl _)⟩⟩))
    · obtain ⟨a, dx, fs, eu, ea⟩ := ins_of g ry ty
      subst eu
      cases (show u' = Value.ref a from ru)
      obtain ⟨mA, J, _⟩ := ins_get I.hok ea
      obtain ⟨od, J, _⟩ := J.look
      refine NQ.ne_obj hu I.kIn J T.o.m T.o.i T.o.n ?_
      refine PySem.W.ifBound_K I.kIn J T.s T.f ?_
      have e0 : Env0 X.prog X.w X.K X.mg X.base X.A.in1 X.stack s H := by
        have e := I.env0
        exact ⟨by rw [sb.fr]; exact e.frames, e.mod, e.bs, e.bsz, e.funs, e.frf, e.hok, e.bare⟩
      have hsp : liftSp ⟨X.K, Z0⟩ sp [.ref a, .int i] H (fun w H' => ∃ b, w = .bl b ∧ Q (.bl (!b)) H') (fun _ _ _ => False) := by
        refine ⟨[y, .int i], G, _, _, g, .cons ry (.cons (.int i) .nil), h, fun d G1 w H1 ⟨b, e, h1⟩ g1 r1 k1 => ?_, fun _ _ _ _ _ z => z.elim⟩
        subst e
        cases r1
        exact ⟨b, rfl, q _ _ _ _ h1 g1 (.bl _) k1⟩
      have hl := F.len _ _ _ _ hsp
      have r2 : Vals [V.ref a, V.int i] [Value.ref a, Value.int i t] := .cons rfl (.cons ⟨t, rfl⟩ .nil)
      refine wpAny_call (codeAny_mono (F.run X.A.in1 X.stack s H ⟨[.ref a, .int i t], []⟩ [.ref a, .int i t] [.ref a, .int i] _ (fun _ _ _ => False) sb.room e0 (by
        have := hb s [.ref a, .int i t] I.kIn (by simpa using hl)
        simpa using this) r2 hsp) fun r s' hq => ?_)
      cases r with
      | error e =>
        obtain ⟨_, _, _, _, _, _, _, _, _, _, _, _, z⟩ := hq
        exact z.elim
      | ok fl =>
        cases fl with
        | ret w =>
          obtain ⟨z, H', I', rz, ⟨b, ez, h1⟩⟩ := I.after hq
          subst ez
          cases (show w = Value.bool b from rz)
          exact .inr ⟨b, rfl, .bl (!b), H', I', rfl, h1⟩
        | next => exact False.elim hq
        | brk => exact False.elim hq
        | cont => exact False.elim hq
  refine ⟨_, h1.or h2, fun G H x y v u Q3 Q g rx ry h q => ?_⟩
  rcases h with h | h
  · exact .inl (b1 G H x y v u Q3 Q g rx ry h q)
  · exact .inr ⟨G, x, y, Q3, g, rx, ry, h, q⟩
end L3
namespace L3
open PySem PySem.Spec PyProof.Rows L2
open He (ga)
/-! ### a tuple of one, many times -/
def rRepO (K : PySem.W.Frag) : R2 := fun x y H Q => ∃ (l : Addr) (k : Nat) (z : V), x = .ref l ∧ y = .int (k : Nat) ∧ SqT K H l [z] ∧ 2 ≤ k ∧ k ≤ 100000 ∧ ∀ p, H p = none → Q (.ref p) (upd H p (.tup (List.replicate k z)))
theorem rep_one {α : Type} (z : α) (k : Nat) : (List.replicate k [z]).flatten = List.replicate k z := by simp [List.flatten_replicate_singleton]
theorem rel_rep {z : V} {u : Value} (r : RelV z u) : ∀ k : Nat, Vals (List.replicate k z) (List.replicate k u)
  | 0 => .nil
  | k + 1 => .cons r (rel_rep r k)
theorem op_repO {X : Cx} : OpR X (binaryOp .Mult) (rRepO X.K) := by
  intro pins s σ H x y v w Q I rx ry h
  obtain ⟨l, k, z, rfl, rfl, sq, k2, kb, q⟩ := h
  cases rx
  obtain ⟨tk, rfl⟩ := ry
  obtain ⟨us, rs, ⟨⟨cl, od, da, so⟩, got, ec, m, ed⟩, _⟩ := I.tuple sq
  simp only at ec ed
  subst ec ed
  obtain ⟨u, rfl, ru⟩ : ∃ u, us = [u] ∧ RelV z u := by
    cases rs with
    | cons r1 r2 =>
      cases r2
      exact ⟨_, rfl, r1⟩
  have one : [u].toArray.size = 1 := rfl
  have foot : (List.foldl (fun x1 x2 => x1 ++ x2) #[] (List.replicate ((k : Nat) : Int).toNat [u].toArray)) = (List.replicate k u).toArray := by
    rw [size_rep, Int.toNat_natCast, rep_one]
  have b0 : (decide (((k : Nat) : Int) < -(2 ^ 63)) || decide (((k : Nat) : Int) ≥ 2 ^ 63)) = false := by
    rw [decide_eq_false (show ¬ ((k : Nat) : Int) < -(2 ^ 63) by omega), decide_eq_false (show ¬ ((k : Nat) : Int) ≥ 2 ^ 63 by omega)]; rfl
  have b1 : ([u].toArray.isEmpty || ((k : Nat) : Int) == 1) = false := by
    rw [show [u].toArray.isEmpty = false from rfl, Bool.false_or]
    exact beq_false_of_ne (by omega)
  have b2 : (decide (((k : Nat) : Int) ≤ 0) || [u].toArray.isEmpty) = false := by
    rw [show [u].toArray.isEmpty = false from rfl, decide_eq_false (show ¬ ((k : Nat) : Int) ≤ 0 by omega)]; rfl
  have b3 : ¬ (([u].toArray.size : Nat) : Int) * ((k : Nat) : Int) > (2 ^ 63 - 1) / 8 := by
    rw [one]; omega
  have b4 : Builtin.Tuple.tupleTooMany ((([u].toArray.size : Nat) : Int) * ((k : Nat) : Int)) = false := by
    unfold Builtin.Tuple.tupleTooMany
    rw [one, sizeLine_eq]
    refine decide_eq_false ?_
    omega
  have fit : k ≤ sizeLine := by
    rw [sizeLine_eq]
    omega
  refine wpAny_binaryOp_repeat_ref (T := "tuple") (U := "int") (by decide) ⟨_, got, rfl⟩ (fun s' => typeIs_int s' ((k : Nat) : Int) tk) noFill_tuple_mul F.fills_int_mul
    F.slot_int_rmul repeat_tuple F.slot_int_index.lookup
    (call_meets F.slot_int_rmul (typeIs_int s ((k : Nat) : Int) tk) F.entry_int_rmul (F.args_int_rmul_2 _ _) (int_rmul_tuple ((k : Nat) : Int) tk l [u].toArray m od so)
      ⟨got, rfl, ⟨_, got, rfl⟩, call_meets F.slot_tuple_mul ⟨_, got, rfl⟩ F.entry_tuple_mul (F.args_tuple_mul_2 _ _)
        (tuple_mulW l [u].toArray m od so ((k : Nat) : Int) tk b0 b1 b2 b3 b4 (by rw [foot, List.size_toArray, List.length_replicate]; exact fit)) ⟨got, ?_⟩⟩)
  rw [foot]
  refine ⟨.ref s.heap.objs.size, _, I.laid (t' := s.toks) (o := .tup (List.replicate k z)) (fun _ _ e => Heap.get?_push_of_some _ e) (Nat.le_refl _) ?_, rfl, q _ (I.hok.fresh (Nat.le_refl _))⟩
  exact ⟨by rw [List.length_replicate]; exact fit, _, rel_rep ru k, IsTup.new _ _⟩
/-- .. -/
def mul3O : Q2 := fun x y G Q => (∃ (d : D) (k : Nat), x = .tup [d] ∧ y = .int (k : Nat) ∧ 2 ≤ k ∧ k ≤ 100000 ∧ Q (.tup (List.replicate k d)) G) ∨ mul3T x y G Q
theorem dv_rep {K : K3} {G : Gp} {H : Hp} {d : D} {z : V} (r : Dv K G H d z) : ∀ k : Nat, DvL K G H (List.replicate k d) (List.replicate k z)
  | 0 => .nil
  | k + 1 => .cons r (dv_rep r k)
theorem o_mulO {X : Cx} {Z : Zx} : OpR3 X Z (binaryOp .Mult) mul3O := by
  obtain ⟨r, h, kk⟩ := o_mulT (X := X) (Z := Z)
  refine ⟨_, op_repO.or h, fun G H x y v u Q3 Q g rx ry h q => ?_⟩
  rcases h with ⟨d, k, rfl, rfl, k2, kb, h⟩ | h
  · cases ry
    cases rx with
    | tup s r =>
      cases r with
      | cons r1 r2 =>
        cases r2
        refine .inl ⟨_, k, _, rfl, rfl, s, k2, kb, fun p np => outT_ok g (dv_rep r1 k) q h np⟩
  · exact .inr (kk G H x y v u Q3 Q g rx ry h q)
end L3
namespace L3
open PySem PySem.Spec PyProof.Rows L2
open He (ga)
/-! ### repr of deep data -/
mutual
def pR : D → PyData
  | .non => .none
  | .bl b => .bool b
  | .int i => .int i
  | .str x => .str x
  | .tup xs => .tuple (pRL xs)
  | .fl xs => .list (pRL xs)
  | .sl xs => .list (pRL xs)
  | _ => .none
def pRL : List D → List PyData
  | [] => []
  | x :: xs => pR x :: pRL xs
end
mutual
/-- what can be shown -/
def rk : D → Bool
  | .non => true
  | .bl _ => true
  | .int i => decide (i.natAbs.log2 < 1920)
  | .str _ => true
  | .tup xs => rkL xs
  | .fl xs => rkL xs
  | .sl xs => rkL xs
  | _ => false
def rkL : List D → Bool
  | [] => true
  | x :: xs => rk x && rkL xs
end
section
variable {X : Cx} {Z : Zx} {pins : List (Addr × Obj)} {σ : St} {H : Hp} {s : Shared} {G : Gp}
/-- a value is read, and shown -/
def RpV (P : Program) (w : World) (h : Heap) (d : D) (u : Value) : Prop := (∃ as, Reads h u (pR d) as) ∧ ((pR d).shown.length ≤ sizeLine → ∃ bs, ReadAtMost h (pR d).depth bs ∧ ReprK P w bs h (pR d).depth u (pR d).shown)
def RpL (P : Program) (w : World) (h : Heap) (d : List D) (u : List Value) : Prop := (∃ as, ReadsAll h u (pRL d) as) ∧
  ((∀ t ∈ PyData.shownAll (pRL d), t.length ≤ sizeLine) → ∃ bs, ReadAtMost h (PyData.depthAll (pRL d)) bs ∧ ReprAllK P w bs h (PyData.depthAll (pRL d)) u (PyData.shownAll (pRL d)))
theorem rp_is {P : Program} {w : World} {h : Heap} {d : D} {u : Value} (r : Reads h u (pR d) []) (k : (pR d).shown.length ≤ sizeLine → ReprIs P w u (pR d).shown) : RpV P w h d u :=
  ⟨⟨_, r⟩, fun z => ⟨[], fun _ h => (by cases h), .of_is (k z) _ _ _⟩⟩
theorem rp_list {P : Program} {w : World} {h : Heap} {xs : List D} {a : Addr} {its : List Value} (p : ∃ o n, h.get? a = some o ∧ o.cls = .type "list" ∧ o.data = .seq its.toArray n) (q : RpL P w h xs its) :
    (∃ as, Reads h (.ref a) (.list (pRL xs)) as) ∧ ((listText (PyData.shownAll (pRL xs))).length ≤ sizeLine → ∃ bs, ReadAtMost h (PyData.list (pRL xs)).depth bs ∧ ReprK P w bs h (PyData.list (pRL xs)).depth (.ref a) (listText (PyData.shownAll (pRL xs)))) := by
  obtain ⟨o, n, h1, h2, h3⟩ := p
  obtain ⟨⟨as, ra⟩, q⟩ := q
  have r : Reads h (.ref a) (.list (pRL xs)) (a :: as) := .list h1 h2 h3 (by simpa using ra)
  refine ⟨⟨_, r⟩, fun z => ?_⟩
  obtain ⟨bs, hb, hk⟩ := q fun t ht => Nat.le_trans (listText_mem_le ht) z
  have hna : a ∉ bs := not_mem_of_deeper r (by simp only [PyData.depth]; omega) hb
  refine ⟨a :: bs, ReadAtMost.cons r (by simp only [PyData.depth]; omega) hb, ?_⟩
  simp only [PyData.depth]
  cases its with
  | nil =>
    cases e : pRL xs with
    | nil =>
      simp only [PyData.shownAll, listText_nil]
      exact ReprK.listEmpty h1 h2 h3
    | cons y ys => rw [e] at ra; cases ra
  | cons x l => exact ReprK.list h1 h2 h3 hna (by simpa using hk.length_eq) (fun i y e => hk.item i y (by simpa using e))
theorem rp_tup {P : Program} {w : World} {h : Heap} {xs : List D} {a : Addr} {its : List Value} (p : ∃ o n, h.get? a = some o ∧ o.cls = .type "tuple" ∧ o.data = .seq its.toArray n) (q : RpL P w h xs its) :
    (∃ as, Reads h (.ref a) (.tuple (pRL xs)) as) ∧ ((tupleText (PyData.shownAll (pRL xs))).length ≤ sizeLine → ∃ bs, ReadAtMost h (PyData.tuple (pRL xs)).depth bs ∧ ReprK P w bs h (PyData.tuple (pRL xs)).depth (.ref a) (tupleText (PyData.shownAll (pRL xs)))) := by
  obtain ⟨o, n, h1, h2, h3⟩ := p
  obtain ⟨⟨as, ra⟩, q⟩ := q
  have r : Reads h (.ref a) (.tuple (pRL xs)) as := .tuple h1 h2 h3 (by simpa using ra)
  refine ⟨⟨_, r⟩, fun z => ?_⟩
  obtain ⟨bs, hb, hk⟩ := q fun t ht => Nat.le_trans (tupleText_mem_le ht) z
  have hna : a ∉ bs := not_mem_of_deeper r (by simp only [PyData.depth]; omega) hb
  refine ⟨a :: bs, ReadAtMost.cons r (by simp only [PyData.depth]; omega) hb, ?_⟩
  simp only [PyData.depth]
  exact ReprK.tuple h1 h2 h3 hna (by simpa using hk)
theorem isTup_at {h : Heap} {a : Addr} {its : Array Value} (p : IsTup h a its) : ∃ o n, h.get? a = some o ∧ o.cls = .type "tuple" ∧ o.data = .seq its n := by
  obtain ⟨o, h1, h2, n, h3⟩ := p
  exact ⟨o, n, h1, h2, h3⟩
theorem plainL_at {h : Heap} {a : Addr} {its : Array Value} (p : PlainL h a its) : ∃ o n, h.get? a = some o ∧ o.cls = .type "list" ∧ o.data = .seq its n := by
  obtain ⟨o, n, h1, h2, _, h3⟩ := p
  exact ⟨o, n, h1, h2, h3⟩
mutual
theorem Dv.rp (I : Inv X pins σ H s) : ∀ {d : D} {v : V} {u : Value}, Dv (Cxk X Z) G H d v → RelV v u → rk d = true → RpV X.prog X.w s.heap d u
  | _, _, _, .non, e, _ => by cases e; exact rp_is .none fun _ => by simp only [pR, PyData.shown]; exact ReprIs.none
  | _, _, _, .bl b, e, _ => by cases e; exact rp_is (.bool b) fun _ => by simp only [pR, PyData.shown]; exact ReprIs.bool b
  | _, _, _, .int i, e, h => by
    obtain ⟨t, rfl⟩ := e
    exact rp_is (.int i t) fun _ => by simp only [pR, PyData.shown]; exact ReprIs.int t (by simpa [rk] using h)
  | _, _, _, .str x, e, _ => by
    obtain ⟨t, rfl⟩ := e
    exact rp_is (.str x t) fun z => by simp only [pR, PyData.shown] at z ⊢; exact ReprIs.str x t z
  | _, _, _, .tup st r, e, h => by
    cases e
    obtain ⟨its, rv, p, _⟩ := I.tuple st
    have q := rp_tup (isTup_at p) (DvL.rp I r rv (by simpa [rk] using h))
    unfold RpV
    simp only [pR, PyData.shown]
    exact q
  | _, _, _, .fl st n r, e, h => by
    cases e
    obtain ⟨its, rv, p, _⟩ := I.list (SqL.of st)
    have q := rp_list (plainL_at p) (DvL.rp I r rv (by simpa [rk] using h))
    unfold RpV
    simp only [pR, PyData.shown]
    exact q
  | _, _, _, .sl st r, e, h => by
    cases e
    obtain ⟨its, rv, p, _⟩ := I.list st.sql
    have q := rp_list (plainL_at p) (DvL.rp I r rv (by simpa [rk] using h))
    unfold RpV
    simp only [pR, PyData.shown]
    exact q
  | _, _, _, .ob _ _ _ _, _, h => by simp [rk] at h
  | _, _, _, .emp _ _, _, h => by simp [rk] at h
  | _, _, _, .ref _, _, h => by simp [rk] at h
  | _, _, _, .ex _ _, _, h => by simp [rk] at h
  | _, _, _, .fn _, _, h => by simp [rk] at h
  | _, _, _, .lam _ _ _, _, h => by simp [rk] at h
  | _, _, _, .exf _ _ _ _, _, h => by simp [rk] at h
theorem DvL.rp (I : Inv X pins σ H s) : ∀ {d : List D} {v : List V} {u : List Value}, DvL (Cxk X Z) G H d v → Vals v u → rkL d = true → RpL X.prog X.w s.heap d u
  | _, _, _, .nil, e, _ => by
    cases e
    refine ⟨⟨[], .nil⟩, fun _ => ⟨[], fun _ h => (by cases h), ?_⟩⟩
    simp only [pRL, PyData.shownAll]; exact .nil
  | _, _, _, .cons r t, .cons e es, h => by
    simp only [rkL, Bool.and_eq_true] at h
    obtain ⟨⟨a1, r1⟩, k1⟩ := Dv.rp I r e h.1
    obtain ⟨⟨a2, r2⟩, k2⟩ := DvL.rp I t es h.2
    refine ⟨⟨a1 ++ a2, .cons r1 r2⟩, fun z => ?_⟩
    simp only [pRL, PyData.shownAll, PyData.depthAll, List.mem_cons, forall_eq_or_imp] at z ⊢
    obtain ⟨b1, hb1, q1⟩ := k1 z.1
    obtain ⟨b2, hb2, q2⟩ := k2 z.2
    refine ⟨b1 ++ b2, (hb1.mono (Nat.le_max_left _ _)).append (hb2.mono (Nat.le_max_right _ _)), ?_⟩
    exact .cons ((q1.more fun b hb => List.mem_append_left _ hb).level_le (Nat.le_max_left _ _)) (q2.more_le (fun b hb => List.mem_append_right _ hb) (Nat.le_max_right _ _))
end
end
/-- the size of what is shown -/
def rz (d : D) : Nat := (pR d).shown.length
def bRepr : QL := fun ds G Q => match ds with
  | [x] => rk x = true ∧ (pR x).depth ≤ 64 ∧ rz x ≤ sizeLine ∧ Q (.str (pR x).shown) G
  | _ => False
theorem rk_noDict : ∀ (n : Nat), (∀ d : D, sizeOf d ≤ n → (pR d).hasDict = false) ∧ (∀ d : List D, sizeOf d ≤ n → PyData.hasDictAll (pRL d) = false)
  | 0 => ⟨fun d h => by cases d <;> simp at h, fun d h => by cases d <;> simp at h⟩
  | n + 1 => by
    obtain ⟨h1, h2⟩ := rk_noDict n
    refine ⟨fun d h => ?_, fun d h => ?_⟩
    · cases d <;> simp only [pR, PyData.hasDict]
      all_goals exact h2 _ (by simp at h; omega)
    · cases d with
      | nil => simp [pRL, PyData.hasDictAll]
      | cons x xs =>
        simp only [pRL, PyData.hasDictAll, Bool.or_eq_false_iff]
        exact ⟨h1 x (by simp at h; omega), h2 xs (by simp at h; omega)⟩
mutual
theorem rk_sh : ∀ d : D, rk d = true → (pR d).showable = true
  | .non, _ => by simp [pR, PyData.showable]
  | .bl _, _ => by simp [pR, PyData.showable]
  | .int i, h => by simpa [pR, PyData.showable, rk] using h
  | .str _, _ => by simp [pR, PyData.showable]
  | .tup xs, h => by simp only [pR, PyData.showable]; exact rkL_sh xs (by simpa [rk] using h)
  | .fl xs, h => by simp only [pR, PyData.showable]; exact rkL_sh xs (by simpa [rk] using h)
  | .sl xs, h => by simp only [pR, PyData.showable]; exact rkL_sh xs (by simpa [rk] using h)
  | .ob _ _ _, h => by simp [rk] at h
  | .emp, h => by simp [rk] at h
  | .ref _, h => by simp [rk] at h
  | .ex _, h => by simp [rk] at h
  | .exf _ _ _, h => by simp [rk] at h
  | .fn _, h => by simp [rk] at h
  | .lam _ _ _ _ _, h => by simp [rk] at h
theorem rkL_sh : ∀ d : List D, rkL d = true → PyData.showableAll (pRL d) = true
  | [], _ => by simp [pRL, PyData.showableAll]
  | x :: xs, h => by
    simp only [rkL, Bool.and_eq_true] at h
    simp only [pRL, PyData.showableAll, rk_sh x h.1, rkL_sh xs h.2, Bool.and_self]
end
theorem rk_show {d : D} {p : PyData} (h : rk d = true) (e : pR d = p) : p.showable = true := by rw [← e]; exact rk_sh d h
theorem b_repr {X : Cx} {Z : Zx} {k : Nat} (hg : X.A.guards = some []) (hr : Room k X.A) : CallR3 X Z (.builtin "repr") bRepr := by
  refine ⟨fun vs H Q => ∃ G d v, vs = [v] ∧ Dv (Cxk X Z) G H d v ∧ rk d = true ∧ (pR d).depth ≤ 64 ∧ rz d ≤ sizeLine ∧ Q (.str (pR d).shown) H, fun pins s σ H xs us Q I r h => ?_, fun G H xs vs Q3 Q g r h q => ?_⟩
  · obtain ⟨G, d, v, rfl, rd, hk, hd, hz, q⟩ := h
    obtain ⟨u, rfl, ru⟩ := vals1 r
    obtain ⟨⟨as, ra⟩, _⟩ := Dv.rp I rd ru hk
    have nd := (rk_noDict _).1 d (Nat.le_refl _)
    have hun := hr.un
    generalize hp : pR d = p at *
    unfold rz at hz
    rw [hp] at hz
    cases rd with
    | non => cases ru; simp only [pR] at hp; subst hp; simp only [PyData.shown] at q; exact PySem.P.repr_of_none ⟨.str _, H, I.tok _, ⟨_, rfl⟩, q⟩
    | bl b => cases ru; simp only [pR] at hp; subst hp; simp only [PyData.shown] at q; exact PySem.P.repr_of_bool ⟨.str _, H, I.tok _, ⟨_, rfl⟩, q⟩
    | int i => obtain ⟨t, rfl⟩ := ru; simp only [pR] at hp; subst hp; simp only [PyData.shown] at q; exact PySem.P.repr_of_int (by simpa [rk] using hk) ⟨.str _, H, I.tok _, ⟨_, rfl⟩, q⟩
    | str x => obtain ⟨t, rfl⟩ := ru; simp only [pR] at hp; subst hp; simp only [PyData.shown] at q hz; exact PySem.P.repr_of_str ⟨.str _, H, I.tok _, ⟨_, rfl⟩, q⟩ hz
    | tup st r1 =>
      cases ru
      exact repr_of_reads' ra (rk_show hk hp) (PyData.noDict_hsm nd) hg (by omega) (fun _ _ e => e) (fun h' u tk kk => ⟨.str _, H, I.kept kk, ⟨_, rfl⟩, q⟩) hz
    | fl st n r1 =>
      cases ru
      exact repr_of_reads' ra (rk_show hk hp) (PyData.noDict_hsm nd) hg (by omega) (fun _ _ e => e) (fun h' u tk kk => ⟨.str _, H, I.kept kk, ⟨_, rfl⟩, q⟩) hz
    | sl st r1 =>
      cases ru
      exact repr_of_reads' ra (rk_show hk hp) (PyData.noDict_hsm nd) hg (by omega) (fun _ _ e => e) (fun h' u tk kk => ⟨.str _, H, I.kept kk, ⟨_, rfl⟩, q⟩) hz
    | _ => simp [rk] at hk
  · unfold bRepr at h
    split at h
    · rename_i x
      obtain ⟨h1, h2, h3, h4⟩ := h
      cases r with
      | cons r1 r2 =>
      cases r2
      exact ⟨G, x, _, rfl, r1, h1, h2, h3, q_of q g h4 (.str _)⟩
    · exact h.elim
end L3
namespace L3
open PySem PySem.Spec PyProof.Rows L2
open He (ga)
/-! ### defs whose calls know that nothing is being shown -/
structure FnOkG (P : Program) (w : World) (K : PySem.W.Frag) (mg : Str → Option Value) (base : Heap) (k : Nat) (f : Addr) (fd : FuncData) (ps : List Str) (sp : Sp) : Prop where
  ln : ∀ xs H Q E, sp xs H Q E → xs.length = ps.length
  go : ∀ (A : Around) (oe : List Env) (s : Shared) (H : Hp) (ar : Args) (us : List Value) (xs : List V) (Q : VK) (E : XK), Room k A → A.guards = some [] → Env0 P w K mg base A oe s H → BindsTo s fd ar (ps.zip us) → Vals xs us → sp xs H Q E →
    codeAny (model P w) A (.call (.ref f) ar) (CR (L2.CX P w) oe P w H s Q E) s
section
variable {P : Program} {w : World} {K : PySem.W.Frag} {mg : Str → Option Value} {base : Heap}
theorem okG_of {x qual : Str} {params : Arguments} {body : List Stmt} {scope : Scope} {f : Addr} {fd : FuncData} {N ps : List Str} {k : Nat} {sp : Sp} (F : FunD K x qual params body scope [] [] f fd) (S : FnScope N ps scope)
    (ln : ∀ xs H Q E, sp xs H Q E → xs.length = ps.length)
    (hb : ∀ (cdv : Value) (A : Around) (oe : List Env) (s : Shared) (H : Hp) (xs : List V) (Q : VK) (E : XK), Room k (A.deeper (envOfC qual scope s.heap.objs.size f cdv)) → A.guards = some [] → sp xs H Q E →
      ∃ t, PSs (cxOf (L2.CX P w) P w K mg base N qual scope f cdv A oe s H E) body t ∧ t { nx := fun _ H1 => Q .non H1, rt := Q } (L2.start N xs) H) : FnOkG P w K mg base (k + 1) f fd ps sp := by
  obtain ⟨oc, od, dV, kV, doc, pm, an, cdv, ct, osl, rfl, lk, hcd, _, _⟩ := F.ex
  refine ⟨ln, fun A oe s H ar us xs Q E room hg e0 bd rv hs => ?_⟩
  have len := ln _ _ _ _ hs
  have up : ∀ b o, base.get? b = some o → s.heap.get? b = some o := fun b o e => (e0.bs b o e).1
  have kin := e0.mod.kin.keeps up
  have nol := e0.mod.nolimit.keeps up
  have par : ∀ y ∈ ps.zip us, scope.names.lookup y.1 = some .local ∨ (scope.names.lookup y.1 = some .cell ∧ ((cellsFrom (s.heap.objs.size + 1) scope.names []).lookup y.1).isSome = true) := fun y hy => by
    obtain ⟨n, v⟩ := y
    rcases S.par n (List.of_mem_zip hy).1 with z | z
    · exact Or.inl z
    · exact Or.inr ⟨z, PySem.W.cellsFrom_some _ _ _ (Or.inl z)⟩
  refine codeAny_call_function room.depth (kin _ _ lk) rfl S.co S.gen rfl (PySem.W.codeRec_of kin hcd) (bd _ _ _ _ ?_)
  refine wpAny_newFunctionEnv_cells S.kind par fun ev hev s1 z => ?_
  subst hev
  refine ⟨nol.keeps z.toInCall.keep, codeAny_func ?_⟩
  obtain ⟨t, ht, hq⟩ := hb cdv A oe s H xs Q E (room.deeper _) hg hs
  have J : Inv (cxOf (L2.CX P w) P w K mg base N qual scope f cdv A oe s H E) [] (L2.start N xs) H s1 := inv_start S room.hd e0 len rv z
  refine wpAny_mono (ht.run [] s1 _ H _ J hq) (fun fl s2 h2 => ?_) fun _ _ h2 => h2
  cases fl with
  | ret u => obtain ⟨v, σ1, H1, J1, r1, q1⟩ := h2; exact ⟨v, H1, J1.os, J1.bare, J1.base, J1.hok, r1, q1⟩
  | next => obtain ⟨σ1, H1, J1, q1⟩ := h2; exact ⟨V.non, H1, J1.os, J1.bare, J1.base, J1.hok, rfl, q1⟩
  | brk => obtain ⟨_, _, _, z1⟩ := h2; exact z1.elim
  | cont => obtain ⟨_, _, _, z1⟩ := h2; exact z1.elim
/-- THE RULE for such a def -/
theorem fn3G_of {x qual : Str} {params : Arguments} {body : List Stmt} {scope : Scope} {f : Addr} {fd : FuncData} {N ps : List Str} {k : Nat} {sp : Sp3}
    (F : FunD K x qual params body scope [] [] f fd) (S : FnScope N ps scope) (len : ∀ ds G Q E, sp ds G Q E → ds.length = ps.length)
    (hbody : ∃ t : TS3, (∀ (cdv : Value) (A : Around) (outer : List Env) (s : Shared) (H : Hp) (E : XK), Room k (A.deeper (envOfC qual scope s.heap.objs.size f cdv)) → A.guards = some [] →
        PSs3 (cxOf (L2.CX P w) P w K mg base N qual scope f cdv A outer s H E) Z0 (fun c d _ H' => E c d H') body t) ∧
      ∀ ds G Q E, sp ds G Q E → t (fnEnds Q E) (start3 N ds) G) : FnOkG P w K mg base (k + 1) f fd ps (liftSp ⟨K, Z0⟩ sp) := by
  obtain ⟨t, hb, hv⟩ := hbody
  refine okG_of F S (fun vs H Q E h => ?_) (fun cdv A outer s H vs Q E hr hg h => ?_)
  · obtain ⟨ds, G, Q3, E3, g, r, h, _⟩ := h
    rw [← r.length]
    exact len _ _ _ _ h
  · refine ⟨_, hb cdv A outer s H E hr hg, ?_⟩
    obtain ⟨ds, G, Q3, E3, g, r, h, q, x⟩ := h
    refine ⟨start3 N ds, G, fnEnds Q3 E3, g, start_rs N r, hv ds G Q3 E3 h, ⟨fun σ3 G1 σ H1 ⟨G2, s2, h1⟩ g1 r1 k1 => ?_, fun d G1 v H1 ⟨G2, s2, h1⟩ g1 r1 k1 => ?_, fun _ _ _ _ z => z.elim, fun _ _ _ _ z => z.elim, fun x3 σ3 G1 c d σ H1 ⟨G2, s2, h1⟩ g1 r1 xv k1 => ?_⟩⟩
    · exact q _ _ _ _ h1 (g1.sub s2) .non (k1.trans (Keep.sub s2))
    · exact q _ _ _ _ h1 (g1.sub s2) (r1.keep g1 (Keep.sub s2)) (k1.trans (Keep.sub s2))
    · exact x _ _ _ _ _ h1 (g1.sub s2) (xv.sub g1 s2) (k1.trans (Keep.sub s2))
structure Fn3G (P : Program) (w : World) (K : PySem.W.Frag) (mg : Str → Option Value) (base : Heap) (x : Str) (j : Nat) (sp : Sp3) : Prop where
  ex : ∃ (f : Addr) (fd : FuncData) (ps : List Str), mg x = some (.ref f) ∧ PySem.W.keepIn K (.ref f) = true ∧ Binds K fd ps [] ∧ FnOkG P w K mg base j f fd ps (liftSp ⟨K, Z0⟩ sp)
theorem fn3G {x : Str} {params : Arguments} {body : List Stmt} {scope : Scope} {f : Addr} {fd : FuncData} {N ps : List Str} {k : Nat} {sp : Sp3} (hm : mg x = some (.ref f))
    (F : FunD K x x params body scope [] [] f fd) (S : FnScope N ps scope) (hb : Binds K fd ps []) (len : ∀ ds G Q E, sp ds G Q E → ds.length = ps.length)
    (hbody : ∃ t : TS3, (∀ (cdv : Value) (A : Around) (outer : List Env) (s : Shared) (H : Hp) (E : XK), Room k (A.deeper (envOfC x scope s.heap.objs.size f cdv)) → A.guards = some [] →
        PSs3 (cxOf (L2.CX P w) P w K mg base N x scope f cdv A outer s H E) Z0 (fun c d _ H' => E c d H') body t) ∧
      ∀ ds G Q E, sp ds G Q E → t (fnEnds Q E) (start3 N ds) G) : Fn3G P w K mg base x (k + 1) sp := ⟨f, fd, ps, hm, F.kp, hb, fn3G_of F S len hbody⟩
end
section
variable {X : Cx} {W : WX} {e : Expr} {es : List Expr} {ta : TA3} {pos p : Pos} {x : Str}
theorem okG_call {f : Addr} {fd : FuncData} {ps : List Str} {sp : Sp} {k : Nat} {t : TA} {E : St → XK} (F : FnOkG X.prog X.w X.K X.mg X.base k f fd ps sp) (hr : Room k X.A) (hg : X.A.guards = some []) (gl : Gl X x) (hm : X.mg x = some (.ref f)) (hk : PySem.W.keepIn X.K (.ref f) = true) (hb : Binds X.K fd ps [])
    (px : ∀ σ, PassesAt (L2.CX X.prog X.w) X σ (E σ)) (ha : PA X (e :: es) t) (hd : (x == ("__debug__" : Str)) = false) (he : starEach (e :: es) X.env = (false, eval e X.env) :: starEach es X.env) (hpl : (backTo pos (starEach es X.env)).any (·.1) = false) :
    PE X (.Call (.Name x p) (e :: es) [] pos) (tCallS sp E t) := by
  refine ⟨fun pins s σ H Q I h => wpAny_Call_Name_kw (ld_glob I gl hm ?_ hd)⟩
  refine PySem.W.callWith_K (h₀ := X.base) I.ok.mod.kin hk (thn (ha.run pos pins s σ H _ I h) fun us s1 ⟨xs, H1, I1, r, q⟩ => ⟨I1.kIn, ?_⟩) he hpl
  have hl : us.length = ps.length := by rw [← r.length]; exact F.ln _ _ _ _ q
  have bd := hb s1 us I1.kIn (by simpa using hl)
  refine wpAny_call (codeAny_mono (F.go X.A X.stack s1 H1 ⟨us, []⟩ us xs Q (E σ) hr hg I1.env0 (by simpa using bd) r q) fun z s2 hq => ?_)
  cases z with
  | error er => exact px σ pins H1 s1 er s2 I1 hq
  | ok fl =>
    cases fl with
    | ret u => exact I1.after hq
    | next => exact hq.elim
    | brk => exact hq.elim
    | cont => exact hq.elim
theorem callG_ {j k : Nat} {sp : Sp3} (F : Fn3G X.prog X.w X.K X.mg X.base x j sp) (hgd : X.A.guards = some []) (hr : Room k X.A) (hj : j ≤ k) (tk : Takes X W) (ha : PA3 X Z0 W (e :: es) ta) (hg : Gl X x := by rfl) (hdb : (x == ("__debug__" : Str)) = false := by decide)
    (he : starEach (e :: es) X.env = (false, eval e X.env) :: starEach es X.env := by rfl) (hpl : (backTo pos (starEach es X.env)).any (·.1) = false := by rfl) : PE3 X Z0 W (.Call (.Name x p) (e :: es) [] pos) (tcall sp ta) := by
  obtain ⟨f, fd, ps, hm, hk, hb, F⟩ := F.ex
  exact PE.imp (okG_call F (hr.mono hj) hgd hg hm hk hb (fun σ => passAt tk σ) ha hdb he hpl) call_k
end
/-! ### the end of a law whose def wants that nothing is being shown -/
section
variable {P : Program} {w : World} {K : PySem.W.Frag} {mg mb : Str → Option Value} {k : Nat} {fa a : Addr} {fd : FuncData} {x : Str} {sp : Sp} {s1 : Shared} {us : List Value} {ns : List Int}
theorem endG {H : Hp} (kin : K.In s1.heap) (hns : s1.heap.Ns mainGlobals mg) (hb : s1.heap.Ns builtinsNs mb) (hbb : ∀ y : Str, y ≠ "__name__" → mb y = bootBuiltins y) (nol : s1.heap.NoLimit) (hg : s1.gens = #[])
    (ha : s1.heap.get? a = some { cls := .type "list", data := .seq us.toArray }) (hr : Room k callerA) (F : ∀ base : Heap, FnOkG P w K mg base k fa fd [x] sp) (bd : ∀ (s : Shared) (u : Value), BindsTo s fd ⟨[u], []⟩ [(x, u)])
    (q : sp [.ref a] H (fun v _ => v = .bl true) fun _ _ _ => False) (hO : Only H) (hok : HOk P w H s1.heap) (only : ∀ b, H b ≠ none → b = a) (hK : H a ≠ none → K.lookup a = none) (hCX : ∀ e s2, L2.CX P w [] H s1 (fun _ _ _ => False) e s2 → False) :
    codeAny (model P w) callerA (.call (.ref fa) ⟨[.ref a], []⟩) (fun r s2 => r = .ok (.ret (.bool true)) ∧ OldK s1.heap s2.heap ∧ s2.os = s1.os ∧ AllBare s2.gens) s1 := by
  have at_ : ∀ {b : Addr} {o : Obj}, s1.heap.get? b = some o → H b = none → (hidT s1.heap H).get? b = some o := fun z n => hidT_get z n
  have no_ : ∀ {b : Addr} {o : Obj} {es : Array DictEntry} {ep : Nat}, s1.heap.get? b = some o → o.data = .dict es ep → H b = none := fun {b o es ep} z d => by
    by_cases e : H b = none
    · exact e
    · obtain rfl := only b e
      rw [ha] at z
      cases z
      cases (show Data.seq us.toArray _ = Data.dict es ep from d)
  have ns_ : ∀ {b : Addr} {m : Str → Option Value}, s1.heap.Ns b m → (hidT s1.heap H).Ns b m := fun {b m} z => by
    obtain ⟨o, es, ep, z1, z2, z3⟩ := z
    exact ⟨o, es, ep, at_ z1 (no_ z1 z2), z2, z3⟩
  have kh : K.In (hidT s1.heap H) := fun b o z => at_ (kin b o z) (by
    by_cases e : H b = none
    · exact e
    · obtain rfl := only b e
      rw [hK e] at z
      cases z)
  obtain ⟨ml, l1, l2⟩ := nol
  have M : L2.Mod K mg (hidT s1.heap H) := ⟨kh, ns_ hns, ⟨mb, ns_ hb, hbb⟩, ⟨ml, ns_ l1, l2⟩⟩
  have e0 : Env0 P w K mg (hidT s1.heap H) callerA [] s1 H := ⟨rfl, M, fun _ _ z => of_hidT z, Nat.le_of_eq (hidT_size _ _), trivial, fun _ z => (by cases z), hok, .of_eq hg⟩
  refine codeAny_mono ((F _).go callerA [] s1 H ⟨[.ref a], []⟩ [.ref a] [.ref a] _ _ hr rfl e0 (bd s1 (.ref a)) (.cons rfl .nil) q) fun r s2 h => ?_
  cases r with
  | error e => exact (hCX e s2 h).elim
  | ok fl =>
    cases fl with
    | next => exact h.elim
    | brk => exact h.elim
    | cont => exact h.elim
    | ret u =>
      obtain ⟨v, H2, os, bare, un, ok2, rv, q2⟩ := h
      obtain rfl : v = .bl true := q2
      obtain rfl : u = Value.bool true := rv
      refine ⟨rfl, OldK.of_keep fun b o z => ?_, os, bare⟩
      rcases hO b with e | ⟨ob, xs, e⟩
      · exact un.keep b o z e (fun y => by cases y) (fun y => by cases y)
      · have c1 := (hok b _ e).1
        have c2 := (ok2 b _ (un.frzs b ob _ e)).1
        exact (show some ob = some o from c1.symm.trans z) ▸ c2
end
theorem walk3G {l : PySem.W.OpenLaw} {n k : Nat} {q : Program} {loose : List Str} {XP : (Str → Option Value) → Heap → Prop} {YP : World → Heap → Prop} {d : DefRec} {x : Str} {sp : Sp3}
    (hn : l.most = some n) (hn2 : n ≤ sizeLine) (hdf : d.params.defaults = []) (hr : Room k callerA)
    (F : ∀ (w : World) (mg : Str → Option Value) (fa : Addr) (h : Heap), YP w h → h.Ns mainGlobals mg → mg d.name = some (.ref fa) →
      ∃ (K : PySem.W.Frag) (fd : FuncData), K.In h ∧ (∀ (s : Shared) (u : Value), BindsTo s fd ⟨[u], []⟩ [(x, u)]) ∧ ∀ base : Heap, FnOkG l.prog w K mg base k fa fd [x] (liftSp ⟨K, Z0⟩ sp))
    (hsp : ∀ (ns : List Int) (Q : QK) (E : EK), ns.length ≤ n → (∀ G, Q (.bl true) G) → sp [.sl (ns.map D.int)] (fun _ => none) Q E) :
    PySem.W.WalkO q loose XP YP l.row.toRowW d [] (fun f vs => PySem.call f vs) := by
  refine Att.attach_call hn hdf fun w s₀ s1 mg mb fa o pm cd doc a us ns G Y ho hd hcd hmg hobj hints hlen hg => ?_
  obtain ⟨K, fd, KX, bd, hF⟩ := F w mg fa _ Y G.T.g hmg
  have rv := vals_ints hints
  have lv := hints.length
  have hz : ns.length ≤ sizeLine := Nat.le_trans hlen hn2
  have fin : ∀ H : Hp, SqL K H a (ns.map V.int) → liftSp ⟨K, Z0⟩ sp [.ref a] H (fun v _ => v = .bl true) fun _ _ _ => False := fun H hS =>
    ⟨[.sl (ns.map D.int)], fun _ => none, fun d _ => d = .bl true, fun _ _ => False, fun _ _ z => (by cases z), .cons (.sl (SqF.of (fun _ _ z => by cases z) hS rfl) (dvl_ints ns)) .nil, hsp ns _ _ hlen fun _ => rfl,
      fun d G2 v H2 h g r k => by subst h; cases r; rfl, fun _ _ _ _ _ z => z.elim⟩
  have cx : ∀ (H : Hp) e s2, L2.CX l.prog w [] H s1 (fun _ _ _ => False) e s2 → False := fun H e s2 hx => by
    obtain ⟨_, _, _, _, _, _, _, _, _, _, _, _, z⟩ := hx
    exact z
  by_cases hk : K.lookup a = none
  · refine endG (H := fun b => if b = a then some (.frz { cls := .type "list", data := .seq us.toArray } (.lst (ns.map V.int))) else none) KX G.T.g G.T.b G.T.builtins G.T.nolimit hg hobj hr hF bd (fin _ (.inl (.inr ⟨_, if_pos rfl⟩))) (fun b => ?_) (fun b u z => ?_) (fun b z => ?_) (fun _ => hk) (cx _)
    · by_cases e : b = a
      · exact .inr ⟨_, _, if_pos e⟩
      · exact .inl (if_neg e)
    · dsimp only at z
      by_cases e : b = a
      · rw [if_pos e] at z
        subst e
        cases z
        exact ⟨hobj, by simpa using hz, us, _, rv, hobj⟩
      · rw [if_neg e] at z
        cases z
    · by_cases e : b = a
      · exact e
      · exact absurd (if_neg e) z
  · obtain ⟨ob, e⟩ := Option.ne_none_iff_exists'.mp hk
    have e2 := KX a ob e
    rw [hobj] at e2
    cases e2
    exact endG (H := fun _ => none) KX G.T.g G.T.b G.T.builtins G.T.nolimit hg hobj hr hF bd (fin _ (.inr ⟨_, us.toArray, _, e, rfl, rfl, rfl, by rw [List.size_toArray, lv]; exact hz, by simpa using rv⟩)) (fun _ => .inl rfl) (fun b u z => by cases z) (fun b z => absurd rfl z) (fun z => absurd rfl z) (cx _)
end L3
namespace L3
open PySem PySem.Spec PyProof.Rows L2
open He (ga)
/-! ### texts: walked sign by sign, a sign in a text, sep.join -/
/-- the signs of a text -/
def sgn (z : Str) : List D := z.cps.toList.map fun c => D.str ⟨#[c]⟩
theorem sgn_len (z : Str) : (sgn z).length = z.cps.size := by unfold sgn; rw [List.length_map, Array.length_toList]
theorem itr_str {K : K3} {G : Gp} {H : Hp} (z : Str) : ItR K G H (Its z) (sgn z) (fun _ => True) := by
  refine ⟨fun G1 H1 k g1 gd => ?_, fun i G1 H1 hi k g1 gd => ?_, fun i x v G1 H1 H2 hi k g1 gd y => ?_⟩
  · show z.cps.size ≤ _
    rw [sgn_len]; exact Nat.le_refl _
  · show i < z.cps.size
    rw [sgn_len] at hi; exact hi
  · obtain ⟨rfl, c, ec, rfl⟩ := y
    refine ⟨g1, Keep.refl, ?_⟩
    unfold sgn at hi
    rw [List.getElem?_map, Array.getElem?_toList, ec] at hi
    cases hi
    exact .str _
/-- for .. in a text -/
def istr (te : TE3) : TI3 := fun σ G R E => te σ G (fun d G1 => ∃ z, d = .str z ∧ R (sgn z) (fun _ => True) G1) E
section
variable {X : Cx} {Z : Zx} {W : WX} {tg e : Expr} {te : TE3}
theorem istr_ (h : PE3 X Z W e te) : PI3 X Z W tg e (istr te) := PI.imp (pi_str h) fun σ H R h => by
  obtain ⟨σ3, G, R3, E3, g, rs, h, q, x⟩ := h
  refine ⟨σ3, G, _, E3, g, rs, h, fun d G1 v H1 ⟨z, e, h1⟩ g1 r1 k1 => ?_, x⟩
  subst e
  cases r1
  exact ⟨z, rfl, q _ _ _ _ _ h1 g1 k1 (itr_str z)⟩
end
section
variable {X : Cx} {Z : Zx}
/-- in a sequence of plain things, or a sign in a text -/
def inA3 (neg : Bool) : Q2 := fun x y G Q => in3 neg x y G Q ∨ ∃ (c : Nat) (z : Str), x = .str ⟨#[c]⟩ ∧ y = .str z ∧ Q (.bl (if neg then !decide (c ∈ z.cps.toList) else decide (c ∈ z.cps.toList))) G
theorem o_inA : OpR3 X Z (compareOp .In) (inA3 false) := by
  obtain ⟨r1, h1, k1⟩ := o_in (X := X) (Z := Z)
  refine ⟨_, h1.or op_in_sign, fun G H x y v u Q3 Q g rx ry h q => ?_⟩
  rcases h with h | ⟨c, z, rfl, rfl, h⟩
  · exact .inl (k1 G H x y v u Q3 Q g rx ry h q)
  · cases rx; cases ry
    exact .inr ⟨c, z, rfl, rfl, q_of q g h (.bl _)⟩
theorem o_notinA : OpR3 X Z (compareOp .NotIn) (inA3 true) := by
  obtain ⟨r1, h1, k1⟩ := o_notin (X := X) (Z := Z)
  refine ⟨_, h1.or op_notIn_sign, fun G H x y v u Q3 Q g rx ry h q => ?_⟩
  rcases h with h | ⟨c, z, rfl, rfl, h⟩
  · exact .inl (k1 G H x y v u Q3 Q g rx ry h q)
  · cases rx; cases ry
    exact .inr ⟨c, z, rfl, rfl, q_of q g h (.bl _)⟩
theorem strs_ok {K : K3} {G : Gp} {H : Hp} : ∀ {ys : List Str} {vs : List V}, DvL K G H (ys.map D.str) vs → vs = ys.map V.str
  | [], _, h => by cases h; rfl
  | y :: ys, _, h => by
    rw [List.map_cons] at h
    cases h with
    | cons r t =>
      cases r
      rw [strs_ok t]; rfl
/-- sep.join(a list | a tuple of texts) -/
def mJoin : QM := fun x ds G Q => ∃ (a : Str) (l : D) (ys : List Str), x = .str a ∧ ds = [l] ∧ sq G l = some (ys.map D.str) ∧ (ys.map (·.length)).sum + ys.length * a.length ≤ 16777216 ∧ Q (.str (Txt.join a ys)) G
theorem me_join : MtR3 X Z "str.join" mJoin := by
  refine ⟨_, mt_join, fun G H x v xs vs Q3 Q g rx r h q => ?_⟩
  obtain ⟨a, l, ys, rfl, rfl, e, hz, h⟩ := h
  cases rx
  cases r with
  | cons r1 r2 =>
  cases r2
  obtain ⟨p, ws, rfl, s, rl⟩ := sq_ok g r1 e
  have := strs_ok rl
  subst this
  exact ⟨a, p, ys, rfl, rfl, s, hz, q_of q g h (.str _)⟩
/-- int(a text of figures) -/
def bIntS : QL := fun ds G Q => ∃ (a : Str) (n : Int), ds = [.str a] ∧ PySem.intText? a = some n ∧ a.length ≤ 640 ∧ Q (.int n) G
theorem b_intS : CallR3 X Z (.type "int") bIntS := by
  refine ⟨_, call_int_str, fun G H xs vs Q3 Q g r h q => ?_⟩
  obtain ⟨a, n, rfl, e, l, h⟩ := h
  cases r with
  | cons r1 r2 =>
  cases r1; cases r2
  exact ⟨a, n, rfl, e, l, q_of q g h (.int _)⟩
end
end L3
namespace L3
open PySem PySem.Spec PyProof.Rows L2
open He (ga)
/-! ### a text, many times -/
def repS (a : Str) (k : Nat) : Str := ⟨((List.replicate k a.cps.toList).flatten).toArray⟩
def rRepS : R2 := fun x y H Q => ∃ (a : Str) (k : Nat), x = .str a ∧ y = .int (k : Nat) ∧ 2 ≤ k ∧ 1 ≤ a.length ∧ a.length * k ≤ 1000000 ∧ Q (.str (repS a k)) H
theorem repS_foot (c : Array Nat) : ∀ (k : Nat) (b : Array Nat), (List.replicate k c).foldl (· ++ ·) b = b ++ ((List.replicate k c.toList).flatten).toArray
  | 0, b => by simp
  | k + 1, b => by
    rw [List.replicate_succ, List.foldl_cons, repS_foot c k, List.replicate_succ, List.flatten_cons]
    apply Array.toList_inj.mp
    simp [List.append_assoc]
theorem repS_eq (a : Str) (k : Nat) : (⟨(List.replicate k a.cps).foldl (· ++ ·) #[]⟩ : Str) = repS a k := by
  unfold repS
  rw [repS_foot]
  congr 1
  simp
theorem repS_len (a : Str) (k : Nat) : (repS a k).length = k * a.length := by
  unfold repS Str.length
  simp [List.length_flatten, List.map_replicate, List.sum_replicate_nat]
theorem op_repS {X : Cx} : OpR X (binaryOp .Mult) rRepS := by
  intro pins s σ H x y v w Q I rx ry h
  obtain ⟨a, k, rfl, rfl, k2, a1, ak, q⟩ := h
  obtain ⟨t, rfl⟩ := rx
  obtain ⟨u, rfl⟩ := ry
  have kk : k ≤ 1000000 := Nat.le_trans (Nat.le_mul_of_pos_left k a1) ak
  have hb : (((k : Nat) : Int) == 1 || a.length == 0) = false := by
    rw [beq_false_of_ne (show ((k : Nat) : Int) ≠ 1 by omega), beq_false_of_ne (show a.length ≠ 0 by omega)]; rfl
  have aa : a.length ≤ 1000000 := Nat.le_trans (Nat.le_mul_of_pos_right _ (by omega)) ak
  refine P.mul_str ?_ (fun _ _ => ?_) (fun _ _ => ?_) ?_
  · rw [decide_eq_false (show ¬ ((k : Nat) : Int) < -(2 ^ 63) by omega), decide_eq_false (show ¬ ((k : Nat) : Int) ≥ 2 ^ 63 by omega)]; rfl
  · intro z
    have h1 : (1000001 : Int) ≤ (2 ^ 63 - 1) / ((k : Nat) : Int) := by
      rw [Int.le_ediv_iff_mul_le (by omega)]
      omega
    omega
  · unfold Builtin.Str.tooLong
    rw [Int.toNat_natCast]
    exact decide_eq_false (by have : sizeLine = 16777216 := rfl; omega)
  · rw [if_neg (by omega), hb]
    rw [if_neg (by decide), Int.toNat_natCast, repS_eq]
    refine ⟨?_, ⟨.str (repS a k), H, I.tok _, ⟨_, rfl⟩, q⟩⟩
    have : sizeLine = 16777216 := rfl
    have l := repS_len a k
    rw [Nat.mul_comm] at ak
    omega
def mul3S : Q2 := fun x y G Q => (∃ (a : Str) (k : Nat), x = .str a ∧ y = .int (k : Nat) ∧ 2 ≤ k ∧ 1 ≤ a.length ∧ a.length * k ≤ 1000000 ∧ Q (.str (repS a k)) G) ∨ mul3 false x y G Q
theorem o_mulS {X : Cx} {Z : Zx} : OpR3 X Z (binaryOp .Mult) mul3S := by
  obtain ⟨r, h, kk⟩ := o_mul (X := X) (Z := Z) false
  refine ⟨_, op_repS.or h, fun G H x y v u Q3 Q g rx ry h q => ?_⟩
  rcases h with ⟨a, k, rfl, rfl, k2, a1, ak, h⟩ | h
  · cases rx; cases ry
    exact .inl ⟨a, k, rfl, rfl, k2, a1, ak, q_of q g h (.str _)⟩
  · exact .inr (kk G H x y v u Q3 Q g rx ry h q)
/-- str of an integer, or of a text -/
def bStrA : QL := fun ds G Q => (∃ a : Str, ds = [.str a] ∧ Q (.str a) G) ∨ bStr ds G Q
theorem b_strA {X : Cx} {Z : Zx} : CallR3 X Z (.type "str") bStrA := by
  obtain ⟨r, h, k⟩ := b_str (X := X) (Z := Z)
  refine ⟨_, SkE.call_str_str.or h, fun G H xs vs Q3 Q g rx hh q => ?_⟩
  rcases hh with ⟨a, rfl, hh⟩ | hh
  · cases rx with
    | cons r1 r2 =>
      cases r1; cases r2
      exact .inl ⟨a, rfl, q_of q g hh (.str _)⟩
  · exact .inr (k G H xs vs Q3 Q g rx hh q)
end L3
namespace L3
open PySem PySem.Spec PyProof.Rows L2
open He (ga)
/-! ### list(a text) -/
theorem call_listS {X : Cx} (hc : X.calm = true) : CallR X (.type "list") (fun xs H Q => ∃ z : Str, xs = [.str z] ∧ z.length ≤ sizeLine ∧ ∀ p, H p = none → Q (.ref p) (upd H p (.lst (z.cps.toList.map fun c => V.str ⟨#[c]⟩)))) := by
  intro pins s σ H xs us Q I r h
  obtain ⟨z, rfl, hz, q⟩ := h
  obtain ⟨u, rfl, t, rfl⟩ := vals1 r
  refine call_list_str (I.ok.hd hc) z t (fun h' tk acc' c' hkeep hS hacc => ?_) hz
  refine ⟨.ref s.heap.objs.size, upd H s.heap.objs.size (.lst (z.cps.toList.map fun c => V.str ⟨#[c]⟩)), I.laid hkeep (Nat.le_refl _) (show ObjOk X.prog X.w _ _ _ (.lst (z.cps.toList.map fun c => V.str ⟨#[c]⟩)) from ⟨?_, acc'.toList, c', ?_, ?_⟩), rfl, q _ (I.hok.fresh (Nat.le_refl _))⟩
  · rw [List.length_map, Array.length_toList]; exact hz
  · have el : acc'.toList.length = acc'.size := by simp
    refine vals_of_at (by rw [List.length_map, el, hacc.1, Array.length_toList]) fun j x w h1 h2 => ?_
    obtain ⟨c, u, hky, hi⟩ := hacc.2 j w (by rw [← Array.getElem?_toList]; exact h2)
    rw [List.getElem?_map, Array.getElem?_toList, hky] at h1
    cases h1
    exact ⟨u, hi⟩
  · rw [Array.toArray_toList]; exact hS
theorem sgn_dv {K : K3} {G : Gp} {H : Hp} : ∀ l : List Nat, DvL K G H (l.map fun c => D.str ⟨#[c]⟩) (l.map fun c => V.str ⟨#[c]⟩)
  | [] => .nil
  | c :: l => .cons (.str _) (sgn_dv l)
def bListS (m : Bool) : QL := fun ds G Q => ∃ z : Str, ds = [.str z] ∧ z.length ≤ sizeLine ∧ outL m (sgn z) G Q
theorem b_listS {X : Cx} {Z : Zx} (m : Bool) (hc : X.calm = true) : CallR3 X Z (.type "list") (bListS m) := by
  refine ⟨_, call_listS hc, fun G H xs vs Q3 Q g r h q => ?_⟩
  obtain ⟨z, rfl, hz, h⟩ := h
  cases r with
  | cons r1 r2 =>
    cases r1; cases r2
    exact ⟨z, rfl, hz, fun l n => outL_ok m g (sgn_dv _) q h n⟩
/-! ### {"a": None, ..}[e]: a dict of flat constants that is asked once -/
def cV : D → V
  | .bl b => .bl b
  | .int i => .int i
  | .str s => .str s
  | _ => .non
theorem cV_ok {K : K3} {G : Gp} {H : Hp} {d : D} (h : flD d = true) : Dv K G H d (cV d) := by
  cases d <;> first | exact .non | exact .bl _ | exact .int _ | exact .str _ | cases h
def cdC (kvs : List (Str × D)) : List (Key × V) := kvs.map fun p => (Sum.inr p.1, cV p.2)
def tcdixC (kvs : List (Str × D)) (te : TE3) : TE3 := fun σ G Q E => te σ G (fun y G1 => ∃ s d, y = .str s ∧ valV (mergeK [] (cdC kvs)) (Sum.inr s) = some (cV d) ∧ flD d = true ∧ Q d G1) E
theorem tPairs_cC {σ : St} : ∀ (kvs : List (Str × D)) {H : Hp} {Q : List (V × V) → Hp → Prop}, Q ((cdC kvs).map fun kv => (kV kv.1, kv.2)) H → tPairs (kvs.map fun p => (tC (.str p.1), tC (cV p.2))) σ H Q
  | [], _, _, h => h
  | p :: r, _, _, h => tPairs_cC r h
theorem cdixC_ {X : Cx} {Z : Zx} {W : WX} {i : Expr} {te : TE3} {pos pd : Pos} {keys : List (Option Expr)} {values : List Expr} {k : Nat} (kvs : List (Str × D)) (hr : Room k X.A) (hd : PPs X pd keys values (kvs.map fun p => (tC (.str p.1), tC (cV p.2)))) (hi : PE3 X Z W i te) (hs : NoSl i := by trivial)
    (hall : keys.all (·.isSome) = true := by rfl) (hl : keys.length = values.length := by rfl) (h0 : keys ≠ [] := by simp) (h15 : keys.length ≤ 15 := by decide) (k15 : kvs.length ≤ 15 := by decide) : PE3 X Z W (.Subscript (.Dict keys values pd) i pos) (tcdixC kvs te) :=
  PE.imp (pe_dget (by have := hr.units; omega) (pe_disp hd hall hl h0 h15) hi hs) fun σ H Q hq => by
  obtain ⟨σ3, G, Q3, E3, g, rs, h, q, x⟩ := hq
  intro p n
  refine tPairs_cC kvs ⟨upd_same, cdC kvs, rfl, by unfold cdC; rw [List.length_map]; exact k15, ?_⟩
  rw [upd_upd]
  have kp : Keep G H G (upd H p (.dK (mergeK [] (cdC kvs)))) := Keep.new n
  refine ⟨σ3, G, _, E3, g.new n, rs.keep g kp, h, fun d G1 v H1 ⟨s, m, e, l, fl, h1⟩ g1 r1 k1 => ?_, x.keep kp⟩
  subst e
  cases r1
  have gp : G p = none := g.free n
  obtain ⟨hp, _⟩ := k1 p _ upd_same gp
  exact ⟨p, cV m, rfl, by rw [← l]; exact DGet.k (k := Sum.inr s) hp, q _ _ _ _ h1 g1 (cV_ok fl) (kp.trans k1)⟩
end L3
namespace C3
open PySem PySem.Spec PyProof.Rows L2 L3
open He (ga)

abbrev OC : List Str := [(Str.ofString "Forest")]
def top (i : Nat) : Stmt := PySem.Challenge.pw_cutlinked_k35_whole_things_written_and_r.main.body.getD i (.Pass ⟨0, 0, 0, 0⟩)
abbrev s_comes_to_none : Stmt := top 12
abbrev N_comes_to_none : List Str := [(Str.ofString "parents"), (Str.ofString "house"), (Str.ofString "here"), (Str.ofString "turn")]
abbrev s_is_integer : Stmt := top 7
abbrev N_is_integer : List Str := [(Str.ofString "thing")]
abbrev s_is_within : Stmt := top 8
abbrev N_is_within : List Str := [(Str.ofString "thing"), (Str.ofString "least"), (Str.ofString "most")]
abbrev s_is_below : Stmt := top 9
abbrev N_is_below : List Str := [(Str.ofString "thing"), (Str.ofString "many")]
abbrev s_is_sized : Stmt := top 10
abbrev N_is_sized : List Str := [(Str.ofString "thing"), (Str.ofString "least"), (Str.ofString "most")]
abbrev s_are_parents : Stmt := top 13
abbrev N_are_parents : List Str := [(Str.ofString "thing"), (Str.ofString "house"), (Str.ofString "item")]
abbrev s_Forest___init__ : Stmt := inClass (top 14) 0
abbrev N_Forest___init__ : List Str := [(Str.ofString "self"), (Str.ofString "parents"), (Str.ofString "worths"), (Str.ofString "value")]
abbrev s__law_can_be : Stmt := top 42
abbrev N__law_can_be : List Str := [(Str.ofString "_law_thing"), (Str.ofString "_law_deep_here"), (Str.ofString "_law_is_word"), (Str.ofString "_law_one"), (Str.ofString "_law_sign")]
abbrev s__law_deep : Stmt := top 36
abbrev N__law_deep : List Str := [(Str.ofString "_law_kind"), (Str.ofString "_law_found"), (Str.ofString "_law_turn")]
abbrev s__law_draw : Stmt := top 33
abbrev N__law_draw : List Str := [(Str.ofString "_law_hand_here"), (Str.ofString "_law_many"), (Str.ofString "_law_number"), (Str.ofString "_law_cell"), (Str.ofString "_law_digit")]
abbrev s__law_some : Stmt := top 34
abbrev N__law_some : List Str := [(Str.ofString "_law_hand_here"), (Str.ofString "_law_things")]
abbrev s__law_drawn_thing : Stmt := top 41
abbrev N__law_drawn_thing : List Str := [(Str.ofString "_law_hand_here"), (Str.ofString "_law_deep_here"), (Str.ofString "_law_kind"), (Str.ofString "_law_turn")]
abbrev s_is_word : Stmt := top 25
abbrev N_is_word : List Str := [(Str.ofString "thing"), (Str.ofString "sign")]
abbrev s_can_be_written : Stmt := top 26
abbrev N_can_be_written : List Str := [(Str.ofString "thing"), (Str.ofString "left"), (Str.ofString "item")]
abbrev s_raw_written : Stmt := top 27
abbrev N_raw_written : List Str := [(Str.ofString "thing"), (Str.ofString "item")]
abbrev s_written : Stmt := top 28
abbrev N_written : List Str := [(Str.ofString "thing")]
abbrev s__law_given : Stmt := top 44
abbrev N__law_given : List Str := [(Str.ofString "_law_thing"), (Str.ofString "_law_found"), (Str.ofString "e")]
abbrev s__law_hand : Stmt := top 32
abbrev N__law_hand : List Str := [(Str.ofString "_law_script"), (Str.ofString "_law_cells"), (Str.ofString "_law_cell")]
abbrev s__law_is : Stmt := top 35
abbrev N__law_is : List Str := [(Str.ofString "_law_told_here"), (Str.ofString "_law_due"), (Str.ofString "_law_k"), (Str.ofString "_law_key")]
abbrev s__law_nested : Stmt := top 45
abbrev N__law_nested : List Str := [(Str.ofString "_law_hand_here"), (Str.ofString "_law_most"), (Str.ofString "_law_thing"), (Str.ofString "_law_turn")]
abbrev s__law_item : Stmt := top 39
abbrev N__law_item : List Str := [(Str.ofString "_law_word")]
abbrev s__law_token : Stmt := top 38
abbrev N__law_token : List Str := [(Str.ofString "_law_text"), (Str.ofString "_law_at"), (Str.ofString "_law_minus"), (Str.ofString "_law_found"), (Str.ofString "_law_sign"), (Str.ofString "_law_figures"), (Str.ofString "_law_letters")]
abbrev s__law_read : Stmt := top 40
abbrev N__law_read : List Str := [(Str.ofString "_law_text"), (Str.ofString "_law_turn"), (Str.ofString "_law_at"), (Str.ofString "_law_stack"), (Str.ofString "_law_due"), (Str.ofString "_law_sign"), (Str.ofString "_law_is_in"), (Str.ofString "_law_row"), (Str.ofString "_law_many")]
abbrev s__law_spoilt : Stmt := top 46
abbrev N__law_spoilt : List Str := [(Str.ofString "_law_hand_here"), (Str.ofString "_law_text"), (Str.ofString "_law_signs"), (Str.ofString "_law_sign"), (Str.ofString "_law_at"), (Str.ofString "_law_way")]
abbrev s_ThingReader___init__ : Stmt := inClass (top 29) 0
abbrev N_ThingReader___init__ : List Str := [(Str.ofString "self"), (Str.ofString "text")]
abbrev s_ThingReader_refuse : Stmt := inClass (top 29) 1
abbrev N_ThingReader_refuse : List Str := [(Str.ofString "self")]
abbrev s_ThingReader_next_sign : Stmt := inClass (top 29) 2
abbrev N_ThingReader_next_sign : List Str := [(Str.ofString "self")]
abbrev s_ThingReader_is_next : Stmt := inClass (top 29) 3
abbrev N_ThingReader_is_next : List Str := [(Str.ofString "self"), (Str.ofString "some")]
abbrev s_ThingReader_pass_by : Stmt := inClass (top 29) 4
abbrev N_ThingReader_pass_by : List Str := [(Str.ofString "self"), (Str.ofString "sign")]
abbrev s_ThingReader_take_all : Stmt := inClass (top 29) 5
abbrev N_ThingReader_take_all : List Str := [(Str.ofString "self"), (Str.ofString "some"), (Str.ofString "most"), (Str.ofString "begin")]
abbrev s_ThingReader_number : Stmt := inClass (top 29) 6
abbrev N_ThingReader_number : List Str := [(Str.ofString "self"), (Str.ofString "is_zero_let")]
abbrev s_ThingReader_below_or_none : Stmt := inClass (top 29) 7
abbrev N_ThingReader_below_or_none : List Str := [(Str.ofString "self")]
abbrev s_ThingReader_word : Stmt := inClass (top 29) 8
abbrev N_ThingReader_word : List Str := [(Str.ofString "self"), (Str.ofString "found")]
abbrev s_ThingReader_several : Stmt := inClass (top 29) 9
abbrev N_ThingReader_several : List Str := [(Str.ofString "self"), (Str.ofString "left"), (Str.ofString "found")]
abbrev s_ThingReader_thing : Stmt := inClass (top 29) 10
abbrev N_ThingReader_thing : List Str := [(Str.ofString "self"), (Str.ofString "left")]
abbrev s_read_thing : Stmt := top 30
abbrev N_read_thing : List Str := [(Str.ofString "text"), (Str.ofString "reader"), (Str.ofString "found")]
abbrev s__law_told : Stmt := top 43
abbrev N__law_told : List Str := [(Str.ofString "_law_text"), (Str.ofString "_law_found"), (Str.ofString "e")]
abbrev s__law_written : Stmt := top 37
abbrev N__law_written : List Str := [(Str.ofString "_law_thing"), (Str.ofString "_law_one")]
abbrev s_law : Stmt := top 47
abbrev N_law : List Str := [(Str.ofString "_law_script"), (Str.ofString "_law_hand_here"), (Str.ofString "_law_odd"), (Str.ofString "_law_turn"), (Str.ofString "_law_thing"), (Str.ofString "_law_can"), (Str.ofString "_law_text"), (Str.ofString "_law_again"), (Str.ofString "_law_wrong")]
abbrev s_BadForest___init__ : Stmt := inClass (top 2) 0
abbrev N_BadForest___init__ : List Str := [(Str.ofString "self"), (Str.ofString "part")]
abbrev s_BadThing___init__ : Stmt := inClass (top 4) 0
abbrev N_BadThing___init__ : List Str := [(Str.ofString "self"), (Str.ofString "place")]
def EXI : List (Str × Str × Bool × Bool) := [((Str.ofString "NoThing"), (Str.ofString "NoThing"), false, true), ((Str.ofString "NoThing"), (Str.ofString "BadThing"), false, false), ((Str.ofString "NoThing"), (Str.ofString "BadForest"), false, false), ((Str.ofString "NoThing"), (Str.ofString "ForestError"), false, true), ((Str.ofString "NoThing"), (Str.ofString "ValueError"), true, true), ((Str.ofString "BadThing"), (Str.ofString "NoThing"), false, false), ((Str.ofString "BadThing"), (Str.ofString "BadThing"), false, true), ((Str.ofString "BadThing"), (Str.ofString "BadForest"), false, false), ((Str.ofString "BadThing"), (Str.ofString "ForestError"), false, true), ((Str.ofString "BadThing"), (Str.ofString "ValueError"), true, true), ((Str.ofString "BadForest"), (Str.ofString "NoThing"), false, false), ((Str.ofString "BadForest"), (Str.ofString "BadThing"), false, false), ((Str.ofString "BadForest"), (Str.ofString "BadForest"), false, true), ((Str.ofString "BadForest"), (Str.ofString "ForestError"), false, true), ((Str.ofString "BadForest"), (Str.ofString "ValueError"), true, true)]
def EXM : List (Str × Str × Bool) := [((Str.ofString "BadForest"), (Str.ofString "BadForest"), true), ((Str.ofString "NoThing"), (Str.ofString "NoThing"), true), ((Str.ofString "BadThing"), (Str.ofString "BadThing"), true)]
/-! ### the head -/
def dd_comes_to_none : He.DefD := ⟨((Str.ofString "comes_to_none"), none), (Str.ofString "comes_to_none"), (Str.ofString "comes_to_none"), defArgs s_comes_to_none, defBody s_comes_to_none, defScope s_comes_to_none, [], []⟩
def dd_is_integer : He.DefD := ⟨((Str.ofString "is_integer"), none), (Str.ofString "is_integer"), (Str.ofString "is_integer"), defArgs s_is_integer, defBody s_is_integer, defScope s_is_integer, [], []⟩
def dd_is_within : He.DefD := ⟨((Str.ofString "is_within"), none), (Str.ofString "is_within"), (Str.ofString "is_within"), defArgs s_is_within, defBody s_is_within, defScope s_is_within, [], []⟩
def dd_is_below : He.DefD := ⟨((Str.ofString "is_below"), none), (Str.ofString "is_below"), (Str.ofString "is_below"), defArgs s_is_below, defBody s_is_below, defScope s_is_below, [], []⟩
def dd_is_sized : He.DefD := ⟨((Str.ofString "is_sized"), none), (Str.ofString "is_sized"), (Str.ofString "is_sized"), defArgs s_is_sized, defBody s_is_sized, defScope s_is_sized, [], []⟩
def dd_are_parents : He.DefD := ⟨((Str.ofString "are_parents"), none), (Str.ofString "are_parents"), (Str.ofString "are_parents"), defArgs s_are_parents, defBody s_are_parents, defScope s_are_parents, [], []⟩
def dd_Forest___init__ : He.DefD := ⟨((Str.ofString "Forest"), some (Str.ofString "__init__")), (Str.ofString "__init__"), (Str.ofString "Forest.__init__"), defArgs s_Forest___init__, defBody s_Forest___init__, defScope s_Forest___init__, [], []⟩
def dd__law_can_be : He.DefD := ⟨((Str.ofString "_law_can_be"), none), (Str.ofString "_law_can_be"), (Str.ofString "_law_can_be"), defArgs s__law_can_be, defBody s__law_can_be, defScope s__law_can_be, [], []⟩
def dd__law_deep : He.DefD := ⟨((Str.ofString "_law_deep"), none), (Str.ofString "_law_deep"), (Str.ofString "_law_deep"), defArgs s__law_deep, defBody s__law_deep, defScope s__law_deep, [], []⟩
def dd__law_draw : He.DefD := ⟨((Str.ofString "_law_draw"), none), (Str.ofString "_law_draw"), (Str.ofString "_law_draw"), defArgs s__law_draw, defBody s__law_draw, defScope s__law_draw, [], []⟩
def dd__law_some : He.DefD := ⟨((Str.ofString "_law_some"), none), (Str.ofString "_law_some"), (Str.ofString "_law_some"), defArgs s__law_some, defBody s__law_some, defScope s__law_some, [], []⟩
def dd__law_drawn_thing : He.DefD := ⟨((Str.ofString "_law_drawn_thing"), none), (Str.ofString "_law_drawn_thing"), (Str.ofString "_law_drawn_thing"), defArgs s__law_drawn_thing, defBody s__law_drawn_thing, defScope s__law_drawn_thing, [], []⟩
def dd_is_word : He.DefD := ⟨((Str.ofString "is_word"), none), (Str.ofString "is_word"), (Str.ofString "is_word"), defArgs s_is_word, defBody s_is_word, defScope s_is_word, [], []⟩
def dd_can_be_written : He.DefD := ⟨((Str.ofString "can_be_written"), none), (Str.ofString "can_be_written"), (Str.ofString "can_be_written"), defArgs s_can_be_written, defBody s_can_be_written, defScope s_can_be_written, [], []⟩
def dd_raw_written : He.DefD := ⟨((Str.ofString "raw_written"), none), (Str.ofString "raw_written"), (Str.ofString "raw_written"), defArgs s_raw_written, defBody s_raw_written, defScope s_raw_written, [], []⟩
def dd_written : He.DefD := ⟨((Str.ofString "written"), none), (Str.ofString "written"), (Str.ofString "written"), defArgs s_written, defBody s_written, defScope s_written, [], []⟩
def dd__law_given : He.DefD := ⟨((Str.ofString "_law_given"), none), (Str.ofString "_law_given"), (Str.ofString "_law_given"), defArgs s__law_given, defBody s__law_given, defScope s__law_given, [], []⟩
def dd__law_hand : He.DefD := ⟨((Str.ofString "_law_hand"), none), (Str.ofString "_law_hand"), (Str.ofString "_law_hand"), defArgs s__law_hand, defBody s__law_hand, defScope s__law_hand, [], []⟩
def dd__law_is : He.DefD := ⟨((Str.ofString "_law_is"), none), (Str.ofString "_law_is"), (Str.ofString "_law_is"), defArgs s__law_is, defBody s__law_is, defScope s__law_is, [], []⟩
def dd__law_nested : He.DefD := ⟨((Str.ofString "_law_nested"), none), (Str.ofString "_law_nested"), (Str.ofString "_law_nested"), defArgs s__law_nested, defBody s__law_nested, defScope s__law_nested, [], []⟩
def dd__law_item : He.DefD := ⟨((Str.ofString "_law_item"), none), (Str.ofString "_law_item"), (Str.ofString "_law_item"), defArgs s__law_item, defBody s__law_item, defScope s__law_item, [], []⟩
def dd__law_token : He.DefD := ⟨((Str.ofString "_law_token"), none), (Str.ofString "_law_token"), (Str.ofString "_law_token"), defArgs s__law_token, defBody s__law_token, defScope s__law_token, [], []⟩
def dd__law_read : He.DefD := ⟨((Str.ofString "_law_read"), none), (Str.ofString "_law_read"), (Str.ofString "_law_read"), defArgs s__law_read, defBody s__law_read, defScope s__law_read, [], []⟩
def dd__law_spoilt : He.DefD := ⟨((Str.ofString "_law_spoilt"), none), (Str.ofString "_law_spoilt"), (Str.ofString "_law_spoilt"), defArgs s__law_spoilt, defBody s__law_spoilt, defScope s__law_spoilt, [], []⟩
def dd_ThingReader___init__ : He.DefD := ⟨((Str.ofString "ThingReader"), some (Str.ofString "__init__")), (Str.ofString "__init__"), (Str.ofString "ThingReader.__init__"), defArgs s_ThingReader___init__, defBody s_ThingReader___init__, defScope s_ThingReader___init__, [], []⟩
def dd_ThingReader_refuse : He.DefD := ⟨((Str.ofString "ThingReader"), some (Str.ofString "refuse")), (Str.ofString "refuse"), (Str.ofString "ThingReader.refuse"), defArgs s_ThingReader_refuse, defBody s_ThingReader_refuse, defScope s_ThingReader_refuse, [], []⟩
def dd_ThingReader_next_sign : He.DefD := ⟨((Str.ofString "ThingReader"), some (Str.ofString "next_sign")), (Str.ofString "next_sign"), (Str.ofString "ThingReader.next_sign"), defArgs s_ThingReader_next_sign, defBody s_ThingReader_next_sign, defScope s_ThingReader_next_sign, [], []⟩
def dd_ThingReader_is_next : He.DefD := ⟨((Str.ofString "ThingReader"), some (Str.ofString "is_next")), (Str.ofString "is_next"), (Str.ofString "ThingReader.is_next"), defArgs s_ThingReader_is_next, defBody s_ThingReader_is_next, defScope s_ThingReader_is_next, [], []⟩
def dd_ThingReader_pass_by : He.DefD := ⟨((Str.ofString "ThingReader"), some (Str.ofString "pass_by")), (Str.ofString "pass_by"), (Str.ofString "ThingReader.pass_by"), defArgs s_ThingReader_pass_by, defBody s_ThingReader_pass_by, defScope s_ThingReader_pass_by, [], []⟩
def dd_ThingReader_take_all : He.DefD := ⟨((Str.ofString "ThingReader"), some (Str.ofString "take_all")), (Str.ofString "take_all"), (Str.ofString "ThingReader.take_all"), defArgs s_ThingReader_take_all, defBody s_ThingReader_take_all, defScope s_ThingReader_take_all, [], []⟩
def dd_ThingReader_number : He.DefD := ⟨((Str.ofString "ThingReader"), some (Str.ofString "number")), (Str.ofString "number"), (Str.ofString "ThingReader.number"), defArgs s_ThingReader_number, defBody s_ThingReader_number, defScope s_ThingReader_number, [], []⟩
def dd_ThingReader_below_or_none : He.DefD := ⟨((Str.ofString "ThingReader"), some (Str.ofString "below_or_none")), (Str.ofString "below_or_none"), (Str.ofString "ThingReader.below_or_none"), defArgs s_ThingReader_below_or_none, defBody s_ThingReader_below_or_none, defScope s_ThingReader_below_or_none, [], []⟩
def dd_ThingReader_word : He.DefD := ⟨((Str.ofString "ThingReader"), some (Str.ofString "word")), (Str.ofString "word"), (Str.ofString "ThingReader.word"), defArgs s_ThingReader_word, defBody s_ThingReader_word, defScope s_ThingReader_word, [], []⟩
def dd_ThingReader_several : He.DefD := ⟨((Str.ofString "ThingReader"), some (Str.ofString "several")), (Str.ofString "several"), (Str.ofString "ThingReader.several"), defArgs s_ThingReader_several, defBody s_ThingReader_several, defScope s_ThingReader_several, [], []⟩
def dd_ThingReader_thing : He.DefD := ⟨((Str.ofString "ThingReader"), some (Str.ofString "thing")), (Str.ofString "thing"), (Str.ofString "ThingReader.thing"), defArgs s_ThingReader_thing, defBody s_ThingReader_thing, defScope s_ThingReader_thing, [], []⟩
def dd_read_thing : He.DefD := ⟨((Str.ofString "read_thing"), none), (Str.ofString "read_thing"), (Str.ofString "read_thing"), defArgs s_read_thing, defBody s_read_thing, defScope s_read_thing, [], []⟩
def dd__law_told : He.DefD := ⟨((Str.ofString "_law_told"), none), (Str.ofString "_law_told"), (Str.ofString "_law_told"), defArgs s__law_told, defBody s__law_told, defScope s__law_told, [], []⟩
def dd__law_written : He.DefD := ⟨((Str.ofString "_law_written"), none), (Str.ofString "_law_written"), (Str.ofString "_law_written"), defArgs s__law_written, defBody s__law_written, defScope s__law_written, [], []⟩
def dd_law : He.DefD := ⟨((Str.ofString "law"), none), (Str.ofString "law"), (Str.ofString "law"), defArgs s_law, defBody s_law, defScope s_law, [], []⟩
def dd_BadForest___init__ : He.DefD := ⟨((Str.ofString "BadForest"), some (Str.ofString "__init__")), (Str.ofString "__init__"), (Str.ofString "BadForest.__init__"), defArgs s_BadForest___init__, defBody s_BadForest___init__, defScope s_BadForest___init__, [], []⟩
def dd_BadThing___init__ : He.DefD := ⟨((Str.ofString "BadThing"), some (Str.ofString "__init__")), (Str.ofString "__init__"), (Str.ofString "BadThing.__init__"), defArgs s_BadThing___init__, defBody s_BadThing___init__, defScope s_BadThing___init__, [], []⟩
def fn : List He.DefD := [dd_comes_to_none, dd_is_integer, dd_is_within, dd_is_below, dd_is_sized, dd_are_parents, dd_Forest___init__, dd__law_can_be, dd__law_deep, dd__law_draw, dd__law_some, dd__law_drawn_thing, dd_is_word, dd_can_be_written, dd_raw_written, dd_written, dd__law_given, dd__law_hand, dd__law_is, dd__law_nested, dd__law_item, dd__law_token, dd__law_read, dd__law_spoilt, dd_ThingReader___init__, dd_ThingReader_refuse, dd_ThingReader_next_sign, dd_ThingReader_is_next, dd_ThingReader_pass_by, dd_ThingReader_take_all, dd_ThingReader_number, dd_ThingReader_below_or_none, dd_ThingReader_word, dd_ThingReader_several, dd_ThingReader_thing, dd_read_thing, dd__law_told, dd__law_written, dd_law, dd_BadForest___init__, dd_BadThing___init__]
def fa : List He.Fa := [.free (Str.ofString "isinstance"), .free (Str.ofString "int"), .free (Str.ofString "bool"), .glo (Str.ofString "is_integer"), .glo (Str.ofString "is_within"), .free (Str.ofString "tuple"), .free (Str.ofString "len"), .free (Str.ofString "range"), .int (Str.ofString "MOST_HOUSES") 64, .glo (Str.ofString "is_sized"), .glo (Str.ofString "is_below"), .free (Str.ofString "all"), .glo (Str.ofString "comes_to_none"), .glo (Str.ofString "are_parents"), .glo (Str.ofString "BadForest"), .cls (Str.ofString "Forest"), .noat (Str.ofString "Forest") (Str.ofString "parents"), .noat (Str.ofString "Forest") (Str.ofString "worths"), .glo (Str.ofString "Forest"), .free (Str.ofString "str"), .str (Str.ofString "NO") (Str.ofString "no"), .str (Str.ofString "YES") (Str.ofString "yes"), .int (Str.ofString "MOST_LETTERS") 20, .str (Str.ofString "LETTERS") (Str.ofString "abcdefghijklmnopqrstuvwxyz"), .glo (Str.ofString "can_be_written"), .glo (Str.ofString "is_word"), .str (Str.ofString "NOTHING") (Str.ofString "-"), .glo (Str.ofString "raw_written"), .int (Str.ofString "MOST_DEEP") 20, .exc (Str.ofString "NoThing"), .glo (Str.ofString "NoThing"), .cls (Str.ofString "ThingReader"), .noat (Str.ofString "ThingReader") (Str.ofString "signs"), .noat (Str.ofString "ThingReader") (Str.ofString "at"), .glo (Str.ofString "BadThing"), .meth (Str.ofString "ThingReader") (Str.ofString "next_sign"), .meth (Str.ofString "ThingReader") (Str.ofString "refuse"), .meth (Str.ofString "ThingReader") (Str.ofString "is_next"), .str (Str.ofString "FIGURES") (Str.ofString "0123456789"), .meth (Str.ofString "ThingReader") (Str.ofString "pass_by"), .meth (Str.ofString "ThingReader") (Str.ofString "take_all"), .int (Str.ofString "MOST_FIGURES") 20, .str (Str.ofString "MINUS") (Str.ofString "-"), .meth (Str.ofString "ThingReader") (Str.ofString "number"), .meth (Str.ofString "ThingReader") (Str.ofString "thing"), .meth (Str.ofString "ThingReader") (Str.ofString "several"), .meth (Str.ofString "ThingReader") (Str.ofString "below_or_none"), .meth (Str.ofString "ThingReader") (Str.ofString "word"), .glo (Str.ofString "ThingReader"), .mkr (Str.ofString "ThingReader"), .free (Str.ofString "abs"), .glo (Str.ofString "_law_draw"), .free (Str.ofString "list"), .glo (Str.ofString "_law_is"), .free (Str.ofString "dict"), .glo (Str.ofString "_law_written"), .glo (Str.ofString "_law_token"), .glo (Str.ofString "_law_item"), .glo (Str.ofString "_law_drawn_thing"), .glo (Str.ofString "_law_some"), .glo (Str.ofString "_law_can_be"), .glo (Str.ofString "read_thing"), .glo (Str.ofString "ForestError"), .free (Str.ofString "ValueError"), .glo (Str.ofString "written"), .glo (Str.ofString "_law_hand"), .glo (Str.ofString "_law_nested"), .mkr (Str.ofString "Forest"), .glo (Str.ofString "_law_deep"), .glo (Str.ofString "_law_given"), .glo (Str.ofString "_law_told"), .glo (Str.ofString "_law_spoilt"), .glo (Str.ofString "_law_read"), .glo (Str.ofString "law")]
def ts : List He.Tab := []
def exAll (K : PySem.W.Frag) : Bool := isfB OC K && (exfB (Str.ofString "BadForest") (Str.ofString "part") K && (exfB (Str.ofString "BadThing") (Str.ofString "place") K && (exiB EXI K && (exmB EXM K && (true)))))
def tf : List He.Defn := []
def names0 : List Str := [(Str.ofString "__name__"), (Str.ofString "ForestError"), (Str.ofString "BadForest"), (Str.ofString "NoThing"), (Str.ofString "BadThing"), (Str.ofString "MOST_HOUSES"), (Str.ofString "is_integer"), (Str.ofString "is_within"), (Str.ofString "is_below"), (Str.ofString "is_sized"), (Str.ofString "comes_to_none"), (Str.ofString "are_parents"), (Str.ofString "Forest"), (Str.ofString "NOTHING"), (Str.ofString "MINUS"), (Str.ofString "YES"), (Str.ofString "NO"), (Str.ofString "FIGURES"), (Str.ofString "LETTERS"), (Str.ofString "MOST_FIGURES"), (Str.ofString "MOST_LETTERS"), (Str.ofString "MOST_DEEP"), (Str.ofString "is_word"), (Str.ofString "can_be_written"), (Str.ofString "raw_written"), (Str.ofString "written"), (Str.ofString "ThingReader"), (Str.ofString "read_thing"), (Str.ofString "_law_hand"), (Str.ofString "_law_draw")]
def names1 : List Str := [(Str.ofString "_law_some"), (Str.ofString "_law_is"), (Str.ofString "_law_deep"), (Str.ofString "_law_written"), (Str.ofString "_law_token"), (Str.ofString "_law_item"), (Str.ofString "_law_read"), (Str.ofString "_law_drawn_thing"), (Str.ofString "_law_can_be"), (Str.ofString "_law_told"), (Str.ofString "_law_given"), (Str.ofString "_law_nested"), (Str.ofString "_law_spoilt")]
def names : List Str := names0 ++ names1
abbrev R : PySem.W.OpenRow := PySem.W.OpenLaw.row PySem.Challenge.rw_cutlinked_k35_whole_things_written_and_r
abbrev hk : PySem.W.Hook := He.hookX 6 fa fn ts tf exAll
def ob (s : PySem.W.SharedT) : He.AlX := He.obsX 6 fa fn ts tf exAll (HandSHeadRun.getT s)
theorem ob_eq (s : PySem.W.SharedT) : ob s = hk.obs s.abs := He.obsX_eq (HandSHeadRun.getT_eq s)
set_option maxHeartbeats 0 in
theorem run (w : World) : HandSHeadRun.RunEq R (PySem.W.view R.prog [47]) hk ob 6000 names w := by
  intro os
  kernel_rfl

structure Tx (w : World) (K : PySem.W.Frag) (mg : Str → Option Value) : Prop where
  f_isinstance : mg (Str.ofString "isinstance") = none
  f_int : mg (Str.ofString "int") = none
  isf : IsF K OC
  f_bool : mg (Str.ofString "bool") = none
  g_is_integer : mg (Str.ofString "is_integer") = some (.ref (ga K (Str.ofString "is_integer")))
  g_is_within : mg (Str.ofString "is_within") = some (.ref (ga K (Str.ofString "is_within")))
  f_tuple : mg (Str.ofString "tuple") = none
  f_len : mg (Str.ofString "len") = none
  f_range : mg (Str.ofString "range") = none
  i_MOST_HOUSES : ∃ t, mg (Str.ofString "MOST_HOUSES") = some (.int 64 t)
  g_is_sized : mg (Str.ofString "is_sized") = some (.ref (ga K (Str.ofString "is_sized")))
  g_is_below : mg (Str.ofString "is_below") = some (.ref (ga K (Str.ofString "is_below")))
  f_all : mg (Str.ofString "all") = none
  g_comes_to_none : mg (Str.ofString "comes_to_none") = some (.ref (ga K (Str.ofString "comes_to_none")))
  g_are_parents : mg (Str.ofString "are_parents") = some (.ref (ga K (Str.ofString "are_parents")))
  xf_BadForest : ExfF K (Str.ofString "BadForest") (Str.ofString "part")
  g_BadForest : mg (Str.ofString "BadForest") = some (.ref (ga K (Str.ofString "BadForest")))
  c_Forest : Cls K (ga K (Str.ofString "Forest"))
  n_Forest_parents : NoAttr K (ga K (Str.ofString "Forest")) (Str.ofString "parents")
  n_Forest_worths : NoAttr K (ga K (Str.ofString "Forest")) (Str.ofString "worths")
  g_Forest : mg (Str.ofString "Forest") = some (.ref (ga K (Str.ofString "Forest")))
  f_str : mg (Str.ofString "str") = none
  s_NO : ∃ t, mg (Str.ofString "NO") = some (.str (Str.ofString "no") t)
  s_YES : ∃ t, mg (Str.ofString "YES") = some (.str (Str.ofString "yes") t)
  i_MOST_LETTERS : ∃ t, mg (Str.ofString "MOST_LETTERS") = some (.int 20 t)
  s_LETTERS : ∃ t, mg (Str.ofString "LETTERS") = some (.str (Str.ofString "abcdefghijklmnopqrstuvwxyz") t)
  g_can_be_written : mg (Str.ofString "can_be_written") = some (.ref (ga K (Str.ofString "can_be_written")))
  g_is_word : mg (Str.ofString "is_word") = some (.ref (ga K (Str.ofString "is_word")))
  s_NOTHING : ∃ t, mg (Str.ofString "NOTHING") = some (.str (Str.ofString "-") t)
  g_raw_written : mg (Str.ofString "raw_written") = some (.ref (ga K (Str.ofString "raw_written")))
  i_MOST_DEEP : ∃ t, mg (Str.ofString "MOST_DEEP") = some (.int 20 t)
  x_NoThing : ExcF K (Str.ofString "NoThing")
  g_NoThing : mg (Str.ofString "NoThing") = some (.ref (ga K (Str.ofString "NoThing")))
  c_ThingReader : Cls K (ga K (Str.ofString "ThingReader"))
  n_ThingReader_signs : NoAttr K (ga K (Str.ofString "ThingReader")) (Str.ofString "signs")
  n_ThingReader_at : NoAttr K (ga K (Str.ofString "ThingReader")) (Str.ofString "at")
  xf_BadThing : ExfF K (Str.ofString "BadThing") (Str.ofString "place")
  g_BadThing : mg (Str.ofString "BadThing") = some (.ref (ga K (Str.ofString "BadThing")))
  mt_ThingReader_next_sign : Meth K (ga K (Str.ofString "ThingReader")) (Str.ofString "next_sign") (He.ma K (ga K (Str.ofString "ThingReader")) (Str.ofString "next_sign"))
  mt_ThingReader_refuse : Meth K (ga K (Str.ofString "ThingReader")) (Str.ofString "refuse") (He.ma K (ga K (Str.ofString "ThingReader")) (Str.ofString "refuse"))
  mt_ThingReader_is_next : Meth K (ga K (Str.ofString "ThingReader")) (Str.ofString "is_next") (He.ma K (ga K (Str.ofString "ThingReader")) (Str.ofString "is_next"))
  s_FIGURES : ∃ t, mg (Str.ofString "FIGURES") = some (.str (Str.ofString "0123456789") t)
  mt_ThingReader_pass_by : Meth K (ga K (Str.ofString "ThingReader")) (Str.ofString "pass_by") (He.ma K (ga K (Str.ofString "ThingReader")) (Str.ofString "pass_by"))
  mt_ThingReader_take_all : Meth K (ga K (Str.ofString "ThingReader")) (Str.ofString "take_all") (He.ma K (ga K (Str.ofString "ThingReader")) (Str.ofString "take_all"))
  i_MOST_FIGURES : ∃ t, mg (Str.ofString "MOST_FIGURES") = some (.int 20 t)
  s_MINUS : ∃ t, mg (Str.ofString "MINUS") = some (.str (Str.ofString "-") t)
  mt_ThingReader_number : Meth K (ga K (Str.ofString "ThingReader")) (Str.ofString "number") (He.ma K (ga K (Str.ofString "ThingReader")) (Str.ofString "number"))
  mt_ThingReader_thing : Meth K (ga K (Str.ofString "ThingReader")) (Str.ofString "thing") (He.ma K (ga K (Str.ofString "ThingReader")) (Str.ofString "thing"))
  mt_ThingReader_several : Meth K (ga K (Str.ofString "ThingReader")) (Str.ofString "several") (He.ma K (ga K (Str.ofString "ThingReader")) (Str.ofString "several"))
  mt_ThingReader_below_or_none : Meth K (ga K (Str.ofString "ThingReader")) (Str.ofString "below_or_none") (He.ma K (ga K (Str.ofString "ThingReader")) (Str.ofString "below_or_none"))
  mt_ThingReader_word : Meth K (ga K (Str.ofString "ThingReader")) (Str.ofString "word") (He.ma K (ga K (Str.ofString "ThingReader")) (Str.ofString "word"))
  g_ThingReader : mg (Str.ofString "ThingReader") = some (.ref (ga K (Str.ofString "ThingReader")))
  m_ThingReader : Mk K (ga K (Str.ofString "ThingReader")) (He.ma K (ga K (Str.ofString "ThingReader")) "__init__")
  f_abs : mg (Str.ofString "abs") = none
  g__law_draw : mg (Str.ofString "_law_draw") = some (.ref (ga K (Str.ofString "_law_draw")))
  f_list : mg (Str.ofString "list") = none
  g__law_is : mg (Str.ofString "_law_is") = some (.ref (ga K (Str.ofString "_law_is")))
  f_dict : mg (Str.ofString "dict") = none
  g__law_written : mg (Str.ofString "_law_written") = some (.ref (ga K (Str.ofString "_law_written")))
  g__law_token : mg (Str.ofString "_law_token") = some (.ref (ga K (Str.ofString "_law_token")))
  g__law_item : mg (Str.ofString "_law_item") = some (.ref (ga K (Str.ofString "_law_item")))
  g__law_drawn_thing : mg (Str.ofString "_law_drawn_thing") = some (.ref (ga K (Str.ofString "_law_drawn_thing")))
  g__law_some : mg (Str.ofString "_law_some") = some (.ref (ga K (Str.ofString "_law_some")))
  g__law_can_be : mg (Str.ofString "_law_can_be") = some (.ref (ga K (Str.ofString "_law_can_be")))
  g_read_thing : mg (Str.ofString "read_thing") = some (.ref (ga K (Str.ofString "read_thing")))
  exi : ExiF K EXI
  g_ForestError : mg (Str.ofString "ForestError") = some (.ref (ga K (Str.ofString "ForestError")))
  f_ValueError : mg (Str.ofString "ValueError") = none
  exm : ExmF K (exmOf EXM)
  g_written : mg (Str.ofString "written") = some (.ref (ga K (Str.ofString "written")))
  g__law_hand : mg (Str.ofString "_law_hand") = some (.ref (ga K (Str.ofString "_law_hand")))
  g__law_nested : mg (Str.ofString "_law_nested") = some (.ref (ga K (Str.ofString "_law_nested")))
  m_Forest : Mk K (ga K (Str.ofString "Forest")) (He.ma K (ga K (Str.ofString "Forest")) "__init__")
  g__law_deep : mg (Str.ofString "_law_deep") = some (.ref (ga K (Str.ofString "_law_deep")))
  g__law_given : mg (Str.ofString "_law_given") = some (.ref (ga K (Str.ofString "_law_given")))
  g__law_told : mg (Str.ofString "_law_told") = some (.ref (ga K (Str.ofString "_law_told")))
  g__law_spoilt : mg (Str.ofString "_law_spoilt") = some (.ref (ga K (Str.ofString "_law_spoilt")))
  g__law_read : mg (Str.ofString "_law_read") = some (.ref (ga K (Str.ofString "_law_read")))
  g_law : mg (Str.ofString "law") = some (.ref (ga K (Str.ofString "law")))
  d_comes_to_none : ∃ fd, FunD K (Str.ofString "comes_to_none") (Str.ofString "comes_to_none") (defArgs s_comes_to_none) (defBody s_comes_to_none) (defScope s_comes_to_none) [] [] (He.fAd K ((Str.ofString "comes_to_none"), none)) fd
  d_is_integer : ∃ fd, FunD K (Str.ofString "is_integer") (Str.ofString "is_integer") (defArgs s_is_integer) (defBody s_is_integer) (defScope s_is_integer) [] [] (He.fAd K ((Str.ofString "is_integer"), none)) fd
  d_is_within : ∃ fd, FunD K (Str.ofString "is_within") (Str.ofString "is_within") (defArgs s_is_within) (defBody s_is_within) (defScope s_is_within) [] [] (He.fAd K ((Str.ofString "is_within"), none)) fd
  d_is_below : ∃ fd, FunD K (Str.ofString "is_below") (Str.ofString "is_below") (defArgs s_is_below) (defBody s_is_below) (defScope s_is_below) [] [] (He.fAd K ((Str.ofString "is_below"), none)) fd
  d_is_sized : ∃ fd, FunD K (Str.ofString "is_sized") (Str.ofString "is_sized") (defArgs s_is_sized) (defBody s_is_sized) (defScope s_is_sized) [] [] (He.fAd K ((Str.ofString "is_sized"), none)) fd
  d_are_parents : ∃ fd, FunD K (Str.ofString "are_parents") (Str.ofString "are_parents") (defArgs s_are_parents) (defBody s_are_parents) (defScope s_are_parents) [] [] (He.fAd K ((Str.ofString "are_parents"), none)) fd
  d_Forest___init__ : ∃ fd, FunD K (Str.ofString "__init__") (Str.ofString "Forest.__init__") (defArgs s_Forest___init__) (defBody s_Forest___init__) (defScope s_Forest___init__) [] [] (He.fAd K ((Str.ofString "Forest"), some (Str.ofString "__init__"))) fd
  d__law_can_be : ∃ fd, FunD K (Str.ofString "_law_can_be") (Str.ofString "_law_can_be") (defArgs s__law_can_be) (defBody s__law_can_be) (defScope s__law_can_be) [] [] (He.fAd K ((Str.ofString "_law_can_be"), none)) fd
  d__law_deep : ∃ fd, FunD K (Str.ofString "_law_deep") (Str.ofString "_law_deep") (defArgs s__law_deep) (defBody s__law_deep) (defScope s__law_deep) [] [] (He.fAd K ((Str.ofString "_law_deep"), none)) fd
  d__law_draw : ∃ fd, FunD K (Str.ofString "_law_draw") (Str.ofString "_law_draw") (defArgs s__law_draw) (defBody s__law_draw) (defScope s__law_draw) [] [] (He.fAd K ((Str.ofString "_law_draw"), none)) fd
  d__law_some : ∃ fd, FunD K (Str.ofString "_law_some") (Str.ofString "_law_some") (defArgs s__law_some) (defBody s__law_some) (defScope s__law_some) [] [] (He.fAd K ((Str.ofString "_law_some"), none)) fd
  d__law_drawn_thing : ∃ fd, FunD K (Str.ofString "_law_drawn_thing") (Str.ofString "_law_drawn_thing") (defArgs s__law_drawn_thing) (defBody s__law_drawn_thing) (defScope s__law_drawn_thing) [] [] (He.fAd K ((Str.ofString "_law_drawn_thing"), none)) fd
  d_is_word : ∃ fd, FunD K (Str.ofString "is_word") (Str.ofString "is_word") (defArgs s_is_word) (defBody s_is_word) (defScope s_is_word) [] [] (He.fAd K ((Str.ofString "is_word"), none)) fd
  d_can_be_written : ∃ fd, FunD K (Str.ofString "can_be_written") (Str.ofString "can_be_written") (defArgs s_can_be_written) (defBody s_can_be_written) (defScope s_can_be_written) [] [] (He.fAd K ((Str.ofString "can_be_written"), none)) fd
  d_raw_written : ∃ fd, FunD K (Str.ofString "raw_written") (Str.ofString "raw_written") (defArgs s_raw_written) (defBody s_raw_written) (defScope s_raw_written) [] [] (He.fAd K ((Str.ofString "raw_written"), none)) fd
  d_written : ∃ fd, FunD K (Str.ofString "written") (Str.ofString "written") (defArgs s_written) (defBody s_written) (defScope s_written) [] [] (He.fAd K ((Str.ofString "written"), none)) fd
  d__law_given : ∃ fd, FunD K (Str.ofString "_law_given") (Str.ofString "_law_given") (defArgs s__law_given) (defBody s__law_given) (defScope s__law_given) [] [] (He.fAd K ((Str.ofString "_law_given"), none)) fd
  d__law_hand : ∃ fd, FunD K (Str.ofString "_law_hand") (Str.ofString "_law_hand") (defArgs s__law_hand) (defBody s__law_hand) (defScope s__law_hand) [] [] (He.fAd K ((Str.ofString "_law_hand"), none)) fd
  d__law_is : ∃ fd, FunD K (Str.ofString "_law_is") (Str.ofString "_law_is") (defArgs s__law_is) (defBody s__law_is) (defScope s__law_is) [] [] (He.fAd K ((Str.ofString "_law_is"), none)) fd
  d__law_nested : ∃ fd, FunD K (Str.ofString "_law_nested") (Str.ofString "_law_nested") (defArgs s__law_nested) (defBody s__law_nested) (defScope s__law_nested) [] [] (He.fAd K ((Str.ofString "_law_nested"), none)) fd
  d__law_item : ∃ fd, FunD K (Str.ofString "_law_item") (Str.ofString "_law_item") (defArgs s__law_item) (defBody s__law_item) (defScope s__law_item) [] [] (He.fAd K ((Str.ofString "_law_item"), none)) fd
  d__law_token : ∃ fd, FunD K (Str.ofString "_law_token") (Str.ofString "_law_token") (defArgs s__law_token) (defBody s__law_token) (defScope s__law_token) [] [] (He.fAd K ((Str.ofString "_law_token"), none)) fd
  d__law_read : ∃ fd, FunD K (Str.ofString "_law_read") (Str.ofString "_law_read") (defArgs s__law_read) (defBody s__law_read) (defScope s__law_read) [] [] (He.fAd K ((Str.ofString "_law_read"), none)) fd
  d__law_spoilt : ∃ fd, FunD K (Str.ofString "_law_spoilt") (Str.ofString "_law_spoilt") (defArgs s__law_spoilt) (defBody s__law_spoilt) (defScope s__law_spoilt) [] [] (He.fAd K ((Str.ofString "_law_spoilt"), none)) fd
  d_ThingReader___init__ : ∃ fd, FunD K (Str.ofString "__init__") (Str.ofString "ThingReader.__init__") (defArgs s_ThingReader___init__) (defBody s_ThingReader___init__) (defScope s_ThingReader___init__) [] [] (He.fAd K ((Str.ofString "ThingReader"), some (Str.ofString "__init__"))) fd
  d_ThingReader_refuse : ∃ fd, FunD K (Str.ofString "refuse") (Str.ofString "ThingReader.refuse") (defArgs s_ThingReader_refuse) (defBody s_ThingReader_refuse) (defScope s_ThingReader_refuse) [] [] (He.fAd K ((Str.ofString "ThingReader"), some (Str.ofString "refuse"))) fd
  d_ThingReader_next_sign : ∃ fd, FunD K (Str.ofString "next_sign") (Str.ofString "ThingReader.next_sign") (defArgs s_ThingReader_next_sign) (defBody s_ThingReader_next_sign) (defScope s_ThingReader_next_sign) [] [] (He.fAd K ((Str.ofString "ThingReader"), some (Str.ofString "next_sign"))) fd
  d_ThingReader_is_next : ∃ fd, FunD K (Str.ofString "is_next") (Str.ofString "ThingReader.is_next") (defArgs s_ThingReader_is_next) (defBody s_ThingReader_is_next) (defScope s_ThingReader_is_next) [] [] (He.fAd K ((Str.ofString "ThingReader"), some (Str.ofString "is_next"))) fd
  d_ThingReader_pass_by : ∃ fd, FunD K (Str.ofString "pass_by") (Str.ofString "ThingReader.pass_by") (defArgs s_ThingReader_pass_by) (defBody s_ThingReader_pass_by) (defScope s_ThingReader_pass_by) [] [] (He.fAd K ((Str.ofString "ThingReader"), some (Str.ofString "pass_by"))) fd
  d_ThingReader_take_all : ∃ fd, FunD K (Str.ofString "take_all") (Str.ofString "ThingReader.take_all") (defArgs s_ThingReader_take_all) (defBody s_ThingReader_take_all) (defScope s_ThingReader_take_all) [] [] (He.fAd K ((Str.ofString "ThingReader"), some (Str.ofString "take_all"))) fd
  d_ThingReader_number : ∃ fd, FunD K (Str.ofString "number") (Str.ofString "ThingReader.number") (defArgs s_ThingReader_number) (defBody s_ThingReader_number) (defScope s_ThingReader_number) [] [] (He.fAd K ((Str.ofString "ThingReader"), some (Str.ofString "number"))) fd
  d_ThingReader_below_or_none : ∃ fd, FunD K (Str.ofString "below_or_none") (Str.ofString "ThingReader.below_or_none") (defArgs s_ThingReader_below_or_none) (defBody s_ThingReader_below_or_none) (defScope s_ThingReader_below_or_none) [] [] (He.fAd K ((Str.ofString "ThingReader"), some (Str.ofString "below_or_none"))) fd
  d_ThingReader_word : ∃ fd, FunD K (Str.ofString "word") (Str.ofString "ThingReader.word") (defArgs s_ThingReader_word) (defBody s_ThingReader_word) (defScope s_ThingReader_word) [] [] (He.fAd K ((Str.ofString "ThingReader"), some (Str.ofString "word"))) fd
  d_ThingReader_several : ∃ fd, FunD K (Str.ofString "several") (Str.ofString "ThingReader.several") (defArgs s_ThingReader_several) (defBody s_ThingReader_several) (defScope s_ThingReader_several) [] [] (He.fAd K ((Str.ofString "ThingReader"), some (Str.ofString "several"))) fd
  d_ThingReader_thing : ∃ fd, FunD K (Str.ofString "thing") (Str.ofString "ThingReader.thing") (defArgs s_ThingReader_thing) (defBody s_ThingReader_thing) (defScope s_ThingReader_thing) [] [] (He.fAd K ((Str.ofString "ThingReader"), some (Str.ofString "thing"))) fd
  d_read_thing : ∃ fd, FunD K (Str.ofString "read_thing") (Str.ofString "read_thing") (defArgs s_read_thing) (defBody s_read_thing) (defScope s_read_thing) [] [] (He.fAd K ((Str.ofString "read_thing"), none)) fd
  d__law_told : ∃ fd, FunD K (Str.ofString "_law_told") (Str.ofString "_law_told") (defArgs s__law_told) (defBody s__law_told) (defScope s__law_told) [] [] (He.fAd K ((Str.ofString "_law_told"), none)) fd
  d__law_written : ∃ fd, FunD K (Str.ofString "_law_written") (Str.ofString "_law_written") (defArgs s__law_written) (defBody s__law_written) (defScope s__law_written) [] [] (He.fAd K ((Str.ofString "_law_written"), none)) fd
  d_law : ∃ fd, FunD K (Str.ofString "law") (Str.ofString "law") (defArgs s_law) (defBody s_law) (defScope s_law) [] [] (He.fAd K ((Str.ofString "law"), none)) fd
  d_BadForest___init__ : ∃ fd, FunD K (Str.ofString "__init__") (Str.ofString "BadForest.__init__") (defArgs s_BadForest___init__) (defBody s_BadForest___init__) (defScope s_BadForest___init__) [] [] (He.fAd K ((Str.ofString "BadForest"), some (Str.ofString "__init__"))) fd
  d_BadThing___init__ : ∃ fd, FunD K (Str.ofString "__init__") (Str.ofString "BadThing.__init__") (defArgs s_BadThing___init__) (defBody s_BadThing___init__) (defScope s_BadThing___init__) [] [] (He.fAd K ((Str.ofString "BadThing"), some (Str.ofString "__init__"))) fd
/-! ### the plain part -/

def hnd (cs : List D) (i c s t : Int) : GO := .lst [.fl cs, .int i, .int c, .int s, .int t]
structure HOk (cs : List D) (i c : Int) : Prop where
  nums : ∀ x ∈ cs, ∃ n : Int, x = .int n
  i0 : 0 ≤ i
  c0 : 0 ≤ c
theorem snext_eq {D : Ends3} {σ : St3} {G : Gp} (h : D.nx σ G) : snext D σ G := h
theorem nof {P : Prop} (h : false = true) : P := by cases h
theorem iteT {A B : Prop} (h : A) : if true = true then A else B := h
theorem iteF {A B : Prop} (h : B) : if false = true then A else B := h
def isI : D → Bool
  | .int _ => true
  | _ => false
theorem isI_eq (x : D) : (isiD .int x && !isiD .bl x) = isI x := by cases x <;> rfl
theorem isI_of {x : D} (h : isI x = true) : ∃ i, x = .int i := by cases x <;> first | exact ⟨_, rfl⟩ | cases h
theorem isT_of {x : D} (h : isiD .tup x = true) : ∃ xs, x = .tup xs := by cases x <;> first | exact ⟨_, rfl⟩ | (simp [isiD] at h)
def wiI (a b : Int) : D → Bool
  | .int i => decide (a ≤ i) && decide (i ≤ b)
  | _ => false
def nuI : D → Bool
  | .int i => decide (0 ≤ i)
  | _ => false
def siI (a b : Int) : D → Bool
  | .tup xs => decide (a ≤ (xs.length : Int)) && decide ((xs.length : Int) ≤ b)
  | _ => false

def rk (n : Int) : Int := (Nat.log2 n.toNat : Int)
theorem log2_step {n : Nat} (h : 2 ≤ n) : Nat.log2 n = Nat.log2 (n / 2) + 1 := by
  rw [Nat.log2_def]; rw [if_pos h]
theorem rk_step {n : Int} (h : 1 < n) : rk n = rk (n / 2) + 1 := by
  unfold rk
  rw [log2_step (n := n.toNat) (by omega)]
  have : (n / 2).toNat = n.toNat / 2 := by omega
  rw [this]; rfl
theorem rk_low {n : Int} (h : ¬ 1 < n) : rk n = 0 := by
  unfold rk
  rw [Nat.log2_def, if_neg (by omega)]; rfl
theorem rk_nn (n : Int) : 0 ≤ rk n := by unfold rk; omega
def ip (m : Int) : D → Bool
  | .tup [.int a, .int b, .int c, .int d] => decide (0 ≤ a) && decide (1 ≤ b) && decide (c = b / 2) && decide (a + b + c + 5 * d ≤ 30 * rk m + 7)
  | _ => false
/-- what is judged: each thing and its parts can be asked for their kinds -/
def wk : D → Bool
  | .tup xs => xs.all (kn OC)
  | x => kn OC x
theorem wk_kn {x : D} (h : wk x = true) : kn OC x = true := by cases x <;> first | rfl | exact h
theorem four {x : D} (h : siI 4 4 x = true) : ∃ a b c d, x = .tup [a, b, c, d] := by
  cases x with
  | tup xs =>
    have h : (decide ((4 : Int) ≤ (xs.length : Int)) && decide ((xs.length : Int) ≤ 4)) = true := h
    rw [Bool.and_eq_true, decide_eq_true_eq, decide_eq_true_eq] at h
    match xs, h with
    | [a, b, c, d], _ => exact ⟨a, b, c, d, rfl⟩
    | [], h => simp at h
    | [_], h => simp at h
    | [_, _], h => simp at h
    | [_, _, _], h => simp at h
    | _ :: _ :: _ :: _ :: _ :: _, h => simp at h; omega
  | _ => cases h
theorem ip_not4 {m : Int} {x : D} (h : siI 4 4 x = false) : ip m x = false := by
  unfold ip
  split
  · simp [siI] at h
  · rfl
theorem ip_a {m : Int} {a b c d : D} (h : nuI a = false) : ip m (.tup [a, b, c, d]) = false := by
  unfold ip
  split
  · rename_i e; injection e with e; injection e with e1 e; subst e1; simp only [nuI] at h; rw [h]; rfl
  · rfl
theorem ip_b {m : Int} {a b c d : D} (h : wiI 1 (10 ^ 100) b = false → False) : True := trivial
theorem ip_bn {m : Int} {a b c d : D} (h : isI b = false) : ip m (.tup [a, b, c, d]) = false := by
  unfold ip
  split
  · rename_i e; injection e with e; injection e with e1 e; injection e with e2 e; subst e2; cases h
  · rfl
theorem ip_b1 {m : Int} {a c d : D} {j : Int} (h : j < 1) : ip m (.tup [a, .int j, c, d]) = false := by
  unfold ip
  split
  · rename_i e; injection e with e; injection e with e1 e; injection e with e2 e; injection e2 with e2; subst e2
    rw [show decide (1 ≤ j) = false from decide_eq_false (by omega)]; simp
  · rfl
theorem ip_cn {m : Int} {a b c d : D} (h : isI c = false) : ip m (.tup [a, b, c, d]) = false := by
  unfold ip
  split
  · rename_i e; injection e with e; injection e with e1 e; injection e with e2 e; injection e with e3 e; subst e3; cases h
  · rfl
theorem ip_dn {m : Int} {a b c d : D} (h : isI d = false) : ip m (.tup [a, b, c, d]) = false := by
  unfold ip
  split
  · rename_i e; injection e with e; injection e with e1 e; injection e with e2 e; injection e with e3 e; injection e with e4 e; subst e4; cases h
  · rfl
theorem ip_c {m : Int} {a d : D} {j k : Int} (h : k ≠ j / 2) : ip m (.tup [a, .int j, .int k, d]) = false := by
  unfold ip
  split
  · rename_i e; injection e with e; injection e with e1 e; injection e with e2 e; injection e with e3 e; injection e2 with e2; injection e3 with e3; subst e2; subst e3
    rw [show decide (k = j / 2) = false from decide_eq_false h]; simp
  · rfl
theorem nuI_of {x : D} (h : nuI x = true) : ∃ i, x = .int i ∧ 0 ≤ i := by
  cases x <;> first | (rename_i i; exact ⟨i, rfl, of_decide_eq_true h⟩) | cases h

theorem fld_at {c f : Str} {G : Gp} {a : Addr} {fs : List (Str × D)} {d : D} (h : G a = some (.ins c fs)) (e : fs.lookup f = some d) : fldD c f G (.ref a) = some d := by
  unfold fldD; simp only; rw [h]; simp only [if_pos]; exact e
theorem insM_at {c m : Str} {G : Gp} {a : Addr} {fs : List (Str × D)} (h : G a = some (.ins c fs)) (e : fs.lookup m = none) : insM c m G (.ref a) := ⟨fs, h, e⟩
def rdr (t : Str) (k : Nat) : GO := .ins (Str.ofString "ThingReader") [(Str.ofString "signs", .str t), (Str.ofString "at", .int (k : Nat))]
def nx (t : Str) (k : Nat) : Str := cutS t (some (k : Int)) (some ((k : Int) + 1))

section
open SX NumText
theorem drop_cons {α : Type} {l r : List α} {k : Nat} {c : α} (e : l.drop k = c :: r) : l.drop (k + 1) = r ∧ k < l.length ∧ l[k]? = some c := by
  have h1 : k < l.length := by
    rcases Nat.lt_or_ge k l.length with h | h
    · exact h
    · rw [List.drop_eq_nil_of_le h] at e; cases e
  rw [List.drop_eq_getElem_cons h1] at e
  injection e with e1 e2
  exact ⟨e2, h1, by rw [List.getElem?_eq_getElem h1, e1]⟩
/-- one of these signs -/
def inS (z : Str) (c : Nat) : Bool := decide (c ∈ z.cps.toList)
def FGS : Str := Str.ofString "0123456789"
def LTS : Str := Str.ofString "abcdefghijklmnopqrstuvwxyz"
def isLt (c : Nat) : Bool := decide (97 ≤ c) && decide (c ≤ 122)
def isFg (c : Nat) : Bool := decide (48 ≤ c) && decide (c ≤ 57)
theorem fgs_l : FGS.cps.toList = [48,49,50,51,52,53,54,55,56,57] := by decide +kernel
theorem lts_l : LTS.cps.toList = [97,98,99,100,101,102,103,104,105,106,107,108,109,110,111,112,113,114,115,116,117,118,119,120,121,122] := by decide +kernel
theorem inFG : inS FGS = isFg := by
  funext c
  unfold inS isFg
  rw [fgs_l]
  rw [Bool.eq_iff_iff]
  simp only [decide_eq_true_eq, List.mem_cons, List.not_mem_nil, or_false, Bool.and_eq_true]
  omega
theorem inLT : inS LTS = isLt := by
  funext c
  unfold inS isLt
  rw [lts_l]
  rw [Bool.eq_iff_iff]
  simp only [decide_eq_true_eq, List.mem_cons, List.not_mem_nil, or_false, Bool.and_eq_true]
  omega
theorem isFg_ok {c : Nat} : isFg c = true ↔ 48 ≤ c ∧ c ≤ 57 := by unfold isFg; simp
theorem isLt_ok {c : Nat} : isLt c = true ↔ 97 ≤ c ∧ c ≤ 122 := by unfold isLt; simp
def hdP (p : Nat → Bool) : List Nat → Bool | [] => false | c :: _ => p c
/-- the signs of a sort that stand first, at most m -/
def tk (p : Nat → Bool) (m : Nat) (l : List Nat) : List Nat := (l.take m).takeWhile p
theorem tk_zero (p : Nat → Bool) (l : List Nat) : tk p 0 l = [] := by unfold tk; rw [List.take_zero]; rfl
theorem tk_nil (p : Nat → Bool) (m : Nat) : tk p m [] = [] := by unfold tk; rw [List.take_nil]; rfl
theorem tk_cons {p : Nat → Bool} {m c : Nat} {r : List Nat} (h : p c = true) : tk p (m + 1) (c :: r) = c :: tk p m r := by
  unfold tk; rw [List.take_succ_cons, List.takeWhile_cons, if_pos h]
theorem tk_no {p : Nat → Bool} {m c : Nat} {r : List Nat} (h : p c = false) : tk p m (c :: r) = [] := by
  unfold tk
  cases m with
  | zero => rfl
  | succ m => rw [List.take_succ_cons, List.takeWhile_cons, if_neg (by rw [h]; decide)]
theorem tk_all (p : Nat → Bool) : ∀ (m : Nat) (l : List Nat), ∀ c ∈ tk p m l, p c = true
  | 0, l, c, h => by rw [tk_zero] at h; cases h
  | m + 1, [], c, h => by rw [tk_nil] at h; cases h
  | m + 1, a :: r, c, h => by
    cases e : p a with
    | false => rw [tk_no e] at h; cases h
    | true =>
      rw [tk_cons e] at h
      rcases List.mem_cons.mp h with h | h
      · rw [h]; exact e
      · exact tk_all p m r c h
theorem tk_take (p : Nat → Bool) : ∀ (m : Nat) (l : List Nat), l.take (tk p m l).length = tk p m l
  | 0, l => by rw [tk_zero]; rfl
  | m + 1, [] => by rw [tk_nil]; rfl
  | m + 1, a :: r => by
    cases e : p a with
    | false => rw [tk_no e]; rfl
    | true => rw [tk_cons e, List.length_cons, List.take_succ_cons, tk_take p m r]
theorem tk_le (p : Nat → Bool) (m : Nat) (l : List Nat) : (tk p m l).length ≤ m ∧ (tk p m l).length ≤ l.length := by
  have h := congrArg List.length (tk_take p m l)
  rw [List.length_take] at h
  refine ⟨?_, by omega⟩
  unfold tk
  refine Nat.le_trans (List.Sublist.length_le (List.takeWhile_sublist _)) ?_
  rw [List.length_take]; omega
theorem tk_pos {p : Nat → Bool} {m : Nat} {l : List Nat} (h : hdP p l = true) (hm : 0 < m) : 1 ≤ (tk p m l).length := by
  cases l with
  | nil => cases h
  | cons c r =>
    obtain ⟨m, rfl⟩ : ∃ k, m = k + 1 := ⟨m - 1, by omega⟩
    rw [tk_cons h]; simp
/-- signs of a sort, then one of another, or the end -/
theorem tk_app {p : Nat → Bool} : ∀ {m : Nat} {w r : List Nat}, w.length ≤ m → (∀ c ∈ w, p c = true) → hdP p r = false → tk p m (w ++ r) = w
  | m, [], r, _, _, h => by
    cases r with
    | nil => exact tk_nil p m
    | cons c r => exact tk_no h
  | 0, c :: w, r, l, _, _ => by simp at l
  | m + 1, c :: w, r, l, a, h => by
    rw [List.cons_append, tk_cons (a c (List.mem_cons_self ..)), tk_app (by simpa using l) (fun d hd => a d (List.mem_cons_of_mem _ hd)) h]
inductive RT where | bad (p : Nat) | ok (d : D) (n : Nat)
def RT.sh (k : Nat) : RT → RT | .bad p => .bad (p + k) | .ok d n => .ok d (n + k)
def yesL : List Nat := [121, 101, 115]
def noL : List Nat := [110, 111]
def wrd (w : List Nat) : D := if w = yesL then .bl true else if w = noL then .bl false else .str (S w)
/-- an integer from 0 on, or from 1 on; none: it is refused where it begins -/
def numR (z : Bool) : List Nat → Option (Int × Nat)
  | [] => none
  | c :: r => if isFg c = true then (if c = 48 then (if z = true then some (0, 1) else none) else some (((digitsVal (tk isFg 20 (c :: r)) : Nat) : Int), (tk isFg 20 (c :: r)).length)) else none
def itm : List Nat → RT
  | [] => .bad 0
  | c :: r => if isLt c = true then .ok (wrd (tk isLt 20 (c :: r))) (tk isLt 20 (c :: r)).length
    else if c = 45 then (if hdP isFg r = true then (match numR false r with | none => .bad 1 | some (n, k) => .ok (.int (-n)) (k + 1)) else .ok .non 1)
    else match numR true (c :: r) with | none => .bad 0 | some (n, k) => .ok (.int n) k
def rdW (T : List Nat → RT) : Nat → List D → List Nat → RT
  | 0, _, _ => .bad 0
  | _ + 1, _, [] => .bad 0
  | f + 1, acc, c :: r => if c = 44 then (match T r with | .bad p => .bad (p + 1) | .ok d n => (rdW T f (acc ++ [d]) (r.drop n)).sh (n + 1)) else if c = 41 then .ok (.tup acc) 1 else .bad 0
/-- the thing of a text: what it is and how many signs it has, or the place of the first that is wrong -/
def rdT : Nat → List Nat → RT
  | _, [] => .bad 0
  | 0, c :: r => if c = 40 then .bad 0 else itm (c :: r)
  | n + 1, c :: r => if c = 40 then (if hdP (fun c => decide (c = 41)) r = true then .ok (.tup []) 2 else match rdT n r with | .bad p => .bad (p + 1) | .ok d k => (rdW (rdT n) (r.length + 1) [d] (r.drop k)).sh (k + 1)) else itm (c :: r)
def finT (N : Nat) : RT → RT | .bad p => .bad p | .ok d n => if n < N then .bad n else .ok d n
theorem numR_c (z : Bool) (c : Nat) (r : List Nat) : numR z (c :: r) = if isFg c = true then (if c = 48 then (if z = true then some (0, 1) else none) else some (((digitsVal (tk isFg 20 (c :: r)) : Nat) : Int), (tk isFg 20 (c :: r)).length)) else none := rfl
theorem itm_c (c : Nat) (r : List Nat) : itm (c :: r) = if isLt c = true then .ok (wrd (tk isLt 20 (c :: r))) (tk isLt 20 (c :: r)).length
    else if c = 45 then (if hdP isFg r = true then (match numR false r with | none => .bad 1 | some (n, k) => .ok (.int (-n)) (k + 1)) else .ok .non 1)
    else match numR true (c :: r) with | none => .bad 0 | some (n, k) => .ok (.int n) k := rfl
theorem rdW_c (T : List Nat → RT) (f : Nat) (acc : List D) (c : Nat) (r : List Nat) : rdW T (f + 1) acc (c :: r) = if c = 44 then (match T r with | .bad p => .bad (p + 1) | .ok d n => (rdW T f (acc ++ [d]) (r.drop n)).sh (n + 1)) else if c = 41 then .ok (.tup acc) 1 else .bad 0 := rfl
theorem rdT_0 (c : Nat) (r : List Nat) : rdT 0 (c :: r) = if c = 40 then .bad 0 else itm (c :: r) := rfl
theorem rdT_c (n c : Nat) (r : List Nat) : rdT (n + 1) (c :: r) = if c = 40 then (if hdP (fun c => decide (c = 41)) r = true then .ok (.tup []) 2 else match rdT n r with | .bad p => .bad (p + 1) | .ok d k => (rdW (rdT n) (r.length + 1) [d] (r.drop k)).sh (k + 1)) else itm (c :: r) := rfl
theorem rdT_nil (n : Nat) : rdT n [] = .bad 0 := by cases n <;> rfl
theorem numR_le {z : Bool} {l : List Nat} {n : Int} {k : Nat} (h : numR z l = some (n, k)) : 1 ≤ k ∧ k ≤ l.length ∧ k ≤ 20 := by
  cases l with
  | nil => cases h
  | cons c r =>
    rw [numR_c] at h
    split at h
    · rename_i hc
      split at h
      · split at h
        · injection h with h; injection h with h1 h2; subst h2; simp
        · cases h
      · injection h with h; injection h with h1 h2; subst h2
        have := tk_le isFg 20 (c :: r)
        exact ⟨tk_pos (p := isFg) (l := c :: r) hc (by decide), this.2, this.1⟩
    · cases h
theorem itm_le {l : List Nat} {d : D} {n : Nat} (h : itm l = .ok d n) : 1 ≤ n ∧ n ≤ l.length := by
  cases l with
  | nil => cases h
  | cons c r =>
    rw [itm_c] at h
    split at h
    · rename_i hc
      injection h with h1 h2; subst h2
      exact ⟨tk_pos (p := isLt) (l := c :: r) hc (by decide), (tk_le isLt 20 (c :: r)).2⟩
    · split at h
      · split at h
        · split at h
          · cases h
          · rename_i e
            injection h with h1 h2; subst h2
            have := numR_le e
            simp only [List.length_cons]; omega
        · injection h with h1 h2; subst h2; simp
      · split at h
        · cases h
        · rename_i e
          injection h with h1 h2; subst h2
          have := numR_le e
          exact ⟨this.1, this.2.1⟩
theorem rdW_le {T : List Nat → RT} (hT : ∀ l d n, T l = .ok d n → 1 ≤ n ∧ n ≤ l.length) : ∀ (f : Nat) (acc : List D) (l : List Nat) (d : D) (n : Nat), rdW T f acc l = .ok d n → 1 ≤ n ∧ n ≤ l.length
  | 0, _, _, _, _, h => by cases h
  | f + 1, acc, [], _, _, h => by cases h
  | f + 1, acc, c :: r, d, n, h => by
    rw [rdW_c] at h
    split at h
    · split at h
      · cases h
      · rename_i d1 n1 e
        have h1 := hT _ _ _ e
        cases e2 : rdW T f (acc ++ [d1]) (r.drop n1) with
        | bad p => rw [e2] at h; cases h
        | ok d2 n2 =>
          rw [e2] at h
          injection h with h3 h4; subst h4
          have h5 := rdW_le hT f _ _ _ _ e2
          rw [List.length_drop] at h5
          simp only [List.length_cons]; omega
    · split at h
      · injection h with h1 h2; subst h2; simp
      · cases h
theorem rdT_le : ∀ (m : Nat) (l : List Nat) (d : D) (n : Nat), rdT m l = .ok d n → 1 ≤ n ∧ n ≤ l.length
  | _, [], _, _, h => by rw [rdT_nil] at h; cases h
  | 0, c :: r, d, n, h => by
    rw [rdT_0] at h
    split at h
    · cases h
    · exact itm_le h
  | m + 1, c :: r, d, n, h => by
    rw [rdT_c] at h
    split at h
    · split at h
      · rename_i hr
        injection h with h1 h2; subst h2
        cases r with
        | nil => cases hr
        | cons e r => simp
      · split at h
        · cases h
        · rename_i d1 n1 e
          have h1 := rdT_le m _ _ _ e
          cases e2 : rdW (rdT m) (r.length + 1) [d1] (r.drop n1) with
          | bad p => rw [e2] at h; cases h
          | ok d2 n2 =>
            rw [e2] at h
            injection h with h3 h4; subst h4
            have h5 := rdW_le (rdT_le m) _ _ _ _ _ e2
            rw [List.length_drop] at h5
            simp only [List.length_cons]; omega
    · exact itm_le h
end

section
open SX NumText
def fg1 (c : Nat) : Bool := decide (49 ≤ c) && decide (c ≤ 57)
/-- how many signs make an item that is no tuple -/
def tkn : List Nat → Nat
  | [] => 0
  | c :: r => if isLt c = true then (tk isLt 20 (c :: r)).length else if c = 48 then 1 else
    if hdP fg1 ((c :: r).drop (if c = 45 then 1 else 0)) = true then (if c = 45 then 1 else 0) + (tk isFg 20 ((c :: r).drop (if c = 45 then 1 else 0))).length else (if c = 45 then 1 else 0)
def ival : List Nat → Int
  | [] => 0
  | c :: r => if c = 45 then -((digitsVal r : Nat) : Int) else ((digitsVal (c :: r) : Nat) : Int)
/-- the thing of such an item -/
def itD (w : List Nat) : D := if w = [45] then .non else if w = yesL then .bl true else if w = noL then .bl false else if hdP (fun c => decide (c = 45) || isFg c) w = true then .int (ival w) else .str (S w)
theorem tkn_c (c : Nat) (r : List Nat) : tkn (c :: r) = if isLt c = true then (tk isLt 20 (c :: r)).length else if c = 48 then 1 else
    if hdP fg1 ((c :: r).drop (if c = 45 then 1 else 0)) = true then (if c = 45 then 1 else 0) + (tk isFg 20 ((c :: r).drop (if c = 45 then 1 else 0))).length else (if c = 45 then 1 else 0) := rfl
theorem ival_c (c : Nat) (r : List Nat) : ival (c :: r) = if c = 45 then -((digitsVal r : Nat) : Int) else ((digitsVal (c :: r) : Nat) : Int) := rfl
theorem tkn_le (l : List Nat) : tkn l ≤ l.length := by
  cases l with
  | nil => exact Nat.le_refl _
  | cons c r =>
    rw [tkn_c]
    split
    · exact (tk_le isLt 20 (c :: r)).2
    · split
      · simp
      · have h := (tk_le isFg 20 ((c :: r).drop (if c = 45 then 1 else 0))).2
        rw [List.length_drop] at h
        by_cases hc : c = 45
        · simp only [if_pos hc] at h ⊢
          simp only [List.length_cons] at h ⊢
          split <;> omega
        · simp only [if_neg hc] at h ⊢
          simp only [List.length_cons] at h ⊢
          split <;> omega
theorem isLt_not {c : Nat} (h : isLt c = true) : c ≠ 45 ∧ isFg c = false ∧ c ≠ 40 ∧ c ≠ 41 ∧ c ≠ 44 := by
  have h := isLt_ok.mp h
  refine ⟨by omega, ?_, by omega, by omega, by omega⟩
  cases e : isFg c with
  | false => rfl
  | true => have := isFg_ok.mp e; omega
theorem isFg_not {c : Nat} (h : isFg c = true) : c ≠ 45 ∧ isLt c = false ∧ c ≠ 40 ∧ c ≠ 41 ∧ c ≠ 44 := by
  have h := isFg_ok.mp h
  refine ⟨by omega, ?_, by omega, by omega, by omega⟩
  cases e : isLt c with
  | false => rfl
  | true => have := isLt_ok.mp e; omega
theorem fg1_of {c : Nat} (h : isFg c = true) (h0 : c ≠ 48) : fg1 c = true := by
  have h := isFg_ok.mp h
  unfold fg1; simp; omega
theorem fg1_not {c : Nat} (h : isFg c = false) : fg1 c = false := by
  cases e : fg1 c with
  | false => rfl
  | true =>
    have : isFg c = true := isFg_ok.mpr (by unfold fg1 at e; simp at e; omega)
    rw [h] at this; cases this
/-- the reader's items are those of the law's own reading -/
theorem itm_tkn {l : List Nat} : (∀ d n, itm l = .ok d n → tkn l = n ∧ itD (l.take n) = d) ∧ (∀ p, itm l = .bad p → (p = 0 ∧ tkn l = 0) ∨ (p = 1 ∧ ∃ r, l = 45 :: 48 :: r)) := by
  cases l with
  | nil => exact ⟨(fun d n h => nomatch h), (fun p h => by injection h with h; exact .inl ⟨h.symm, rfl⟩)⟩
  | cons c r =>
    by_cases hl : isLt c = true
    · have hw := isLt_not hl
      have e : itm (c :: r) = .ok (wrd (tk isLt 20 (c :: r))) (tk isLt 20 (c :: r)).length := by rw [itm_c, if_pos hl]
      rw [e]
      refine ⟨fun d n h => ?_, fun p h => by cases h⟩
      injection h with h1 h2; subst h1; subst h2
      have et : tkn (c :: r) = (tk isLt 20 (c :: r)).length := by rw [tkn_c, if_pos hl]
      refine ⟨et, ?_⟩
      rw [tk_take, tk_cons hl]
      unfold itD wrd
      rw [if_neg (by intro z; injection z with z1 z2; exact hw.1 z1)]
      split
      · rfl
      · split
        · rfl
        · rw [if_neg]
          simp [hdP, hw.1, hw.2.1]
    · have hl' : isLt c = false := by simpa using hl
      by_cases hm : c = 45
      · subst hm
        by_cases hr : hdP isFg r = true
        · cases r with
          | nil => cases hr
          | cons e r =>
            have hr : isFg e = true := hr
            by_cases h0 : e = 48
            · subst h0
              have ei : itm (45 :: 48 :: r) = .bad 1 := by
                rw [itm_c, if_neg hl, if_pos rfl, if_pos (by show isFg 48 = true; decide)]
                have : numR false (48 :: r) = none := by rw [numR_c, if_pos (by decide), if_pos rfl]; rfl
                rw [this]
              rw [ei]
              exact ⟨(fun d n h => nomatch h), (fun p h => by injection h with h; exact .inr ⟨h.symm, r, rfl⟩)⟩
            · have en : numR false (e :: r) = some (((digitsVal (tk isFg 20 (e :: r)) : Nat) : Int), (tk isFg 20 (e :: r)).length) := by rw [numR_c, if_pos hr, if_neg h0]
              have ei : itm (45 :: e :: r) = .ok (.int (-((digitsVal (tk isFg 20 (e :: r)) : Nat) : Int))) ((tk isFg 20 (e :: r)).length + 1) := by
                rw [itm_c, if_neg hl, if_pos rfl, if_pos (by show isFg e = true; exact hr), en]
              rw [ei]
              refine ⟨fun d n h => ?_, fun p h => by cases h⟩
              injection h with h1 h2; subst h1; subst h2
              have et : tkn (45 :: e :: r) = (tk isFg 20 (e :: r)).length + 1 := by
                rw [tkn_c, if_neg hl, if_neg (by decide)]
                simp only [if_true]
                rw [if_pos (by show fg1 e = true; exact fg1_of hr h0), Nat.add_comm]; rfl
              refine ⟨et, ?_⟩
              rw [List.take_succ_cons, tk_take]
              have h1 := tk_pos (p := isFg) (m := 20) (l := e :: r) hr (by decide)
              unfold itD
              rw [if_neg (by intro z; injection z with z1 z2; rw [z2] at h1; simp at h1), if_neg (by intro z; injection z with z1 z2; omega), if_neg (by intro z; injection z with z1 z2; omega), if_pos (by simp [hdP])]
              rw [ival_c, if_pos rfl]
        · have ei : itm (45 :: r) = .ok .non 1 := by rw [itm_c, if_neg hl, if_pos rfl, if_neg hr]
          rw [ei]
          refine ⟨fun d n h => ?_, fun p h => by cases h⟩
          injection h with h1 h2; subst h1; subst h2
          have et : tkn (45 :: r) = 1 := by
            rw [tkn_c, if_neg hl, if_neg (by decide)]
            simp only [if_true]
            rw [if_neg]
            cases r with
            | nil => simp [hdP]
            | cons e r =>
              have hr : ¬ isFg e = true := hr
              show ¬ fg1 e = true
              rw [fg1_not (by simpa using hr)]; decide
          exact ⟨et, by unfold itD; rw [if_pos (by simp)]⟩
      · by_cases hf : isFg c = true
        · by_cases h0 : c = 48
          · subst h0
            have ei : itm (48 :: r) = .ok (.int 0) 1 := by
              rw [itm_c, if_neg hl, if_neg hm]
              have : numR true (48 :: r) = some (0, 1) := by rw [numR_c, if_pos hf, if_pos rfl, if_pos rfl]
              rw [this]
            rw [ei]
            refine ⟨fun d n h => ?_, fun p h => by cases h⟩
            injection h with h1 h2; subst h1; subst h2
            refine ⟨by rw [tkn_c, if_neg hl, if_pos rfl], ?_⟩
            show itD [48] = _
            rfl
          · have en : numR true (c :: r) = some (((digitsVal (tk isFg 20 (c :: r)) : Nat) : Int), (tk isFg 20 (c :: r)).length) := by rw [numR_c, if_pos hf, if_neg h0]
            have ei : itm (c :: r) = .ok (.int ((digitsVal (tk isFg 20 (c :: r)) : Nat) : Int)) (tk isFg 20 (c :: r)).length := by
              rw [itm_c, if_neg hl, if_neg hm, en]
            rw [ei]
            refine ⟨fun d n h => ?_, fun p h => by cases h⟩
            injection h with h1 h2; subst h1; subst h2
            have et : tkn (c :: r) = (tk isFg 20 (c :: r)).length := by
              rw [tkn_c, if_neg hl, if_neg h0]
              simp only [if_neg hm]
              rw [List.drop_zero, if_pos (by show fg1 c = true; exact fg1_of hf h0), Nat.zero_add]
            refine ⟨et, ?_⟩
            rw [tk_take, tk_cons hf]
            have hc := isFg_ok.mp hf
            unfold itD
            rw [if_neg (by intro z; injection z with z1 z2; omega), if_neg (by intro z; injection z with z1 z2; omega), if_neg (by intro z; injection z with z1 z2; omega), if_pos (by simp [hdP, hf])]
            rw [ival_c, if_neg hm]
        · have hf' : isFg c = false := by simpa using hf
          have ei : itm (c :: r) = .bad 0 := by
            rw [itm_c, if_neg hl, if_neg hm]
            have : numR true (c :: r) = none := by rw [numR_c, if_neg hf]
            rw [this]
          rw [ei]
          refine ⟨(fun d n h => nomatch h), fun p h => ?_⟩
          injection h with h
          refine .inl ⟨h.symm, ?_⟩
          have h0 : c ≠ 48 := by intro z; subst z; exact hf (by decide)
          rw [tkn_c, if_neg hl, if_neg h0]
          simp only [if_neg hm]
          rw [List.drop_zero, if_neg (by show ¬ fg1 c = true; rw [fg1_not hf']; decide)]
/-- the law's own reading, with a stack (its top first); due: 0 an item, 1 the first of a row, or its end, 2 behind an item -/
def mac : Nat → List Nat → Nat → List (List D) → Nat → RT
  | 0, _, a, st, due => match st with
    | [d :: _] => if due = 2 then .ok d a else .bad a
    | _ => .bad a
  | n + 1, [], a, st, due => mac n [] a st due
  | _ + 1, _ :: _, a, [], _ => .bad a
  | n + 1, c :: r, a, f :: fs, due =>
    if c = 41 ∧ fs ≠ [] ∧ due ≠ 0 then (match fs with | g :: gs => mac n r (a + 1) ((g ++ [.tup f]) :: gs) 2 | [] => .bad a)
    else if c = 44 ∧ fs ≠ [] ∧ due = 2 then mac n r (a + 1) (f :: fs) 0
    else if c = 40 ∧ due ≠ 2 ∧ (f :: fs).length ≤ 20 then mac n r (a + 1) ([] :: f :: fs) 1
    else if due = 2 ∨ tkn (c :: r) = 0 then .bad a
    else mac n ((c :: r).drop (tkn (c :: r))) (a + tkn (c :: r)) ((f ++ [itD ((c :: r).take (tkn (c :: r)))]) :: fs) 2
theorem mac_nil : ∀ (n a : Nat) (st : List (List D)) (due : Nat), mac n [] a st due = mac 0 [] a st due
  | 0, _, _, _ => rfl
  | n + 1, a, st, due => by
    have := mac_nil n a st due
    unfold mac; exact this
theorem mac_more : ∀ (n m : Nat) (l : List Nat) (a : Nat) (st : List (List D)) (due : Nat), l.length ≤ n → l.length ≤ m → mac n l a st due = mac m l a st due
  | n, m, [], a, st, due, _, _ => by rw [mac_nil n, mac_nil m]
  | 0, _, c :: r, _, _, _, h, _ => by simp at h
  | _ + 1, 0, c :: r, _, _, _, _, h => by simp at h
  | n + 1, m + 1, c :: r, a, [], due, _, _ => by unfold mac; rfl
  | n + 1, m + 1, c :: r, a, f :: fs, due, h1, h2 => by
    have h1 : r.length ≤ n := by simpa using h1
    have h2 : r.length ≤ m := by simpa using h2
    unfold mac
    split
    · cases fs with
      | nil => rfl
      | cons g gs => exact mac_more n m _ _ _ _ h1 h2
    · split
      · exact mac_more n m _ _ _ _ h1 h2
      · split
        · exact mac_more n m _ _ _ _ h1 h2
        · split
          · rfl
          · rename_i z
            have hp : 1 ≤ tkn (c :: r) := by omega
            refine mac_more n m _ _ _ _ ?_ ?_ <;> (rw [List.length_drop, List.length_cons]; omega)
def M (l : List Nat) (a : Nat) (st : List (List D)) (due : Nat) : RT := mac l.length l a st due
theorem M_of {n : Nat} {l : List Nat} (h : l.length ≤ n) (a : Nat) (st : List (List D)) (due : Nat) : mac n l a st due = M l a st due := mac_more _ _ _ _ _ _ h (Nat.le_refl _)
theorem M_cons (c : Nat) (r : List Nat) (a : Nat) (f : List D) (fs : List (List D)) (due : Nat) : M (c :: r) a (f :: fs) due =
    if c = 41 ∧ fs ≠ [] ∧ due ≠ 0 then (match fs with | g :: gs => M r (a + 1) ((g ++ [.tup f]) :: gs) 2 | [] => .bad a)
    else if c = 44 ∧ fs ≠ [] ∧ due = 2 then M r (a + 1) (f :: fs) 0
    else if c = 40 ∧ due ≠ 2 ∧ (f :: fs).length ≤ 20 then M r (a + 1) ([] :: f :: fs) 1
    else if due = 2 ∨ tkn (c :: r) = 0 then .bad a
    else M ((c :: r).drop (tkn (c :: r))) (a + tkn (c :: r)) ((f ++ [itD ((c :: r).take (tkn (c :: r)))]) :: fs) 2 := by
  show mac (r.length + 1) (c :: r) a (f :: fs) due = _
  unfold mac
  split
  · cases fs <;> rfl
  · split
    · rfl
    · split
      · rfl
      · split
        · rfl
        · rename_i z
          have hp : 1 ≤ tkn (c :: r) := by omega
          exact M_of (by rw [List.length_drop, List.length_cons]; omega) _ _ _
theorem M_comma {r : List Nat} {a : Nat} {f g : List D} {gs : List (List D)} : M (44 :: r) a (f :: g :: gs) 2 = M r (a + 1) (f :: g :: gs) 0 := by
  rw [M_cons, if_neg (by simp), if_pos (by simp)]
theorem M_close {r : List Nat} {a : Nat} {f g : List D} {gs : List (List D)} {due : Nat} (h : due ≠ 0) : M (41 :: r) a (f :: g :: gs) due = M r (a + 1) ((g ++ [.tup f]) :: gs) 2 := by
  rw [M_cons, if_pos (by simp [h])]
theorem M_open {r : List Nat} {a : Nat} {f : List D} {fs : List (List D)} {due : Nat} (h : due ≠ 2) (l : (f :: fs).length ≤ 20) : M (40 :: r) a (f :: fs) due = M r (a + 1) ([] :: f :: fs) 1 := by
  rw [M_cons, if_neg (by simp), if_neg (by simp), if_pos ⟨rfl, h, l⟩]
theorem M_done {c : Nat} {r : List Nat} {a : Nat} {f : List D} {fs : List (List D)} (h1 : fs = [] ∨ (c ≠ 41 ∧ c ≠ 44)) : M (c :: r) a (f :: fs) 2 = .bad a := by
  rw [M_cons, if_neg (fun z => h1.elim z.2.1 fun y => y.1 z.1), if_neg (fun z => h1.elim z.2.1 fun y => y.2 z.1), if_neg (fun z => z.2.1 rfl), if_pos (.inl rfl)]
theorem M_nil (a : Nat) (f : List D) (fs : List (List D)) (due : Nat) (h : fs ≠ [] ∨ due ≠ 2) : M [] a (f :: fs) due = .bad a := by
  show mac 0 [] a (f :: fs) due = .bad a
  unfold mac
  split
  · rename_i e
    injection e with e1 e2
    rcases h with h | h
    · exact absurd e2 h
    · rw [if_neg h]
  · rfl
theorem itm_M {l : List Nat} {a : Nat} {f : List D} {fs : List (List D)} {due : Nat} (h40 : ∀ r, l ≠ 40 :: r) (hd : due = 0 ∨ due = 1 ∧ hdP (fun c => decide (c = 41)) l = false) :
    match itm l with | .bad p => M l a (f :: fs) due = .bad (a + p) | .ok d n => M l a (f :: fs) due = M (l.drop n) (a + n) ((f ++ [d]) :: fs) 2 := by
  have d2 : due ≠ 2 := by omega
  obtain ⟨k1, k2⟩ := itm_tkn (l := l)
  cases l with
  | nil =>
    show M [] a (f :: fs) due = .bad (a + 0)
    exact M_nil a f fs due (.inr d2)
  | cons c r =>
    have e : M (c :: r) a (f :: fs) due = if due = 2 ∨ tkn (c :: r) = 0 then .bad a else M ((c :: r).drop (tkn (c :: r))) (a + tkn (c :: r)) ((f ++ [itD ((c :: r).take (tkn (c :: r)))]) :: fs) 2 := by
      rw [M_cons, if_neg, if_neg (fun z => d2 z.2.2), if_neg (fun z => h40 r (by rw [z.1]))]
      rintro ⟨z1, z2, z3⟩
      rcases hd with hd | ⟨hd, h2⟩
      · exact z3 hd
      · subst z1; simp [hdP] at h2
    cases ei : itm (c :: r) with
    | ok d n =>
      obtain ⟨e1, e2⟩ := k1 _ _ ei
      have hn := itm_le ei
      show M (c :: r) a (f :: fs) due = M ((c :: r).drop n) (a + n) ((f ++ [d]) :: fs) 2
      rw [e, e1, if_neg (by omega), e2]
    | bad p =>
      show M (c :: r) a (f :: fs) due = .bad (a + p)
      rcases k2 p ei with ⟨rfl, h0⟩ | ⟨rfl, r', h0⟩
      · rw [e, if_pos (.inr h0)]; rfl
      · injection h0 with h1 h2; subst h1; subst h2
        have et : tkn (45 :: 48 :: r') = 1 := by
          rw [tkn_c, if_neg (by decide), if_neg (by decide)]; rfl
        rw [e, et, if_neg (by omega)]
        exact M_done (.inr (by decide))
theorem rdW_M {T : List Nat → RT} (lT : ∀ l d n, T l = .ok d n → 1 ≤ n ∧ n ≤ l.length) {g : List D} {gs : List (List D)}
    (hT : ∀ (l : List Nat) (a : Nat) (f : List D), match T l with | .bad p => M l a (f :: g :: gs) 0 = .bad (a + p) | .ok d n => M l a (f :: g :: gs) 0 = M (l.drop n) (a + n) ((f ++ [d]) :: g :: gs) 2) :
    ∀ (k : Nat) (acc : List D) (l : List Nat) (a : Nat), l.length < k → match rdW T k acc l with | .bad p => M l a (acc :: g :: gs) 2 = .bad (a + p) | .ok d n => M l a (acc :: g :: gs) 2 = M (l.drop n) (a + n) ((g ++ [d]) :: gs) 2
  | 0, _, _, _, h => by omega
  | k + 1, acc, [], a, _ => by
    show M [] a (acc :: g :: gs) 2 = .bad (a + 0)
    exact M_nil a acc _ 2 (.inl (by simp))
  | k + 1, acc, c :: r, a, h => by
    have h : r.length < k := by simpa using h
    by_cases h44 : c = 44
    · subst h44
      have e : rdW T (k + 1) acc (44 :: r) = match T r with | .bad p => .bad (p + 1) | .ok d n => (rdW T k (acc ++ [d]) (r.drop n)).sh (n + 1) := rfl
      rw [e, M_comma]
      have ht := hT r (a + 1) acc
      cases et : T r with
      | bad p =>
        rw [et] at ht
        dsimp only at ht ⊢
        rw [ht]
        congr 1
        omega
      | ok d n =>
        rw [et] at ht
        dsimp only at ht ⊢
        have hl := lT _ _ _ et
        have ih := rdW_M lT hT k (acc ++ [d]) (r.drop n) (a + 1 + n) (by rw [List.length_drop]; omega)
        cases ew : rdW T k (acc ++ [d]) (r.drop n) with
        | bad p =>
          rw [ew] at ih
          dsimp only [RT.sh] at ih ⊢
          rw [ht, ih]
          congr 1
          omega
        | ok d2 n2 =>
          rw [ew] at ih
          dsimp only [RT.sh] at ih ⊢
          rw [ht, ih, List.drop_drop, show a + 1 + n + n2 = a + (n2 + (n + 1)) by omega, show n2 + (n + 1) = (n + n2) + 1 by omega, List.drop_succ_cons]
    · by_cases h41 : c = 41
      · subst h41
        have e : rdW T (k + 1) acc (41 :: r) = .ok (.tup acc) 1 := rfl
        rw [e]
        dsimp only
        exact M_close (by decide)
      · have e : rdW T (k + 1) acc (c :: r) = .bad 0 := by rw [rdW_c, if_neg h44, if_neg h41]
        rw [e]
        dsimp only
        exact M_done (.inr ⟨h41, h44⟩)
theorem rdT_M : ∀ (m : Nat) (l : List Nat) (a : Nat) (f : List D) (fs : List (List D)) (due : Nat), (f :: fs).length + m = 21 → (due = 0 ∨ due = 1 ∧ hdP (fun c => decide (c = 41)) l = false) →
    match rdT m l with | .bad p => M l a (f :: fs) due = .bad (a + p) | .ok d n => M l a (f :: fs) due = M (l.drop n) (a + n) ((f ++ [d]) :: fs) 2
  | m, [], a, f, fs, due, _, hd => by
    have e : rdT m [] = .bad 0 := by cases m <;> rfl
    rw [e]
    exact M_nil a f fs due (.inr (by omega))
  | 0, c :: r, a, f, fs, due, hl, hd => by
    by_cases h40 : c = 40
    · subst h40
      have e : rdT 0 (40 :: r) = .bad 0 := rfl
      rw [e]
      dsimp only
      rw [M_cons, if_neg (by simp), if_neg (by simp), if_neg (by rintro ⟨_, _, z⟩; omega), if_pos (.inr rfl)]
      rfl
    · have e : rdT 0 (c :: r) = itm (c :: r) := by rw [rdT_0, if_neg h40]
      rw [e]
      exact itm_M (fun r z => by injection z with z1 z2; exact h40 z1) hd
  | m + 1, c :: r, a, f, fs, due, hl, hd => by
    by_cases h40 : c = 40
    · subst h40
      have d2 : due ≠ 2 := by omega
      rw [M_open d2 (by omega)]
      by_cases h41 : hdP (fun c => decide (c = 41)) r = true
      · have e : rdT (m + 1) (40 :: r) = .ok (.tup []) 2 := by rw [rdT_c, if_pos rfl, if_pos h41]
        rw [e]
        dsimp only
        cases r with
        | nil => cases h41
        | cons x r =>
          have : x = 41 := of_decide_eq_true h41
          subst this
          exact M_close (by decide)
      · have h41' : hdP (fun c => decide (c = 41)) r = false := by simpa using h41
        have e : rdT (m + 1) (40 :: r) = match rdT m r with | .bad p => .bad (p + 1) | .ok d k => (rdW (rdT m) (r.length + 1) [d] (r.drop k)).sh (k + 1) := by
          show (if (40 : Nat) = 40 then _ else _) = _
          rw [if_pos rfl, if_neg h41]
        rw [e]
        have ih := rdT_M m r (a + 1) [] (f :: fs) 1 (by simp only [List.length_cons] at hl ⊢; omega) (.inr ⟨rfl, h41'⟩)
        cases et : rdT m r with
        | bad p =>
          rw [et] at ih
          dsimp only at ih ⊢
          rw [ih]
          congr 1
          omega
        | ok d n =>
          rw [et] at ih
          dsimp only at ih ⊢
          have hn := rdT_le _ _ _ _ et
          have hw := rdW_M (T := rdT m) (rdT_le m) (g := f) (gs := fs) (fun l a f' => rdT_M m l a f' (f :: fs) 0 (by simp only [List.length_cons] at hl ⊢; omega) (.inl rfl)) (r.length + 1) [d] (r.drop n) (a + 1 + n) (by rw [List.length_drop]; omega)
          cases ew : rdW (rdT m) (r.length + 1) [d] (r.drop n) with
          | bad p =>
            rw [ew] at hw
            dsimp only [RT.sh] at hw ⊢
            rw [ih]
            show M _ _ ([d] :: f :: fs) 2 = _
            rw [hw]
            congr 1
            omega
          | ok d2 n2 =>
            rw [ew] at hw
            dsimp only [RT.sh] at hw ⊢
            rw [ih]
            show M _ _ ([d] :: f :: fs) 2 = _
            rw [hw, List.drop_drop, show a + 1 + n + n2 = a + (n2 + (n + 1)) by omega, show n2 + (n + 1) = (n + n2) + 1 by omega, List.drop_succ_cons]
    · have e : rdT (m + 1) (c :: r) = itm (c :: r) := by rw [rdT_c, if_neg h40]
      rw [e]
      exact itm_M (fun r z => by injection z with z1 z2; exact h40 z1) hd
/-- both readings are one -/
theorem mac_rd (L : List Nat) : mac L.length L 0 [[]] 0 = finT L.length (rdT 20 L) := by
  have h := rdT_M 20 L 0 [] [] 0 rfl (.inl rfl)
  show M L 0 [[]] 0 = _
  cases e : rdT 20 L with
  | bad p =>
    rw [e] at h
    dsimp only at h
    rw [h, Nat.zero_add]; rfl
  | ok d n =>
    rw [e] at h
    dsimp only at h
    rw [h]
    have hn := rdT_le _ _ _ _ e
    show _ = if n < L.length then RT.bad n else RT.ok d n
    by_cases hN : n < L.length
    · rw [if_pos hN]
      cases ed : L.drop n with
      | nil => have := congrArg List.length ed; rw [List.length_drop] at this; simp at this; omega
      | cons c r => rw [Nat.zero_add]; exact M_done (.inl rfl)
    · rw [if_neg hN, List.drop_eq_nil_of_le (by omega), Nat.zero_add]
      rfl
end

section
open SX NumText
def wordB (w : List Nat) : Bool := decide (1 ≤ w.length) && decide (w.length ≤ 20) && w.all isLt && !decide (w = yesL) && !decide (w = noL)
/-- the signs of an integer -/
def numI (i : Int) : List Nat := if i < 0 then 45 :: TL.numL i.natAbs else TL.numL i.natAbs
/-- what can be written, nested at most so deep -/
def canW : Nat → D → Bool
  | _, .non => true
  | _, .bl _ => true
  | _, .int _ => true
  | _, .str s => wordB s.cps.toList
  | n + 1, .tup xs => xs.all (canW n)
  | _, _ => false
/-- .. with integers of at most 20 figures -/
def okW : Nat → D → Bool
  | _, .non => true
  | _, .bl _ => true
  | _, .int i => decide (i.natAbs < 10 ^ 20)
  | _, .str s => wordB s.cps.toList
  | n + 1, .tup xs => xs.all (okW n)
  | _, _ => false
def wr : Nat → D → List Nat
  | _, .non => [45]
  | _, .bl b => if b then yesL else noL
  | _, .int i => numI i
  | _, .str s => s.cps.toList
  | n + 1, .tup xs => 40 :: (TL.joinL [44] (xs.map (wr n)) ++ [41])
  | _, _ => []
theorem okW_can : ∀ (n : Nat) (d : D), okW n d = true → canW n d = true
  | n + 1, .tup xs, h => by
    have h : xs.all (okW n) = true := h
    show xs.all (canW n) = true
    rw [List.all_eq_true] at h ⊢
    exact fun x hx => okW_can n x (h x hx)
  | 0, .tup xs, h => by cases h
  | 0, .non, h => rfl
  | _ + 1, .non, h => rfl
  | 0, .bl _, h => rfl
  | _ + 1, .bl _, h => rfl
  | 0, .int _, h => rfl
  | _ + 1, .int _, h => rfl
  | 0, .str s, h => h
  | _ + 1, .str s, h => h
  | 0, .fl _, h => by cases h
  | _ + 1, .fl _, h => by cases h
  | 0, .sl _, h => by cases h
  | _ + 1, .sl _, h => by cases h
  | 0, .ob _ _ _, h => by cases h
  | _ + 1, .ob _ _ _, h => by cases h
  | 0, .emp, h => by cases h
  | _ + 1, .emp, h => by cases h
  | 0, .ref _, h => by cases h
  | _ + 1, .ref _, h => by cases h
  | 0, .ex _, h => by cases h
  | _ + 1, .ex _, h => by cases h
  | 0, .exf _ _ _, h => by cases h
  | _ + 1, .exf _ _ _, h => by cases h
  | 0, .fn _, h => by cases h
  | _ + 1, .fn _, h => by cases h
  | 0, .lam _ _ _ _ _, h => by cases h
  | _ + 1, .lam _ _ _ _ _, h => by cases h
/-- the writing does not ask how deep one looks -/
theorem okW_wr : ∀ (n m : Nat) (d : D), okW n d = true → canW m d = true → okW m d = true ∧ wr m d = wr n d
  | n + 1, m + 1, .tup xs, h, h2 => by
    have h : xs.all (okW n) = true := h
    have h2 : xs.all (canW m) = true := h2
    rw [List.all_eq_true] at h h2
    refine ⟨?_, ?_⟩
    · show xs.all (okW m) = true
      rw [List.all_eq_true]
      exact fun x hx => (okW_wr n m x (h x hx) (h2 x hx)).1
    · show 40 :: (TL.joinL [44] (xs.map (wr m)) ++ [41]) = 40 :: (TL.joinL [44] (xs.map (wr n)) ++ [41])
      rw [List.map_congr_left fun x hx => (okW_wr n m x (h x hx) (h2 x hx)).2]
  | 0, _, .tup xs, h, _ => by cases h
  | _, 0, .tup xs, _, h => by cases h
  | 0, 0, .non, h, _ => ⟨rfl, rfl⟩
  | _ + 1, 0, .non, h, _ => ⟨rfl, rfl⟩
  | 0, _ + 1, .non, h, _ => ⟨rfl, rfl⟩
  | _ + 1, _ + 1, .non, h, _ => ⟨rfl, rfl⟩
  | 0, 0, .bl _, h, _ => ⟨rfl, rfl⟩
  | _ + 1, 0, .bl _, h, _ => ⟨rfl, rfl⟩
  | 0, _ + 1, .bl _, h, _ => ⟨rfl, rfl⟩
  | _ + 1, _ + 1, .bl _, h, _ => ⟨rfl, rfl⟩
  | 0, 0, .int _, h, _ => ⟨h, rfl⟩
  | _ + 1, 0, .int _, h, _ => ⟨h, rfl⟩
  | 0, _ + 1, .int _, h, _ => ⟨h, rfl⟩
  | _ + 1, _ + 1, .int _, h, _ => ⟨h, rfl⟩
  | 0, 0, .str _, h, _ => ⟨h, rfl⟩
  | _ + 1, 0, .str _, h, _ => ⟨h, rfl⟩
  | 0, _ + 1, .str _, h, _ => ⟨h, rfl⟩
  | _ + 1, _ + 1, .str _, h, _ => ⟨h, rfl⟩
  | 0, _, .fl _, h, _ => by cases h
  | _ + 1, _, .fl _, h, _ => by cases h
  | 0, _, .sl _, h, _ => by cases h
  | _ + 1, _, .sl _, h, _ => by cases h
  | 0, _, .ob _ _ _, h, _ => by cases h
  | _ + 1, _, .ob _ _ _, h, _ => by cases h
  | 0, _, .emp, h, _ => by cases h
  | _ + 1, _, .emp, h, _ => by cases h
  | 0, _, .ref _, h, _ => by cases h
  | _ + 1, _, .ref _, h, _ => by cases h
  | 0, _, .ex _, h, _ => by cases h
  | _ + 1, _, .ex _, h, _ => by cases h
  | 0, _, .exf _ _ _, h, _ => by cases h
  | _ + 1, _, .exf _ _ _, h, _ => by cases h
  | 0, _, .fn _, h, _ => by cases h
  | _ + 1, _, .fn _, h, _ => by cases h
  | 0, _, .lam _ _ _ _ _, h, _ => by cases h
  | _ + 1, _, .lam _ _ _ _ _, h, _ => by cases h
theorem okW_up : ∀ (n : Nat) (d : D), okW n d = true → okW (n + 1) d = true
  | n + 1, .tup xs, h => by
    have h : xs.all (okW n) = true := h
    show xs.all (okW (n + 1)) = true
    rw [List.all_eq_true] at h ⊢
    exact fun x hx => okW_up n x (h x hx)
  | 0, .tup xs, h => by cases h
  | 0, .non, h => rfl
  | _ + 1, .non, h => rfl
  | 0, .bl _, h => rfl
  | _ + 1, .bl _, h => rfl
  | 0, .int _, h => h
  | _ + 1, .int _, h => h
  | 0, .str s, h => h
  | _ + 1, .str s, h => h
  | 0, .fl _, h => by cases h
  | _ + 1, .fl _, h => by cases h
  | 0, .sl _, h => by cases h
  | _ + 1, .sl _, h => by cases h
  | 0, .ob _ _ _, h => by cases h
  | _ + 1, .ob _ _ _, h => by cases h
  | 0, .emp, h => by cases h
  | _ + 1, .emp, h => by cases h
  | 0, .ref _, h => by cases h
  | _ + 1, .ref _, h => by cases h
  | 0, .ex _, h => by cases h
  | _ + 1, .ex _, h => by cases h
  | 0, .exf _ _ _, h => by cases h
  | _ + 1, .exf _ _ _, h => by cases h
  | 0, .fn _, h => by cases h
  | _ + 1, .fn _, h => by cases h
  | 0, .lam _ _ _ _ _, h => by cases h
  | _ + 1, .lam _ _ _ _ _, h => by cases h
theorem okW_mono {n m : Nat} {d : D} (h : okW n d = true) (l : n ≤ m) : okW m d = true := by
  induction m with
  | zero => have : n = 0 := by omega
            subst this; exact h
  | succ m ih =>
    by_cases e : n = m + 1
    · subst e; exact h
    · exact okW_up m d (ih (by omega))
/-- behind a thing: the end, a comma or a bracket -/
def endB : List Nat → Prop | [] => True | c :: _ => c = 44 ∨ c = 41
theorem endB_fg {r : List Nat} (h : endB r) : hdP isFg r = false ∧ hdP isLt r = false := by
  cases r with
  | nil => exact ⟨rfl, rfl⟩
  | cons c r =>
    rcases h with h | h <;> (subst h; exact ⟨by show isFg _ = false; decide, by show isLt _ = false; decide⟩)
theorem numL_hd {n : Nat} (h : 0 < n) : ∃ c r, TL.numL n = c :: r ∧ 49 ≤ c ∧ c ≤ 57 := by
  induction n using Nat.strongRecOn with
  | _ n ih =>
    by_cases h10 : n < 10
    · exact ⟨48 + n, [], TL.numL_lt h10, by omega, by omega⟩
    · obtain ⟨c, r, e, c1, c2⟩ := ih (n / 10) (by omega) (by omega)
      exact ⟨c, r ++ [48 + n % 10], by rw [TL.numL_step (by omega), e]; rfl, c1, c2⟩
theorem numL_all {n : Nat} : ∀ c ∈ TL.numL n, isFg c = true := fun c hc => isFg_ok.mpr (TL.numL_digits n c hc)
theorem numL_20 {n : Nat} (h : n < 10 ^ 20) : (TL.numL n).length ≤ 20 := TL.numL_len (by decide) h
theorem numR_num {z : Bool} {n : Nat} {r : List Nat} (h : n < 10 ^ 20) (he : endB r) (hz : 0 < n ∨ z = true) : numR z (TL.numL n ++ r) = some ((n : Int), (TL.numL n).length) := by
  by_cases h0 : n = 0
  · subst h0
    have hz : z = true := by rcases hz with hz | hz; · omega
                             · exact hz
    subst hz
    rw [TL.numL_lt (by decide)]
    rfl
  · obtain ⟨c, q, e, c1, c2⟩ := numL_hd (n := n) (by omega)
    have ht : tk isFg 20 (TL.numL n ++ r) = TL.numL n := tk_app (numL_20 h) numL_all (endB_fg he).1
    rw [e] at ht ⊢
    rw [List.cons_append] at ht ⊢
    rw [numR_c, if_pos (isFg_ok.mpr (by omega)), if_neg (by omega), ht, ← e, TL.numL_val]
theorem itm_num {i : Int} {r : List Nat} (h : i.natAbs < 10 ^ 20) (he : endB r) : itm (numI i ++ r) = .ok (.int i) (numI i).length := by
  unfold numI
  by_cases hi : i < 0
  · rw [if_pos hi, List.cons_append, itm_c, if_neg (by decide), if_pos rfl]
    obtain ⟨c, q, e, c1, c2⟩ := numL_hd (n := i.natAbs) (by omega)
    rw [if_pos (by rw [e]; show isFg c = true; exact isFg_ok.mpr (by omega)), numR_num h he (.inl (by omega))]
    dsimp only
    rw [show -((i.natAbs : Nat) : Int) = i by omega]; rfl
  · rw [if_neg hi]
    have hn := numR_num (z := true) h he (.inr rfl)
    have hd : ∃ c q, TL.numL i.natAbs = c :: q ∧ isFg c = true := by
      cases e : TL.numL i.natAbs with
      | nil => exact absurd e (TL.numL_ne _)
      | cons c q => exact ⟨c, q, rfl, numL_all c (by rw [e]; exact List.mem_cons_self ..)⟩
    obtain ⟨c, q, e, hc⟩ := hd
    have nc := isFg_not hc
    rw [e] at hn ⊢
    rw [List.cons_append] at hn ⊢
    rw [itm_c, if_neg (by rw [nc.2.1]; decide), if_neg nc.1, hn]
    dsimp only
    rw [show ((i.natAbs : Nat) : Int) = i by omega]
theorem itm_word {w r : List Nat} (h : 1 ≤ w.length) (h2 : w.length ≤ 20) (ha : ∀ c ∈ w, isLt c = true) (he : endB r) : itm (w ++ r) = .ok (wrd w) w.length := by
  have ht : tk isLt 20 (w ++ r) = w := tk_app h2 ha (endB_fg he).2
  cases w with
  | nil => simp at h
  | cons c q =>
    rw [List.cons_append] at ht ⊢
    rw [itm_c, if_pos (ha c (List.mem_cons_self ..)), ht]
/-- no thing's writing begins with a closing bracket; none is empty -/
theorem wr_hd : ∀ (n : Nat) (d : D), okW n d = true → ∃ c r, wr n d = c :: r ∧ c ≠ 41
  | 0, .non, _ => ⟨45, [], rfl, by decide⟩
  | _ + 1, .non, _ => ⟨45, [], rfl, by decide⟩
  | 0, .bl true, _ => ⟨121, _, rfl, by decide⟩
  | 0, .bl false, _ => ⟨110, _, rfl, by decide⟩
  | _ + 1, .bl true, _ => ⟨121, _, rfl, by decide⟩
  | _ + 1, .bl false, _ => ⟨110, _, rfl, by decide⟩
  | n, .int i, h => by
    have e : wr n (.int i) = numI i := by cases n <;> rfl
    rw [e]
    unfold numI
    split
    · exact ⟨45, _, rfl, by decide⟩
    · cases e : TL.numL i.natAbs with
      | nil => exact absurd e (TL.numL_ne _)
      | cons c q => exact ⟨c, q, rfl, (isFg_not (numL_all c (by rw [e]; exact List.mem_cons_self ..))).2.2.2.1⟩
  | n, .str s, h => by
    have e : wr n (.str s) = s.cps.toList := by cases n <;> rfl
    have h : wordB s.cps.toList = true := by cases n <;> exact h
    rw [e]
    simp only [wordB, Bool.and_eq_true, decide_eq_true_eq, List.all_eq_true] at h
    obtain ⟨⟨⟨⟨h1, h2⟩, h3⟩, h4⟩, h5⟩ := h
    cases e : s.cps.toList with
    | nil => rw [e] at h1; simp at h1
    | cons c q => exact ⟨c, q, rfl, (isLt_not (h3 c (by rw [e]; exact List.mem_cons_self ..))).2.2.2.1⟩
  | n + 1, .tup xs, h => ⟨40, _, rfl, by decide⟩
  | 0, .tup xs, h => by cases h
  | 0, .fl _, h => by cases h
  | _ + 1, .fl _, h => by cases h
  | 0, .sl _, h => by cases h
  | _ + 1, .sl _, h => by cases h
  | 0, .ob _ _ _, h => by cases h
  | _ + 1, .ob _ _ _, h => by cases h
  | 0, .emp, h => by cases h
  | _ + 1, .emp, h => by cases h
  | 0, .ref _, h => by cases h
  | _ + 1, .ref _, h => by cases h
  | 0, .ex _, h => by cases h
  | _ + 1, .ex _, h => by cases h
  | 0, .exf _ _ _, h => by cases h
  | _ + 1, .exf _ _ _, h => by cases h
  | 0, .fn _, h => by cases h
  | _ + 1, .fn _, h => by cases h
  | 0, .lam _ _ _ _ _, h => by cases h
  | _ + 1, .lam _ _ _ _ _, h => by cases h
theorem rdW_wr {m : Nat} (ih : ∀ (d : D) (r : List Nat), okW m d = true → endB r → rdT m (wr m d ++ r) = .ok d (wr m d).length) (r : List Nat) :
    ∀ (xs acc : List D) (k : Nat) (x : D), okW m x = true → xs.all (okW m) = true → (TL.joinL [44] ((x :: xs).map (wr m))).length + 1 - (wr m x).length < k →
      rdW (rdT m) k acc ((TL.joinL [44] ((x :: xs).map (wr m)) ++ (41 :: r)).drop (wr m x).length) = .ok (.tup (acc ++ xs)) ((TL.joinL [44] ((x :: xs).map (wr m))).length + 1 - (wr m x).length)
  | [], acc, k, x, hx, _, hk => by
    have e : TL.joinL [44] (([x] : List D).map (wr m)) = wr m x := rfl
    rw [e] at hk ⊢
    rw [List.drop_left]
    obtain ⟨k, rfl⟩ : ∃ j, k = j + 1 := ⟨k - 1, by omega⟩
    rw [rdW_c, if_neg (by decide), if_pos rfl, List.append_nil, show (wr m x).length + 1 - (wr m x).length = 1 by omega]
  | y :: xs, acc, k, x, hx, ha, hk => by
    rw [List.all_cons, Bool.and_eq_true] at ha
    have e : TL.joinL [44] ((x :: y :: xs).map (wr m)) = wr m x ++ ([44] ++ TL.joinL [44] ((y :: xs).map (wr m))) := rfl
    rw [e] at hk ⊢
    rw [List.append_assoc, List.drop_left]
    obtain ⟨k, rfl⟩ : ∃ j, k = j + 1 := ⟨k - 1, by omega⟩
    simp only [List.length_append, List.length_singleton] at hk ⊢
    obtain ⟨q, eq, hq⟩ : ∃ q, TL.joinL [44] ((y :: xs).map (wr m)) ++ (41 :: r) = wr m y ++ q ∧ endB q := by
      cases xs with
      | nil => exact ⟨41 :: r, rfl, .inr rfl⟩
      | cons z zs => exact ⟨44 :: (TL.joinL [44] ((z :: zs).map (wr m)) ++ (41 :: r)), by show (wr m y ++ ([44] ++ _)) ++ _ = _; simp [List.append_assoc], .inl rfl⟩
    have e3 : [44] ++ TL.joinL [44] ((y :: xs).map (wr m)) ++ (41 :: r) = 44 :: (TL.joinL [44] ((y :: xs).map (wr m)) ++ (41 :: r)) := rfl
    have hl : (wr m y).length ≤ (TL.joinL [44] ((y :: xs).map (wr m))).length := by
      cases xs with
      | nil => exact Nat.le_refl _
      | cons z zs => show _ ≤ (wr m y ++ _).length; rw [List.length_append]; omega
    rw [e3, rdW_c, if_pos rfl, eq, ih y q ha.1 hq]
    dsimp only
    rw [← eq, rdW_wr ih r xs (acc ++ [y]) k y ha.1 ha.2 (by omega)]
    show RT.ok (.tup (acc ++ [y] ++ xs)) _ = _
    rw [List.append_assoc]
    congr 1
    omega
/-- what is written is read again -/
theorem rdT_wr : ∀ (m : Nat) (d : D) (r : List Nat), okW m d = true → endB r → rdT m (wr m d ++ r) = .ok d (wr m d).length := by
  have atom : ∀ (m : Nat) (w r : List Nat) (d : D), (∃ c q, w = c :: q ∧ c ≠ 40) → itm (w ++ r) = .ok d w.length → rdT m (w ++ r) = .ok d w.length := by
    rintro m w r d ⟨c, q, rfl, hc⟩ h
    cases m with
    | zero => rw [List.cons_append, rdT_0, if_neg hc]; exact h
    | succ m => rw [List.cons_append, rdT_c, if_neg hc]; exact h
  intro m
  induction m with
  | zero =>
    intro d r h he
    cases d with
    | non => exact atom 0 [45] r .non ⟨45, [], rfl, by decide⟩ (by
        show itm (45 :: r) = _
        rw [itm_c, if_neg (by decide), if_pos rfl, if_neg (by rw [(endB_fg he).1]; decide)]; rfl)
    | bl b => cases b
              · exact atom 0 noL r _ ⟨110, _, rfl, by decide⟩ (itm_word (by decide) (by decide) (by decide) he)
              · exact atom 0 yesL r _ ⟨121, _, rfl, by decide⟩ (itm_word (by decide) (by decide) (by decide) he)
    | int i =>
      refine atom 0 (numI i) r _ ?_ (itm_num (of_decide_eq_true h) he)
      unfold numI
      split
      · exact ⟨45, _, rfl, by decide⟩
      · cases e : TL.numL i.natAbs with
        | nil => exact absurd e (TL.numL_ne _)
        | cons c q => exact ⟨c, q, rfl, (isFg_not (numL_all c (by rw [e]; exact List.mem_cons_self ..))).2.2.1⟩
    | str s =>
      have h : wordB s.cps.toList = true := h
      simp only [wordB, Bool.and_eq_true, decide_eq_true_eq, List.all_eq_true, Bool.not_eq_true', decide_eq_false_iff_not] at h
      obtain ⟨⟨⟨⟨h1, h2⟩, h3⟩, h4⟩, h5⟩ := h
      have ew : wrd s.cps.toList = .str s := by unfold wrd; rw [if_neg h4, if_neg h5, S_tl]
      have hi := itm_word h1 h2 h3 he
      rw [ew] at hi
      refine atom 0 s.cps.toList r _ ?_ hi
      cases e : s.cps.toList with
      | nil => rw [e] at h1; simp at h1
      | cons c q => exact ⟨c, q, rfl, (isLt_not (h3 c (by rw [e]; exact List.mem_cons_self ..))).2.2.1⟩
    | _ => cases h
  | succ m ih =>
    intro d r h he
    cases d with
    | non => exact atom (m + 1) [45] r .non ⟨45, [], rfl, by decide⟩ (by
        show itm (45 :: r) = _
        rw [itm_c, if_neg (by decide), if_pos rfl, if_neg (by rw [(endB_fg he).1]; decide)]; rfl)
    | bl b => cases b
              · exact atom (m + 1) noL r _ ⟨110, _, rfl, by decide⟩ (itm_word (by decide) (by decide) (by decide) he)
              · exact atom (m + 1) yesL r _ ⟨121, _, rfl, by decide⟩ (itm_word (by decide) (by decide) (by decide) he)
    | int i =>
      refine atom (m + 1) (numI i) r _ ?_ (itm_num (of_decide_eq_true h) he)
      unfold numI
      split
      · exact ⟨45, _, rfl, by decide⟩
      · cases e : TL.numL i.natAbs with
        | nil => exact absurd e (TL.numL_ne _)
        | cons c q => exact ⟨c, q, rfl, (isFg_not (numL_all c (by rw [e]; exact List.mem_cons_self ..))).2.2.1⟩
    | str s =>
      have h : wordB s.cps.toList = true := h
      simp only [wordB, Bool.and_eq_true, decide_eq_true_eq, List.all_eq_true, Bool.not_eq_true', decide_eq_false_iff_not] at h
      obtain ⟨⟨⟨⟨h1, h2⟩, h3⟩, h4⟩, h5⟩ := h
      have ew : wrd s.cps.toList = .str s := by unfold wrd; rw [if_neg h4, if_neg h5, S_tl]
      have hi := itm_word h1 h2 h3 he
      rw [ew] at hi
      refine atom (m + 1) s.cps.toList r _ ?_ hi
      cases e : s.cps.toList with
      | nil => rw [e] at h1; simp at h1
      | cons c q => exact ⟨c, q, rfl, (isLt_not (h3 c (by rw [e]; exact List.mem_cons_self ..))).2.2.1⟩
    | tup xs =>
      have h : xs.all (okW m) = true := h
      have e : wr (m + 1) (.tup xs) ++ r = 40 :: (TL.joinL [44] (xs.map (wr m)) ++ (41 :: r)) := by
        show (40 :: (_ ++ [41])) ++ r = _
        rw [List.cons_append, List.append_assoc]; rfl
      have el : (wr (m + 1) (.tup xs)).length = (TL.joinL [44] (xs.map (wr m))).length + 2 := by
        show (40 :: (_ ++ [41])).length = _
        rw [List.length_cons, List.length_append]; rfl
      rw [e, el, rdT_c, if_pos rfl]
      cases xs with
      | nil => rfl
      | cons x xs =>
        rw [List.all_cons, Bool.and_eq_true] at h
        obtain ⟨q, eq, hq⟩ : ∃ q, TL.joinL [44] ((x :: xs).map (wr m)) ++ (41 :: r) = wr m x ++ q ∧ endB q := by
          cases xs with
          | nil => exact ⟨41 :: r, rfl, .inr rfl⟩
          | cons z zs => exact ⟨44 :: (TL.joinL [44] ((z :: zs).map (wr m)) ++ (41 :: r)), by show (wr m x ++ ([44] ++ _)) ++ _ = _; simp [List.append_assoc], .inl rfl⟩
        have hl : (wr m x).length ≤ (TL.joinL [44] ((x :: xs).map (wr m))).length := by
          cases xs with
          | nil => exact Nat.le_refl _
          | cons z zs => show _ ≤ (wr m x ++ _).length; rw [List.length_append]; omega
        obtain ⟨c, p, ec, hc⟩ := wr_hd m x h.1
        rw [if_neg (by rw [eq, ec]; simp [hdP, hc])]
        have ei := ih x q h.1 hq
        rw [← eq] at ei
        rw [ei]
        dsimp only
        rw [rdW_wr ih r xs [x] _ x h.1 h.2 (by rw [List.length_append, List.length_cons]; omega)]
        show RT.ok (.tup ([x] ++ xs)) _ = _
        show RT.ok (.tup (x :: xs)) _ = _
        congr 1
        omega
    | _ => cases h
theorem rdT_back {n : Nat} {d : D} (h : okW n d = true) : finT (wr n d).length (rdT n (wr n d)) = .ok d (wr n d).length := by
  have e := rdT_wr n d [] h trivial
  rw [List.append_nil] at e
  rw [e]
  show (if (wr n d).length < (wr n d).length then _ else _) = _
  rw [if_neg (Nat.lt_irrefl _)]
end

section
open SX NumText
structure okL (l : List Nat) : Prop where
  len : l.length ≤ 1000000
  ok : ∀ c ∈ l, c < 1114112
theorem okL.sl {l : List Nat} (h : okL l) : (S l).length ≤ sizeLine := by
  rw [S_len]; exact Nat.le_trans h.len (Nat.le_of_ble_eq_true rfl)
theorem okL.str {l : List Nat} (h : okL l) : PyData.strOk (S l) = true := by
  unfold PyData.strOk
  rw [← Array.all_toList, List.all_eq_true]
  exact fun c hc => decide_eq_true (h.ok c (by simpa using hc))
theorem sIx_nat (n d a : Nat) : HT.sIx n d (some (a : Int)) = min a n := by
  exact HT.sIx_nat n d a
theorem cut_S (l : List Nat) (a b : Nat) : cutS (S l) (some (a : Int)) (some (b : Int)) = S ((l.drop a).take (b - a)) := by
  unfold cutS
  rw [sIx_nat, sIx_nat, S_len]
  congr 1
  have h1 : l.drop (min a l.length) = l.drop a := by
    rcases Nat.le_total a l.length with h | h
    · rw [Nat.min_eq_left h]
    · rw [Nat.min_eq_right h, List.drop_eq_nil_of_le (Nat.le_refl _), List.drop_eq_nil_of_le h]
  show (List.take _ (List.drop (min a l.length) (S l).cps.toList)).toArray = _
  rw [show (S l).cps.toList = l from rfl, h1]
  congr 1
  rcases Nat.le_total a l.length with h | h
  · rcases Nat.le_total b l.length with h2 | h2
    · rw [Nat.min_eq_left h, Nat.min_eq_left h2]
    · rw [Nat.min_eq_left h, Nat.min_eq_right h2, List.take_of_length_le (by rw [List.length_drop]; omega), List.take_of_length_le (by rw [List.length_drop]; omega)]
  · rw [List.drop_eq_nil_of_le h, List.take_nil, List.take_nil]
theorem cut_S0 (l : List Nat) (b : Nat) : cutS (S l) none (some (b : Int)) = S (l.take b) := by
  have e : cutS (S l) none (some (b : Int)) = cutS (S l) (some ((0 : Nat) : Int)) (some (b : Int)) := rfl
  rw [e, cut_S]; rfl
theorem cut_S1 (l : List Nat) (a : Nat) : cutS (S l) (some (a : Int)) none = S (l.drop a) := by
  have e : cutS (S l) (some (a : Int)) none = cutS (S l) (some (a : Int)) (some ((l.length : Nat) : Int)) := by
    unfold cutS
    rw [sIx_nat, sIx_nat, S_len, Nat.min_self]; rfl
  rw [e, cut_S]
  rw [List.take_of_length_le (by rw [List.length_drop]; omega)]
theorem nx_S (l : List Nat) (k : Nat) : nx (S l) k = S ((l.drop k).take 1) := by
  unfold nx
  rw [show (k : Int) + 1 = ((k + 1 : Nat) : Int) by omega, cut_S, show k + 1 - k = 1 by omega]
theorem okL.nx {l : List Nat} (h : okL l) (k : Nat) : PyData.strOk (nx (S l) k) = true := by
  rw [nx_S]
  exact okL.str ⟨by rw [List.length_take]; have := h.len; omega, fun c hc => h.ok c (List.mem_of_mem_drop (List.mem_of_mem_take hc))⟩
/-- two texts, by their signs -/
theorem seq_S (z : String) (L l : List Nat) (e : Str.ofString z = S L) : (S l == Str.ofString z) = decide (l = L) := by
  rw [e, S_beq_eq]
theorem seq_S' (z : String) (L l : List Nat) (e : Str.ofString z = S L) : (Str.ofString z == S l) = decide (L = l) := by
  rw [e, S_beq_eq]
theorem sgn_bls {σ : St3} {G : Gp} {Q : QK} {z : Str} (p : Nat → Bool) {t : Tg} {te : TE3} (lz : z.length ≤ 1000000)
    (hs : ∀ c ∈ z.cps.toList, ∀ G' (R : D → Gp → Prop), R (.bl (p c)) G' → t.b (.str ⟨#[c]⟩) σ fun σ' => te σ' G' R (fun _ _ => False)) (h : Q (.bl (z.cps.toList.all p)) G) :
    ∀ a, G a = none → lcL t Tyes te (fun _ => True) σ a (lcEnd false a fun d G1 => bAll [d] G1 Q) (sgn z) (up G a (.lst [])) := by
  refine lc_pure (fun x => match x with | .str w => some (.bl (p (w.cps.toList.headD 0))) | _ => none) (fun x mx G' _ R hR => ?_) (fun _ _ => trivial) (by rw [sgn_len]; exact Nat.le_trans lz (Nat.le_of_ble_eq_true rfl)) ?_
  · unfold sgn at mx
    obtain ⟨c, hc, rfl⟩ := List.mem_map.mp mx
    exact hs c hc G' _ hR
  · refine ⟨_, z.cps.toList.map p, rfl, ?_, ?_⟩
    · unfold sgn
      rw [List.filterMap_map]
      exact bls_map _ _
    · rw [List.all_map]; exact h
end

def szD (d : D) : Prop := ∀ s : Str, d = .str s → s.length ≤ 1000000
def isWd : D → Bool | .str s => wordB s.cps.toList | _ => false

theorem isStr_no {d : D} (h : ¬ ∃ s, d = .str s) : isiD .str d = false ∧ isWd d = false := by
  cases d <;> first | exact ⟨rfl, rfl⟩ | (exact absurd ⟨_, rfl⟩ h)
theorem lts_ch {c : Nat} : decide (c ∈ (Str.ofString "abcdefghijklmnopqrstuvwxyz").cps.toList) = isLt c := congrFun inLT c
theorem fgs_ch {c : Nat} : decide (c ∈ (Str.ofString "0123456789").cps.toList) = isFg c := congrFun inFG c
theorem word_tup (s : Str) : inD (.str s) [.str (Str.ofString "yes"), .str (Str.ofString "no")] = (decide (s.cps.toList = yesL) || decide (s.cps.toList = noL)) := by
  have e1 : (Str.ofString "yes" == s) = decide (yesL = s.cps.toList) := by rw [← SX.S_tl s]; exact seq_S' _ _ _ (by decide +kernel)
  have e2 : (Str.ofString "no" == s) = decide (noL = s.cps.toList) := by rw [← SX.S_tl s]; exact seq_S' _ _ _ (by decide +kernel)
  show (Str.ofString "yes" == s || (Str.ofString "no" == s || false)) = _
  rw [e1, e2, Bool.or_false]
  congr 1 <;> (rw [Bool.eq_iff_iff, decide_eq_true_eq, decide_eq_true_eq]; exact eq_comm)
theorem wordB_eq (w : List Nat) : wordB w = (!(decide (w = yesL) || decide (w = noL)) && (decide (1 ≤ w.length) && decide (w.length ≤ 20)) && w.all isLt) := by
  unfold wordB
  cases decide (w = yesL) <;> cases decide (w = noL) <;> cases decide (1 ≤ w.length) <;> cases decide (w.length ≤ 20) <;> cases w.all isLt <;> rfl

theorem nx_c {l r : List Nat} {k c : Nat} (e : l.drop k = c :: r) : nx (SX.S l) k = SX.S [c] := by rw [nx_S, e]; rfl
theorem nx_n {l : List Nat} {k : Nat} (e : l.drop k = []) : nx (SX.S l) k = SX.S [] := by rw [nx_S, e]; rfl
theorem eqD_S (z : String) (L l : List Nat) (e : Str.ofString z = SX.S L) : eqD (.str (SX.S l)) (.str (Str.ofString z)) = decide (l = L) := seq_S z L l e
theorem eqOk_S (x y : Str) : eqOk (.str x) (.str y) = true := rfl
theorem tkF_int {z : Bool} {r : List Nat} {c : Nat} (h : isFg c = true) : PySem.intText? (SX.S (tk isFg 20 (c :: r))) = some ((NumText.digitsVal (tk isFg 20 (c :: r)) : Nat) : Int) :=
  SX.int_S (List.all_eq_true.mpr fun x hx => tk_all isFg 20 _ x hx) (by rw [tk_cons h]; simp) (by have := (tk_le isFg 20 (c :: r)).1; omega)

/-- all else stays -/
def Oth (a : Addr) (G G' : Gp) : Prop := ∀ b o, b ≠ a → G b = some o → G' b = some o
theorem Oth.refl {a : Addr} {G : Gp} : Oth a G G := fun _ _ _ h => h
theorem Oth.up {a : Addr} {G : Gp} {o : GO} : Oth a G (up G a o) := fun b o h e => by rw [up_ne h]; exact e
theorem Oth.trans {a : Addr} {G G1 G2 : Gp} (h1 : Oth a G G1) (h2 : Oth a G1 G2) : Oth a G G2 := fun b o h e => h2 b o h (h1 b o h e)
def badT (k : Nat) : X3 := ⟨Str.ofString "BadThing", some (Str.ofString "place", .int (k : Nat))⟩
/-- a call of the reader tells what the plain reading tells -/
def RdO (l : List Nat) (k : Nat) (a : Addr) (G : Gp) (r : RT) (Q : QK) (E : EK) : Prop := match r with
  | .bad p => ∀ G', Oth a G G' → E (badT (k + p)) G'
  | .ok d n => ∀ G', Oth a G G' → G' a = some (rdr (SX.S l) (k + n)) → Q d G'

theorem nxD (z : String) (q : Nat) (e : Str.ofString z = SX.S [q]) (l : List Nat) (k : Nat) : eqD (.str (nx (SX.S l) k)) (.str (Str.ofString z)) = hdP (fun c => decide (c = q)) (l.drop k) := by
  cases el : l.drop k with
  | nil => rw [nx_n el, eqD_S z [q] [] e]; rfl
  | cons c r =>
    rw [nx_c el, eqD_S z [q] [c] e]
    show decide ([c] = [q]) = decide (c = q)
    rw [Bool.eq_iff_iff, decide_eq_true_eq, decide_eq_true_eq]
    exact ⟨fun h => by injection h, fun h => by rw [h]⟩
theorem nx_eq {z : String} {q : Nat} (e : Str.ofString z = SX.S [q]) {l : List Nat} {k : Nat} : nx (SX.S l) k = Str.ofString z ↔ hdP (fun c => decide (c = q)) (l.drop k) = true := by
  have h := nxD z q e l k
  constructor
  · intro h2
    rw [← h, h2]
    show (Str.ofString z == Str.ofString z) = true
    exact beq_self_eq_true _
  · intro h2
    rw [h2] at h
    exact eq_of_beq h
theorem Oth.new {a p : Addr} {G G' : Gp} {o : GO} (h : Oth a G G') (n : G p = none) : Oth a G (L3.up G' p o) := fun b w hb eb => by
  by_cases hp : b = p
  · subst hp; rw [n] at eb; cases eb
  · rw [up_ne hp]; exact h b w hb eb
theorem sh_sh (r : RT) (a b : Nat) : (r.sh a).sh b = r.sh (b + a) := by
  cases r with
  | bad p => show RT.bad _ = RT.bad _; congr 1; omega
  | ok d n => show RT.ok _ _ = RT.ok _ _; congr 1; omega

section
open SX NumText
/-- known kinds through and through, texts and tuples of fair size -/
def kkD : Nat → D → Bool
  | _, .str s => decide (s.length ≤ 1000000)
  | n + 1, .tup xs => decide (xs.length ≤ 1000000) && xs.all (kkD n)
  | _, d => kn OC d
theorem kkD_kn {n : Nat} {d : D} (h : kkD n d = true) : kn OC d = true := by
  cases d <;> first | rfl | (cases n <;> exact h)
theorem kkD_str {n : Nat} {s : Str} (h : kkD n (.str s) = true) : s.length ≤ 1000000 := by
  cases n <;> exact of_decide_eq_true h
theorem kkD_sz {n : Nat} {d : D} (h : kkD n d = true) : szD d := fun s e => by subst e; exact kkD_str h
def atomW (d : D) : Bool := isN d || isiD .int d || isWd d
theorem canW_atom {m : Nat} {d : D} (h : isiD .tup d = false) : canW m d = atomW d := by
  unfold atomW
  cases d with
  | tup xs => cases h
  | non => cases m <;> rfl
  | bl b => cases m <;> rfl
  | int i => cases m <;> rfl
  | str s => cases m <;> rfl
  | _ => cases m <;> rfl
theorem canW_tup {m : Nat} {xs : List D} : canW (m + 1) (.tup xs) = xs.all (canW m) := rfl
theorem canW_0 {xs : List D} : canW 0 (.tup xs) = false := rfl
theorem bls_all (xs : List D) (p : D → Bool) (f : D → Option D) (h : ∀ x ∈ xs, f x = some (.bl (p x))) : blsD (xs.filterMap f) = some (xs.map p) := by
  induction xs with
  | nil => rfl
  | cons x xs ih =>
    rw [List.filterMap_cons, h x (List.mem_cons_self ..)]
    show (blsD (xs.filterMap f)).map (p x :: ·) = _
    rw [ih fun y hy => h y (List.mem_cons_of_mem _ hy)]
    rfl
/-- all([.. for x in xs]) -/
theorem all_bls {σ : St3} {G : Gp} {Q : QK} {xs : List D} {gd : Gp → Prop} (p : D → Bool) {t : Tg} {te : TE3} (l : xs.length ≤ 1000000) (hg : ∀ G', Sub G G' → gd G')
    (hs : ∀ x ∈ xs, ∀ G', Sub G G' → ∀ (R : D → Gp → Prop), R (.bl (p x)) G' → t.b x σ fun σ' => te σ' G' R (fun _ _ => False)) (h : Q (.bl (xs.all p)) G) :
    ∀ a, G a = none → lcL t Tyes te gd σ a (lcEnd false a fun d G1 => bAll [d] G1 Q) xs (up G a (.lst [])) := by
  refine lc_pure (fun x => some (.bl (p x))) (fun x mx G' s R hR => hs x mx G' s _ hR) hg (Nat.le_trans l (Nat.le_of_ble_eq_true rfl)) ?_
  refine ⟨_, xs.map p, rfl, bls_all xs p _ fun _ _ => rfl, ?_⟩
  rw [List.all_map]; exact h
end

section
open SX NumText
theorem ofS_l (s : String) : Str.ofString s = S (s.toList.map Char.toNat) := by
  refine TL.ext_tl ?_
  show (cpsOfBytes 0 0 s.toByteArray.data.toList).toArray.toList = _
  rw [List.toList_toArray, cpsOfBytes_string]
theorem numI_S (i : Int) : Str.ofString (toString i) = S (numI i) := by
  cases i with
  | ofNat n => exact num_S n
  | negSucc m =>
    have h1 : numI (Int.negSucc m) = 45 :: TL.numL (m + 1) := by
      unfold numI
      rw [if_pos (by omega)]
      rfl
    rw [h1, ofS_l]
    have h2 : (toString (Int.negSucc m)).toList = '-' :: (Nat.toDigits 10 (m + 1)) := by
      show (Int.repr (Int.negSucc m)).toList = _
      unfold Int.repr
      simp [Nat.repr]
    rw [h2, List.map_cons]
    rfl
theorem joinL_sum : ∀ l : List (List Nat), (l.map (·.length)).sum + (l.length - 1) ≤ (TL.joinL [44] l).length
  | [] => by simp
  | [p] => by simp [TL.joinL]
  | p :: q :: r => by
    have ih := joinL_sum (q :: r)
    show _ ≤ (p ++ ([44] ++ TL.joinL [44] (q :: r))).length
    simp only [List.map_cons, List.sum_cons, List.length_append, List.length_cons, List.length_nil] at ih ⊢
    omega
theorem le_sumN : ∀ (l : List Nat) (x : Nat), x ∈ l → x ≤ l.sum
  | y :: l, x, h => by
    rw [List.sum_cons]
    rcases List.mem_cons.mp h with h | h
    · omega
    · have := le_sumN l x h; omega
theorem joinL_mem : ∀ (l : List (List Nat)) (p : List Nat), p ∈ l → p.length ≤ (TL.joinL [44] l).length := fun l p hp => by
  have h1 := joinL_sum l
  have h2 : p.length ≤ (l.map (·.length)).sum := le_sumN _ _ (List.mem_map.mpr ⟨p, hp, rfl⟩)
  omega
theorem log_ok {i : Int} (h : i.natAbs < 10 ^ 20) : i.natAbs.log2 < 1920 := by
  by_cases z : i.natAbs = 0
  · rw [z]; decide
  · exact Nat.lt_trans ((Nat.log2_lt z).mpr (Nat.lt_of_lt_of_le h (show (10 : Nat) ^ 20 ≤ 2 ^ 67 by decide))) (by decide)
theorem wr_atom {m : Nat} : wr m .non = [45] ∧ (∀ b, wr m (.bl b) = if b then yesL else noL) ∧ (∀ i, wr m (.int i) = numI i) ∧ (∀ s, wr m (.str s) = s.cps.toList) := by
  cases m <;> exact ⟨rfl, fun _ => rfl, fun _ => rfl, fun _ => rfl⟩
theorem okW_int {m : Nat} {i : Int} (h : okW m (.int i) = true) : i.natAbs < 10 ^ 20 := by
  cases m <;> exact of_decide_eq_true h
theorem fm_map {α β : Type} (f : α → β) (xs : List α) : xs.filterMap (fun x => some (f x)) = xs.map f := by
  induction xs with
  | nil => rfl
  | cons x xs ih => rw [List.filterMap_cons, ih]; rfl
end

section
open SX NumText
theorem bls_mp (l : List Nat) (p : Nat → Bool) : blsD (l.map fun c => .bl (p c)) = some (l.map p) := by
  induction l with
  | nil => rfl
  | cons c l ih =>
    show (blsD (l.map fun c => .bl (p c))).map (p c :: ·) = _
    rw [ih]; rfl
theorem sgn_lc {σ : St3} {G : Gp} {F : QK} {z : Str} (p : Nat → Bool) {t : Tg} {te : TE3} (lz : z.length ≤ 1000000)
    (hs : ∀ c ∈ z.cps.toList, ∀ G' (R : D → Gp → Prop), R (.bl (p c)) G' → t.b (.str ⟨#[c]⟩) σ fun σ' => te σ' G' R (fun _ _ => False)) (h : F (.fl (z.cps.toList.map fun c => .bl (p c))) G) :
    ∀ a, G a = none → lcL t Tyes te (fun _ => True) σ a (lcEnd false a F) (sgn z) (up G a (.lst [])) := by
  refine lc_pure (fun x => match x with | .str w => some (.bl (p (w.cps.toList.headD 0))) | _ => none) (fun x mx G' _ R hR => ?_) (fun _ _ => trivial) (by rw [sgn_len]; exact Nat.le_trans lz (Nat.le_of_ble_eq_true rfl)) ?_
  · unfold sgn at mx
    obtain ⟨c, hc, rfl⟩ := List.mem_map.mp mx
    exact hs c hc G' _ hR
  · unfold sgn
    rw [List.filterMap_map]
    show F (.fl (z.cps.toList.filterMap fun c => some (D.bl (p c)))) G
    rw [fm_map]; exact h
theorem iteT' {c : Bool} {A B : Prop} (e : c = true) (h : A) : if c = true then A else B := by rw [e]; exact h
def plx : Nat → D → Bool
  | 0, _ => false
  | n + 1, .tup xs => decide (xs.length ≤ 1000000) && xs.all (plx n)
  | _ + 1, .non => true
  | _ + 1, .bl _ => true
  | _ + 1, .int _ => true
  | _ + 1, .str _ => true
  | _, _ => false
theorem plx_wrd {m : Nat} (w : List Nat) : plx (m + 1) (wrd w) = true := by
  unfold wrd; split
  · rfl
  · split <;> rfl
theorem itm_plx {m : Nat} {l : List Nat} {d : D} {n : Nat} (h : itm l = .ok d n) : plx (m + 1) d = true := by
  cases l with
  | nil => cases h
  | cons c r =>
    rw [itm_c] at h
    split at h
    · injection h with h1 h2; subst h1; exact plx_wrd _
    · split at h
      · split at h
        · split at h
          · cases h
          · injection h with h1 h2; subst h1; rfl
        · injection h with h1 h2; subst h1; rfl
      · split at h
        · cases h
        · injection h with h1 h2; subst h1; rfl
theorem rdW_plx {m N : Nat} {T : List Nat → RT} (lT : ∀ l d n, T l = .ok d n → 1 ≤ n ∧ n ≤ l.length) (hT : ∀ l d n, T l = .ok d n → l.length ≤ N → plx m d = true) : ∀ (f : Nat) (acc : List D) (l : List Nat) (d : D) (n : Nat), rdW T f acc l = .ok d n → acc.length + l.length ≤ N → N ≤ 1000000 → acc.all (plx m) = true → plx (m + 1) d = true
  | 0, _, _, _, _, h, _, _, _ => by cases h
  | f + 1, acc, [], _, _, h, _, _, _ => by cases h
  | f + 1, acc, c :: r, d, n, h, hl, hN, ha => by
    simp only [List.length_cons] at hl
    rw [rdW_c] at h
    split at h
    · split at h
      · cases h
      · rename_i d1 n1 e
        have h1 := lT _ _ _ e
        cases e2 : rdW T f (acc ++ [d1]) (r.drop n1) with
        | bad p => rw [e2] at h; cases h
        | ok d2 n2 =>
          rw [e2] at h
          injection h with h3 h4; subst h3
          refine rdW_plx lT hT f _ _ _ _ e2 (by rw [List.length_append, List.length_drop, List.length_singleton]; omega) hN ?_
          rw [List.all_append, ha, Bool.true_and, List.all_cons, hT _ _ _ e (by omega)]; rfl
    · split at h
      · injection h with h1 h2; subst h1
        show (decide (acc.length ≤ 1000000) && acc.all (plx m)) = true
        rw [ha, Bool.and_true]; exact decide_eq_true (by omega)
      · cases h
theorem rdT_plx : ∀ (m : Nat) (l : List Nat) (d : D) (n : Nat), rdT m l = .ok d n → l.length ≤ 1000000 → plx (m + 2) d = true
  | m, [], _, _, h, _ => by rw [rdT_nil] at h; cases h
  | 0, c :: r, d, n, h, _ => by
    rw [rdT_0] at h
    split at h
    · cases h
    · exact itm_plx h
  | m + 1, c :: r, d, n, h, hl => by
    simp only [List.length_cons] at hl
    rw [rdT_c] at h
    split at h
    · split at h
      · injection h with h1 h2; subst h1; rfl
      · split at h
        · cases h
        · rename_i d1 n1 e
          have h1 := rdT_le m _ _ _ e
          cases e2 : rdW (rdT m) (r.length + 1) [d1] (r.drop n1) with
          | bad p => rw [e2] at h; cases h
          | ok d2 n2 =>
            rw [e2] at h
            injection h with h3 h4; subst h3
            refine rdW_plx (N := r.length) (rdT_le m) (fun l d n e hl' => rdT_plx m l d n e (by omega)) _ _ _ _ _ e2 (by rw [List.length_drop, List.length_singleton]; omega) (by omega) ?_
            rw [List.all_cons, rdT_plx m _ _ _ e (by omega)]; rfl
    · exact itm_plx h
/-- what both readings tell, as a thing -/
def rtD : RT → D
  | .bad p => .tup [.str (Str.ofString "bad"), .int (p : Nat)]
  | .ok d _ => .tup [.str (Str.ofString "let"), d]
theorem rtD_plx {l : List Nat} (h : l.length ≤ 1000000) : plx 26 (rtD (finT l.length (rdT 20 l))) = true := by
  cases e : rdT 20 l with
  | bad p => rfl
  | ok d n =>
    show plx 26 (rtD (if n < l.length then .bad n else .ok d n)) = true
    split
    · rfl
    · have := rdT_plx _ _ _ _ e h
      show (decide (2 ≤ 1000000) && (true && (plx 25 d && true))) = true
      have up : ∀ (k : Nat) (x : D), plx k x = true → plx (k + 1) x = true := by
        intro k
        induction k with
        | zero => intro x h; cases h
        | succ k ih =>
          intro x h
          cases x with
          | tup xs =>
            have h : (decide (xs.length ≤ 1000000) && xs.all (plx k)) = true := h
            show (decide (xs.length ≤ 1000000) && xs.all (plx (k + 1))) = true
            rw [Bool.and_eq_true, List.all_eq_true] at h ⊢
            exact ⟨h.1, fun y hy => ih y (h.2 y hy)⟩
          | _ => first | rfl | cases h
      rw [up 24 d (up 23 d (up 22 d this))]; rfl
theorem wordB_eq2 (w : List Nat) : wordB w = ((decide (1 ≤ w.length) && decide (w.length ≤ 20)) && w.all isLt && !(decide (w = yesL) || decide (w = noL))) := by
  unfold wordB
  cases decide (w = yesL) <;> cases decide (w = noL) <;> cases decide (1 ≤ w.length) <;> cases decide (w.length ≤ 20) <;> cases w.all isLt <;> rfl
end

theorem SX3 {a b : D} (h1 : xf a = true) (h2 : xf b = true) : SX [some a, some b, none] := fun d h => by
  rcases List.mem_cons.mp h with h | h
  · cases h; exact h1
  · rcases List.mem_cons.mp h with h | h
    · cases h; exact h2
    · rcases List.mem_cons.mp h with h | h
      · cases h
      · cases h
theorem sx_0 {a : D} {σ : List (Option D)} (h : SX (some a :: σ)) : xf a = true := h a (List.mem_cons_self ..)
theorem bls_tr : ∀ l : List D, blsD (l.filterMap fun _ => some (.bl true)) = some (l.map fun _ => true)
  | [] => rfl
  | x :: l => by
    show (blsD (l.filterMap fun _ => some (.bl true))).map (true :: ·) = _
    rw [bls_tr l]; rfl

section
open SX NumText
/-- a thing that is drawn: it can be written in few signs, or it can't -/
structure Drw (d : D) : Prop where
  kk : kkD 21 d = true
  w : canW 20 d = true → okW 20 d = true ∧ (wr 20 d).length ≤ 60000
theorem okW_kk : ∀ (m : Nat) (d : D), okW m d = true → (wr m d).length ≤ 1000000 → ∀ n, kkD n d = true
  | m + 1, .tup xs, h, hl, n => by
    have h : xs.all (okW m) = true := h
    rw [List.all_eq_true] at h
    have el : (wr (m + 1) (.tup xs)).length = (TL.joinL [44] (xs.map (wr m))).length + 2 := by
      show (40 :: (_ ++ [41])).length = _
      rw [List.length_cons, List.length_append]; rfl
    rw [el] at hl
    have js := joinL_sum (xs.map (wr m))
    have js2 : xs.length ≤ ((xs.map (wr m)).map (·.length)).sum := by
      have : ∀ l : List D, (∀ x ∈ l, okW m x = true) → l.length ≤ ((l.map (wr m)).map (·.length)).sum := by
        intro l
        induction l with
        | nil => intro _; exact Nat.le_refl _
        | cons x l ih =>
          intro hx
          have := ih fun y hy => hx y (List.mem_cons_of_mem _ hy)
          obtain ⟨c, r, e, _⟩ := wr_hd m x (hx x (List.mem_cons_self ..))
          rw [List.map_cons, List.map_cons, List.sum_cons, List.length_cons, e, List.length_cons]
          omega
      exact this xs h
    cases n with
    | zero => rfl
    | succ n =>
      show (decide (xs.length ≤ 1000000) && xs.all (kkD n)) = true
      rw [Bool.and_eq_true, decide_eq_true_eq, List.all_eq_true]
      refine ⟨by omega, fun x mx => okW_kk m x (h x mx) ?_ n⟩
      have := joinL_mem (xs.map (wr m)) _ (List.mem_map.mpr ⟨x, mx, rfl⟩)
      omega
  | 0, .tup xs, h, _, n => by cases h
  | m, .str s, h, _, n => by
    have h : wordB s.cps.toList = true := by cases m <;> exact h
    have : s.length ≤ 1000000 := by
      have e : s.length = s.cps.toList.length := by rw [Array.length_toList]; rfl
      simp only [wordB, Bool.and_eq_true, decide_eq_true_eq] at h
      omega
    cases n <;> exact decide_eq_true this
  | m, .non, _, _, n => by cases n <;> rfl
  | m, .bl _, _, _, n => by cases n <;> rfl
  | m, .int _, _, _, n => by cases n <;> rfl
  | m, .fl _, h, _, n => by cases m <;> cases h
  | m, .sl _, h, _, n => by cases m <;> cases h
  | m, .ob _ _ _, h, _, n => by cases m <;> cases h
  | m, .emp, h, _, n => by cases m <;> cases h
  | m, .ref _, h, _, n => by cases m <;> cases h
  | m, .ex _, h, _, n => by cases m <;> cases h
  | m, .exf _ _ _, h, _, n => by cases m <;> cases h
  | m, .fn _, h, _, n => by cases m <;> cases h
  | m, .lam _ _ _ _ _, h, _, n => by cases m <;> cases h
theorem Drw.of {m : Nat} {d : D} (h : okW m d = true) (l : (wr m d).length ≤ 60000) : Drw d :=
  ⟨okW_kk m d h (by omega) 21, fun c => by
    obtain ⟨h1, h2⟩ := okW_wr m 20 d h c
    exact ⟨h1, by rw [h2]; exact l⟩⟩
theorem Drw.no {d : D} (h : ∀ n, kkD n d = true) (c : canW 20 d = false) : Drw d := ⟨h 21, fun z => by rw [c] at z; cases z⟩
end

section
open SX NumText
theorem numI_len {i : Int} (h : i.natAbs < 10 ^ 20) : (numI i).length ≤ 21 := by
  have := numL_20 h
  unfold numI; split
  · rw [List.length_cons]; omega
  · omega
theorem atomI (m : Nat) {i : Int} (h : i.natAbs < 10 ^ 20) : okW m (.int i) = true ∧ (wr m (.int i)).length ≤ 32 := by
  have l := numI_len h
  rw [wr_atom.2.2.1]
  exact ⟨by cases m <;> exact decide_eq_true h, by omega⟩
theorem atomS (m : Nat) {s : Str} (h : wordB s.cps.toList = true) : okW m (.str s) = true ∧ (wr m (.str s)).length ≤ 32 := by
  rw [wr_atom.2.2.2]
  refine ⟨by cases m <;> exact h, ?_⟩
  simp only [wordB, Bool.and_eq_true, decide_eq_true_eq] at h
  omega
theorem atomC (m : Nat) {d : D} (h : d = .non ∨ d = .bl true ∨ d = .bl false) : okW m d = true ∧ (wr m d).length ≤ 32 := by
  rcases h with rfl | rfl | rfl <;> cases m <;> exact ⟨rfl, Nat.le_of_ble_eq_true rfl⟩
theorem joinL_le (L : Nat) : ∀ l : List (List Nat), (∀ p ∈ l, p.length ≤ L) → (TL.joinL [44] l).length ≤ l.length * (L + 1)
  | [], _ => by simp [TL.joinL]
  | [p], h => by
    have := h p (List.mem_cons_self ..)
    show p.length ≤ 1 * (L + 1); omega
  | p :: q :: r, h => by
    have h1 := h p (List.mem_cons_self ..)
    have ih := joinL_le L (q :: r) fun z hz => h z (List.mem_cons_of_mem _ hz)
    show (p ++ ([44] ++ TL.joinL [44] (q :: r))).length ≤ _
    simp only [List.length_append, List.length_cons, List.length_nil] at ih ⊢
    rw [Nat.add_mul] at ih ⊢
    rw [Nat.add_mul (r.length) 1 (L + 1)] at *
    omega
end

section
open SX NumText
theorem atI_nat {α : Type} {l : List α} {a : Nat} {c : α} (h : l[a]? = some c) : atI l (a : Int) = some c := by
  unfold atI
  have hl : a < l.length := by
    rcases Nat.lt_or_ge a l.length with h1 | h1
    · exact h1
    · rw [List.getElem?_eq_none h1] at h; cases h
  rw [ixn_ok a hl]; exact h
def stepF (p : Nat → Bool) (f : Int) (c : Nat) : Int := if p c = true ∧ 0 ≤ f then f + 1 else -(if f < 0 then -f else f)
theorem fold_neg (p : Nat → Bool) : ∀ (l : List Nat) (f : Int), f < 0 → (l.foldl (stepF p) f) = f
  | [], f, _ => rfl
  | c :: l, f, h => by
    rw [List.foldl_cons]
    have e : stepF p f c = f := by unfold stepF; rw [if_neg (by omega), if_pos h]; omega
    rw [e]; exact fold_neg p l f h
theorem fold_pos (p : Nat → Bool) : ∀ (l : List Nat) (f : Int), 0 < f → (l.foldl (stepF p) f).natAbs = f.natAbs + (l.takeWhile p).length
  | [], f, _ => rfl
  | c :: l, f, h => by
    rw [List.foldl_cons, List.takeWhile_cons]
    cases hc : p c with
    | true =>
      have e : stepF p f c = f + 1 := by unfold stepF; rw [if_pos ⟨hc, by omega⟩]
      rw [e, fold_pos p l _ (by omega), if_pos rfl, List.length_cons]; omega
    | false =>
      have e : stepF p f c = -f := by unfold stepF; rw [if_neg (by rw [hc]; simp), if_neg (by omega)]
      rw [e, fold_neg p l _ (by omega)]; simp
theorem fold_tk {p : Nat → Bool} {m c : Nat} {r : List Nat} (h : p c = true) : (((c :: r).take (m + 1)).foldl (stepF p) 0).natAbs = (tk p (m + 1) (c :: r)).length := by
  rw [tk_cons h, List.take_succ_cons, List.foldl_cons]
  have e : stepF p 0 c = 1 := by unfold stepF; rw [if_pos ⟨h, by omega⟩]; rfl
  rw [e, fold_pos p _ _ (by omega), List.length_cons]
  show 1 + _ = _
  unfold tk; omega
theorem fold_take {p : Nat → Bool} {w : List Nat} {j c : Nat} (h : w[j]? = some c) : (w.take (j + 1)).foldl (stepF p) 0 = stepF p ((w.take j).foldl (stepF p) 0) c := by
  have hj : j < w.length := by
    rcases Nat.lt_or_ge j w.length with h1 | h1
    · exact h1
    · rw [List.getElem?_eq_none h1] at h; cases h
  have : w[j] = c := by rw [List.getElem?_eq_getElem hj] at h; exact Option.some.inj h
  rw [List.take_succ_eq_append_getElem hj, List.foldl_append, this]; rfl
theorem sgn_at {l : List Nat} {j : Nat} {x : D} (h : (sgn (S l))[j]? = some x) : ∃ c, l[j]? = some c ∧ x = .str ⟨#[c]⟩ := by
  unfold sgn at h
  rw [List.getElem?_map] at h
  have e : (S l).cps.toList = l := rfl
  rw [e] at h
  cases hl : l[j]? with
  | none => rw [hl] at h; cases h
  | some c => rw [hl] at h; exact ⟨c, rfl, (Option.some.inj h).symm⟩
theorem absI (i : Int) : (if i < 0 then -i else i) = (i.natAbs : Nat) := by split <;> omega
def fgL1 : List D := sgn (cutS (Str.ofString "0123456789") (some 1) none)
theorem fgL1_eq : fgL1 = [49,50,51,52,53,54,55,56,57].map fun c => D.str ⟨#[c]⟩ := by
  unfold fgL1 sgn
  rw [show (cutS (Str.ofString "0123456789") (some 1) none).cps.toList = [49,50,51,52,53,54,55,56,57] from by decide +kernel]
theorem nin_fg (l : List Nat) (k : Nat) : inD (.str (nx (S l) k)) fgL1 = hdP fg1 (l.drop k) := by
  have key : ∀ q : Nat, ((S [q] : Str) == nx (S l) k) = hdP (fun c => decide (c = q)) (l.drop k) := fun q => by
    rw [nx_S]
    cases e : l.drop k with
    | nil =>
      rw [S_beq_eq]
      show decide ([q] = []) = false
      exact decide_eq_false (by simp)
    | cons c r =>
      rw [S_beq_eq]
      show decide ([q] = [c]) = decide (c = q)
      rw [Bool.eq_iff_iff, decide_eq_true_eq, decide_eq_true_eq]
      exact ⟨fun h => by injection h with h; exact h.symm, fun h => by rw [h]⟩
  rw [fgL1_eq]
  show (((S [49] : Str) == nx (S l) k) || (((S [50] : Str) == nx (S l) k) || (((S [51] : Str) == nx (S l) k) || (((S [52] : Str) == nx (S l) k) || (((S [53] : Str) == nx (S l) k) || (((S [54] : Str) == nx (S l) k) || (((S [55] : Str) == nx (S l) k) || (((S [56] : Str) == nx (S l) k) || (((S [57] : Str) == nx (S l) k) || false))))))))) = _
  simp only [key]
  cases l.drop k with
  | nil => rfl
  | cons c r =>
    unfold hdP fg1
    rw [Bool.eq_iff_iff]
    simp only [Bool.or_eq_true, decide_eq_true_eq, Bool.or_false, Bool.and_eq_true]
    omega
end

section
open SX NumText
/-- an item that the law's own reading may cut off -/
def itmOk (w : List Nat) : Prop := w = [45] ∨ (∀ c ∈ w, isLt c = true) ∧ w ≠ [] ∨ (∀ c ∈ w, isFg c = true) ∧ w ≠ [] ∧ w.length ≤ 20 ∨ ∃ v, w = 45 :: v ∧ v ≠ [] ∧ (∀ c ∈ v, isFg c = true) ∧ v.length ≤ 20
theorem tkn_ok {l : List Nat} (h : tkn l ≠ 0) : itmOk (l.take (tkn l)) := by
  cases l with
  | nil => exact absurd rfl h
  | cons c r =>
    rw [tkn_c] at h ⊢
    cases hl : isLt c with
    | true =>
      rw [if_pos rfl]
      rw [tk_take]
      exact .inr (.inl ⟨tk_all _ _ _, by rw [tk_cons hl]; simp⟩)
    | false =>
      rw [hl, if_neg (by decide)] at h
      rw [if_neg (by decide)]
      by_cases h0 : c = 48
      · subst h0
        rw [if_pos rfl]
        show itmOk [48]
        exact .inr (.inr (.inl ⟨by decide, by decide, by decide⟩))
      · rw [if_neg h0] at h ⊢
        by_cases hm : c = 45
        · subst hm
          simp only [if_true] at h ⊢
          show itmOk ((45 :: r).take (if hdP fg1 r = true then 1 + (tk isFg 20 r).length else 1))
          cases hr : hdP fg1 r with
          | false => rw [if_neg (by decide)]; exact .inl rfl
          | true =>
            rw [if_pos rfl, Nat.add_comm, List.take_succ_cons, tk_take]
            have hf : hdP isFg r = true := by
              cases r with
              | nil => cases hr
              | cons q r =>
                have hr : fg1 q = true := hr
                show isFg q = true
                unfold fg1 at hr
                simp only [Bool.and_eq_true, decide_eq_true_eq] at hr
                exact isFg_ok.mpr (by omega)
            have := tk_pos (m := 20) hf (by decide)
            exact .inr (.inr (.inr ⟨_, rfl, by intro z; rw [z] at this; simp at this, tk_all _ _ _, (tk_le _ _ _).1⟩))
        · simp only [if_neg hm] at h ⊢
          rw [List.drop_zero] at h ⊢
          rw [Nat.zero_add] at h ⊢
          cases hr : hdP fg1 (c :: r) with
          | false => rw [hr] at h; exact absurd rfl h
          | true =>
            rw [if_pos rfl, tk_take]
            have hf : isFg c = true := by
              have hr : fg1 c = true := hr
              unfold fg1 at hr
              simp only [Bool.and_eq_true, decide_eq_true_eq] at hr
              exact isFg_ok.mpr (by omega)
            exact .inr (.inr (.inl ⟨tk_all _ _ _, by rw [tk_cons hf]; simp, (tk_le _ _ _).1⟩))
theorem item_tup (w : List Nat) : inD (.str (S w)) [.str (Str.ofString "-"), .str (Str.ofString "yes"), .str (Str.ofString "no")] = (decide (w = [45]) || (decide (w = yesL) || decide (w = noL))) := by
  have e0 : (Str.ofString "-" == S w) = decide ([45] = w) := seq_S' _ _ _ (by decide +kernel)
  have e1 : (Str.ofString "yes" == S w) = decide (yesL = w) := seq_S' _ _ _ (by decide +kernel)
  have e2 : (Str.ofString "no" == S w) = decide (noL = w) := seq_S' _ _ _ (by decide +kernel)
  show (Str.ofString "-" == S w || (Str.ofString "yes" == S w || (Str.ofString "no" == S w || false))) = _
  rw [e0, e1, e2, Bool.or_false]
  congr 1
  · rw [Bool.eq_iff_iff, decide_eq_true_eq, decide_eq_true_eq]; exact eq_comm
  · congr 1 <;> (rw [Bool.eq_iff_iff, decide_eq_true_eq, decide_eq_true_eq]; exact eq_comm)
theorem mfg_l : (Str.ofString "-0123456789").cps.toList = [45,48,49,50,51,52,53,54,55,56,57] := by decide +kernel
theorem mfg_ch (c : Nat) : decide (c ∈ (Str.ofString "-0123456789").cps.toList) = (decide (c = 45) || isFg c) := by
  rw [mfg_l, Bool.eq_iff_iff]
  simp only [decide_eq_true_eq, List.mem_cons, List.not_mem_nil, or_false, Bool.or_eq_true, isFg_ok]
  omega
theorem ival_int {w : List Nat} (h : itmOk w) (c : Nat) (r : List Nat) (e : w = c :: r) (hc : (decide (c = 45) || isFg c) = true) (h1 : w ≠ [45]) : intText? (S w) = some (ival w) ∧ (S w).length ≤ 640 := by
  rw [S_len]
  subst e
  rcases h with h | ⟨h, _⟩ | ⟨h, _, h3⟩ | ⟨v, e, hv, h, h3⟩
  · exact absurd h h1
  · have := isLt_not (h c (List.mem_cons_self ..))
    rw [this.2.1, decide_eq_false this.1] at hc; cases hc
  · have hf := isFg_not (h c (List.mem_cons_self ..))
    rw [ival_c, if_neg hf.1]
    exact ⟨int_S (List.all_eq_true.mpr fun x hx => h x hx) (by simp) (by omega), by omega⟩
  · injection e with e1 e2
    subst e1; subst e2
    rw [ival_c, if_pos rfl]
    have hd : AllDigits r := fun x hx => isFg_ok.mp (h x hx)
    exact ⟨intText_neg (x := S (45 :: r)) (cs := r) rfl hd hv (by rw [S_len, List.length_cons]; omega), by rw [List.length_cons]; omega⟩
end

section
open SX NumText
theorem at_last {α : Type} (xs : List α) (x : α) : atI (xs ++ [x]) (-1) = some x := by
  have h : ixN (xs ++ [x]).length (-1) = some xs.length := by
    unfold ixN
    rw [List.length_append, List.length_singleton]
    simp
    omega
  unfold atI
  rw [h]
  simp
def Frs (G : Gp) : List Addr → List (List D) → Prop
  | [], [] => True
  | a :: as, f :: fs => G a = some (.lst f) ∧ Frs G as fs
  | _, _ => False
theorem Frs.up {G : Gp} {p : Addr} {o : GO} : ∀ {as : List Addr} {fs : List (List D)}, Frs G as fs → p ∉ as → Frs (L3.up G p o) as fs
  | [], [], _, _ => trivial
  | a :: as, f :: fs, h, n => by
    refine ⟨?_, Frs.up h.2 fun z => n (List.mem_cons_of_mem _ z)⟩
    rw [up_ne fun z => n (by rw [z]; exact List.mem_cons_self ..)]
    exact h.1
  | [], _ :: _, h, _ => h.elim
  | _ :: _, [], h, _ => h.elim
theorem Frs.len {G : Gp} : ∀ {as : List Addr} {fs : List (List D)}, Frs G as fs → as.length = fs.length
  | [], [], _ => rfl
  | _ :: _, _ :: _, h => by rw [List.length_cons, List.length_cons, Frs.len h.2]
  | [], _ :: _, h => h.elim
  | _ :: _, [], h => h.elim
/-- the stack of rows, its top first -/
structure Stk (G0 : Gp) (s : Addr) (as : List Addr) (st : List (List D)) (G : Gp) : Prop where
  top : G s = some (.lst (as.reverse.map D.ref))
  frs : Frs G as st
  ns : s ∉ as
  nd : as.Nodup
  new : ∀ a, a = s ∨ a ∈ as → G0 a = none
  old : ∀ b o, G0 b = some o → G b = some o
theorem Stk.put {G0 G : Gp} {s a : Addr} {as : List Addr} {f f' : List D} {fs : List (List D)} (h : Stk G0 s (a :: as) (f :: fs) G) : Stk G0 s (a :: as) (f' :: fs) (L3.up G a (.lst f')) where
  top := by
    rw [up_ne fun z => h.ns (by rw [z]; exact List.mem_cons_self ..)]; exact h.top
  frs := ⟨up_same, h.frs.2.up fun z => (List.nodup_cons.mp h.nd).1 z⟩
  ns := h.ns
  nd := h.nd
  new := h.new
  old := fun b o e => by
    rw [up_ne fun z => ?_]; exact h.old b o e
    have := h.new a (.inr (List.mem_cons_self ..))
    rw [z, this] at e; cases e
theorem Stk.push {G0 G : Gp} {s p : Addr} {as : List Addr} {st : List (List D)} (h : Stk G0 s as st G) (n : G p = none) (n0 : G0 p = none) : Stk G0 s (p :: as) ([] :: st) (L3.up (L3.up G p (.lst [])) s (.lst (as.reverse.map D.ref ++ [.ref p]))) := by
  have sp : s ≠ p := fun z => by have := h.top; rw [z, n] at this; cases this
  have pas : p ∉ as := by
    have key : ∀ (as : List Addr) (st : List (List D)), Frs G as st → p ∉ as := by
      intro as
      induction as with
      | nil => intro _ _ z; cases z
      | cons a as ih =>
        intro st hf z
        cases st with
        | nil => exact hf.elim
        | cons f fs =>
          rcases List.mem_cons.mp z with z | z
          · have := hf.1; rw [← z, n] at this; cases this
          · exact ih fs hf.2 z
    exact key as st h.frs
  refine ⟨?_, ⟨?_, ?_⟩, ?_, List.nodup_cons.mpr ⟨pas, h.nd⟩, ?_, fun b o e => ?_⟩
  · rw [up_same, List.reverse_cons, List.map_append]; rfl
  · rw [up_ne (Ne.symm sp), up_same]
  · exact (h.frs.up pas).up h.ns
  · intro z
    rcases List.mem_cons.mp z with z | z
    · exact sp z
    · exact h.ns z
  · intro a ha
    rcases ha with ha | ha
    · exact h.new a (.inl ha)
    · rcases List.mem_cons.mp ha with ha | ha
      · rw [ha]; exact n0
      · exact h.new a (.inr ha)
  · rw [up_ne (fun z => by rw [z, h.new s (.inl rfl)] at e; cases e), up_ne (fun z => by rw [z, n0] at e; cases e)]
    exact h.old b o e
theorem Stk.pop {G0 G : Gp} {s a : Addr} {as : List Addr} {f : List D} {st : List (List D)} (h : Stk G0 s (a :: as) (f :: st) G) : Stk G0 s as st (L3.up G s (.lst (as.reverse.map D.ref))) where
  top := up_same
  frs := h.frs.2.up fun z => h.ns (List.mem_cons_of_mem _ z)
  ns := fun z => h.ns (List.mem_cons_of_mem _ z)
  nd := (List.nodup_cons.mp h.nd).2
  new := fun b hb => h.new b (hb.imp id (List.mem_cons_of_mem _))
  old := fun b o e => by
    rw [up_ne fun z => by rw [z, h.new s (.inl rfl)] at e; cases e]; exact h.old b o e
theorem Stk.tops {G0 G : Gp} {s a : Addr} {as : List Addr} {st : List (List D)} (h : Stk G0 s (a :: as) st G) : G s = some (.lst (as.reverse.map D.ref ++ [.ref a])) := by
  rw [h.top, List.reverse_cons, List.map_append]; rfl
def dueS : Nat → Str | 0 => Str.ofString "item" | 1 => Str.ofString "first" | _ => Str.ofString "done"
theorem due_item {k : Nat} (h : k ≤ 2) : eqD (.str (dueS k)) (.str (Str.ofString "item")) = decide (k = 0) := by
  match k, h with
  | 0, _ => decide +kernel
  | 1, _ => decide +kernel
  | 2, _ => decide +kernel
theorem due_done {k : Nat} (h : k ≤ 2) : eqD (.str (dueS k)) (.str (Str.ofString "done")) = decide (k = 2) := by
  match k, h with
  | 0, _ => decide +kernel
  | 1, _ => decide +kernel
  | 2, _ => decide +kernel
/-- a test that tells b and changes nothing -/
def PuT (t : TT3) (σ : St3) (G : Gp) (b : Bool) : Prop := ∀ Q E, Q b G → t σ G Q E
theorem PuT.and {ta tb : TT3} {σ : St3} {G : Gp} {p q : Prop} [Decidable p] [Decidable q] (h1 : PuT ta σ G (decide p)) (h2 : PuT tb σ G (decide q)) : PuT (Tand ta tb) σ G (decide (p ∧ q)) := fun Q E h => by
  refine h1 _ E ?_
  by_cases hp : p
  · rw [decide_eq_true hp]
    refine iteT (h2 _ E ?_)
    have e : decide (p ∧ q) = decide q := by rw [Bool.eq_iff_iff, decide_eq_true_eq, decide_eq_true_eq]; exact ⟨fun z => z.2, fun z => ⟨hp, z⟩⟩
    rw [← e]; exact h
  · rw [decide_eq_false hp]
    refine iteF ?_
    rw [decide_eq_false (fun z => hp z.1)] at h
    exact h
end

section
open SX NumText
theorem Drw.c {d : D} (h : (kkD 21 d && !canW 20 d) = true) : Drw d := by
  rw [Bool.and_eq_true, Bool.not_eq_true'] at h
  exact ⟨h.1, fun z => by rw [h.2] at z; cases z⟩
theorem joinL_ch : ∀ (l : List (List Nat)) (c : Nat), c ∈ TL.joinL [44] l → c = 44 ∨ ∃ p ∈ l, c ∈ p
  | [], c, h => by cases h
  | [p], c, h => .inr ⟨p, by simp, h⟩
  | p :: q :: r, c, h => by
    have h : c ∈ p ++ ([44] ++ TL.joinL [44] (q :: r)) := h
    rcases List.mem_append.mp h with h | h
    · exact .inr ⟨p, by simp, h⟩
    · rcases List.mem_append.mp h with h | h
      · exact .inl (by simpa using h)
      · rcases joinL_ch (q :: r) c h with h | ⟨z, hz, h⟩
        · exact .inl h
        · exact .inr ⟨z, List.mem_cons_of_mem _ hz, h⟩
theorem wr_ch : ∀ (m : Nat) (d : D), okW m d = true → ∀ c ∈ wr m d, c < 128
  | m, .non, _, c, h => by rw [wr_atom.1] at h; rw [List.mem_singleton] at h; omega
  | m, .bl b, _, c, h => by
    rw [wr_atom.2.1] at h
    cases b <;> simp [yesL, noL] at h <;> omega
  | m, .int i, _, c, h => by
    rw [wr_atom.2.2.1] at h
    unfold numI at h
    have key : ∀ n, c ∈ TL.numL n → c < 128 := fun n hn => by have := TL.numL_digits n c hn; omega
    split at h
    · rcases List.mem_cons.mp h with h | h
      · omega
      · exact key _ h
    · exact key _ h
  | m, .str s, o, c, h => by
    rw [wr_atom.2.2.2] at h
    have o : wordB s.cps.toList = true := by cases m <;> exact o
    simp only [wordB, Bool.and_eq_true, decide_eq_true_eq, List.all_eq_true] at o
    have := isLt_ok.mp (o.1.1.2 c h)
    omega
  | m + 1, .tup xs, o, c, h => by
    have o : xs.all (okW m) = true := o
    rw [List.all_eq_true] at o
    have h : c ∈ 40 :: (TL.joinL [44] (xs.map (wr m)) ++ [41]) := h
    rcases List.mem_cons.mp h with h | h
    · omega
    · rcases List.mem_append.mp h with h | h
      · rcases joinL_ch _ c h with h | ⟨p, hp, h⟩
        · omega
        · obtain ⟨x, hx, rfl⟩ := List.mem_map.mp hp
          exact wr_ch m x (o x hx) c h
      · rw [List.mem_singleton] at h; omega
  | 0, .tup xs, o, _, _ => by cases o
  | m, .fl _, o, _, _ => by cases m <;> cases o
  | m, .sl _, o, _, _ => by cases m <;> cases o
  | m, .ob _ _ _, o, _, _ => by cases m <;> cases o
  | m, .emp, o, _, _ => by cases m <;> cases o
  | m, .ref _, o, _, _ => by cases m <;> cases o
  | m, .ex _, o, _, _ => by cases m <;> cases o
  | m, .exf _ _ _, o, _, _ => by cases m <;> cases o
  | m, .fn _, o, _, _ => by cases m <;> cases o
  | m, .lam _ _ _ _ _, o, _, _ => by cases m <;> cases o
theorem kkD_ob {n : Nat} {ns xs} : kkD n (.ob (Str.ofString "Forest") ns xs) = true := by
  have : OC.contains (Str.ofString "Forest") = true := by decide +kernel
  cases n <;> exact this
end

theorem sseq_cut4 {a b c e u : TS3} {D : Ends3} {σ : St3} {G : Gp} (I : St3 → Gp → Prop) (h1 : ∀ N : St3 → Gp → Prop, (∀ σ G, I σ G → N σ G) → sseq a (sseq b (sseq c e)) { D with nx := N } σ G) (h2 : ∀ σ G, I σ G → u D σ G) : sseq a (sseq b (sseq c (sseq e u))) D σ G := h1 _ h2

/-! #### comes_to_none -/

def sp_comes_to_none : Sp3 := fun ds G Q E => match ds with | [.tup [.non], .int 0] => Q (.bl true) G | _ => False
def t_comes_to_none : TS3 :=
    (sseq (sset 2 (tv 1))
    (sseq (sfor (irng1 (acons (tcb bLen (acons (tv 0) anil)) anil)) (.n 3) (sseq (sset 2 (t2 ix3 (tv 0) (tv 2)))
    (sif (tb3 (t2 (is3 false) (tv 2) (tc .non))) (sret (tc (.bl true))) snext)))
    (sret (tc (.bl false)))))
set_option maxHeartbeats 4000000 in
theorem vc_comes_to_none (ds : List D) (G : Gp) (Q : QK) (E : EK) (h : sp_comes_to_none ds G Q E) : t_comes_to_none (fnEnds Q E) (start3 N_comes_to_none ds) G := by
  unfold sp_comes_to_none at h
  split at h
  case h_2 => exact h.elim
  exact ⟨_, rfl, _, rfl, _, rfl, 1, rfl, by decide, by decide, trivial, _, rfl, _, rfl, _, _, rfl, rfl, _, rfl, _, rfl, ite_b (fun _ => dn_refl h) (fun z => by cases z)⟩
/-! #### is_integer -/

def sp_is_integer : Sp3 := fun ds G Q E => match ds with | [x] => kn OC x = true ∧ Q (.bl (isI x)) G | _ => False
def t_is_integer : TS3 :=
    (sret (tand (tisi (isT OC .int) (tv 0)) (tnot (tisi (isT OC .bl) (tv 0)))))
set_option maxHeartbeats 4000000 in
theorem vc_is_integer (ds : List D) (G : Gp) (Q : QK) (E : EK) (h : sp_is_integer ds G Q E) : t_is_integer (fnEnds Q E) (start3 N_is_integer ds) G := by
  unfold sp_is_integer at h
  split at h
  case h_2 => exact h.elim
  rename_i x
  refine ⟨_, rfl, isi_use (P := fun b => _) h.1 ⟨_, rfl, ite_b (fun hc => ?_) (fun hc => ?_)⟩⟩
  · refine ⟨_, rfl, isi_use (P := fun b => _) h.1 ⟨_, rfl, dn_refl ?_⟩⟩
    have := isI_eq x
    rw [hc, Bool.true_and] at this
    rw [this]; exact h.2
  · refine dn_refl ?_
    have := isI_eq x
    rw [hc, Bool.false_and] at this
    rw [this]; exact h.2
/-! #### is_within -/

def sp_is_within : Sp3 := fun ds G Q E => match ds with | [x, .int a, .int b] => kn OC x = true ∧ Q (.bl (wiI a b x)) G | _ => False
def t_is_within : TS3 :=
    (sret (tand (tcall sp_is_integer (acons (tv 0) anil)) (tch le3 le3 (tv 1) (tv 0) (tv 2))))
set_option maxHeartbeats 4000000 in
theorem vc_is_within (ds : List D) (G : Gp) (Q : QK) (E : EK) (h : sp_is_within ds G Q E) : t_is_within (fnEnds Q E) (start3 N_is_within ds) G := by
  unfold sp_is_within at h
  split at h
  case h_2 => exact h.elim
  rename_i x a b
  refine ⟨_, rfl, h.1, _, rfl, ite_b (fun hc => ?_) (fun hc => ?_)⟩
  · obtain ⟨i, rfl⟩ := isI_of hc
    refine ⟨_, rfl, _, rfl, _, rfl, ite_b (fun h1 => ?_) (fun h1 => ?_)⟩
    · refine ⟨_, rfl, dn_refl ?_⟩
      have this : Q (.bl (decide (a ≤ i) && decide (i ≤ b))) G := h.2
      rwa [h1, Bool.true_and] at this
    · refine dn_refl ?_
      have this : Q (.bl (decide (a ≤ i) && decide (i ≤ b))) G := h.2
      rwa [h1, Bool.false_and] at this
  · refine dn_refl ?_
    rw [show wiI a b x = false by cases x <;> first | rfl | cases hc] at h
    exact h.2
/-! #### is_below -/

def sp_is_below : Sp3 := fun ds G Q E => match ds with | [x, .int b] => kn OC x = true ∧ Q (.bl (wiI 0 (b - 1) x)) G | _ => False
def t_is_below : TS3 :=
    (sret (tcall sp_is_within (acons (tv 0) (acons (tc (.int 0)) (acons (t2 sub3 (tv 1) (tc (.int 1))) anil)))))
set_option maxHeartbeats 4000000 in
theorem vc_is_below (ds : List D) (G : Gp) (Q : QK) (E : EK) (h : sp_is_below ds G Q E) : t_is_below (fnEnds Q E) (start3 N_is_below ds) G := by
  unfold sp_is_below at h
  split at h
  case h_2 => exact h.elim
  exact ⟨_, rfl, _, rfl, h.1, dn_refl h.2⟩
/-! #### is_sized -/

def sp_is_sized : Sp3 := fun ds G Q E => match ds with | [x, .int a, .int b] => kn OC x = true ∧ Q (.bl (siI a b x)) G | _ => False
def t_is_sized : TS3 :=
    (sret (tand (tisi (isT OC .tup) (tv 0)) (tch le3 le3 (tv 1) (tcb bLen (acons (tv 0) anil)) (tv 2))))
set_option maxHeartbeats 4000000 in
theorem vc_is_sized (ds : List D) (G : Gp) (Q : QK) (E : EK) (h : sp_is_sized ds G Q E) : t_is_sized (fnEnds Q E) (start3 N_is_sized ds) G := by
  unfold sp_is_sized at h
  split at h
  case h_2 => exact h.elim
  rename_i x a b
  refine ⟨_, rfl, isi_use (P := fun b => _) h.1 ⟨_, rfl, ite_b (fun hc => ?_) (fun hc => ?_)⟩⟩
  · obtain ⟨xs, rfl⟩ := isT_of hc
    refine ⟨_, rfl, _, rfl, _, rfl, _, rfl, ite_b (fun h1 => ?_) (fun h1 => ?_)⟩
    · refine ⟨_, rfl, dn_refl ?_⟩
      have this : Q (.bl (decide (a ≤ (xs.length : Int)) && decide ((xs.length : Int) ≤ b))) G := h.2
      rwa [h1, Bool.true_and] at this
    · refine dn_refl ?_
      have this : Q (.bl (decide (a ≤ (xs.length : Int)) && decide ((xs.length : Int) ≤ b))) G := h.2
      rwa [h1, Bool.false_and] at this
  · refine dn_refl ?_
    rw [show siI a b x = false by cases x <;> first | rfl | (simp [isiD] at hc)] at h
    exact h.2
/-! #### are_parents -/

def sp_are_parents : Sp3 := fun ds G Q E => match ds with | [.tup [.non]] => Q (.bl true) G | _ => False
def t_are_parents : TS3 :=
    (sseq (sif (Tnot (tb3 (tcall sp_is_sized (acons (tv 0) (acons (tc (.int 1)) (acons (tc (.int 64)) anil)))))) (sret (tc (.bl false))) snext)
    (sseq (sif (Tnot (tb3 (tcb bAll (acons (tlc false (iseq (tv 0)) (.n 2) Tyes (tor (t2 (is3 false) (tv 2) (tc .non)) (tcall sp_is_below (acons (tv 2) (acons (tcb bLen (acons (tv 0) anil)) anil)))) [2]) anil)))) (sret (tc (.bl false))) snext)
    (sret (tcb bAll (acons (tlc false (irng1 (acons (tcb bLen (acons (tv 0) anil)) anil)) (.n 1) Tyes (tcall sp_comes_to_none (acons (tv 0) (acons (tv 1) anil))) [1]) anil)))))
set_option maxHeartbeats 4000000 in
theorem vc_are_parents (ds : List D) (G : Gp) (Q : QK) (E : EK) (h : sp_are_parents ds G Q E) : t_are_parents (fnEnds Q E) (start3 N_are_parents ds) G := by
  unfold sp_are_parents at h
  split at h
  case h_2 => exact h.elim
  refine ⟨_, rfl, rfl, _, rfl, ite_b (fun z => absurd z (by decide)) (fun _ => ?_)⟩
  refine ⟨_, rfl, _, rfl, lc_pure (fun _ => some (.bl true)) (fun x mx G' _ R hR => ?_) (fun _ _ => trivial) (by decide) ?_⟩
  · rw [List.mem_singleton] at mx
    subst mx
    exact ⟨_, rfl, _, rfl, ite_b (fun _ => hR) (fun z => by cases z)⟩
  · refine ⟨_, [true], rfl, rfl, _, rfl, ite_b (fun z => by cases z) (fun _ => ?_)⟩
    refine ⟨_, rfl, _, rfl, 1, rfl, by decide, by decide, lc_pure (fun _ => some (.bl true)) (fun x mx G' _ R hR => ?_) (fun _ _ => trivial) (by decide) ?_⟩
    · have mx : x = .int 0 := by simpa using mx
      subst mx
      exact ⟨_, rfl, _, rfl, hR⟩
    · exact ⟨_, [true], rfl, rfl, dn_refl h⟩
/-! #### Forest.__init__ -/

def sp_Forest___init__ : Sp3 := fun ds G Q E => match ds with | [.ref a, .tup [.non], .tup [.int 0]] => G a = some (.ins (Str.ofString "Forest") []) ∧ ∀ fs, Q .non (up G a (.ins (Str.ofString "Forest") fs)) | _ => False
def t_Forest___init__ : TS3 :=
    (sseq (sif (Tnot (tb3 (tcall sp_are_parents (acons (tv 1) anil)))) (sraisef (Str.ofString "BadForest") (Str.ofString "part") (tc (.str (Str.ofString "parents")))) snext)
    (sseq (sif (Tor (Tnot (tb3 (tcall sp_is_sized (acons (tv 2) (acons (tcb bLen (acons (tv 1) anil)) (acons (tcb bLen (acons (tv 1) anil)) anil)))))) (Tnot (tb3 (tcb bAll (acons (tlc false (iseq (tv 2)) (.n 3) Tyes (tcall sp_is_integer (acons (tv 3) anil)) [3]) anil))))) (sraisef (Str.ofString "BadForest") (Str.ofString "part") (tc (.str (Str.ofString "worths")))) snext)
    (sseq (sfld (Str.ofString "Forest") (Str.ofString "parents") (tv 0) (tv 1))
    (sfld (Str.ofString "Forest") (Str.ofString "worths") (tv 0) (tv 2)))))
set_option maxHeartbeats 4000000 in
theorem vc_Forest___init__ (ds : List D) (G : Gp) (Q : QK) (E : EK) (h : sp_Forest___init__ ds G Q E) : t_Forest___init__ (fnEnds Q E) (start3 N_Forest___init__ ds) G := by
  unfold sp_Forest___init__ at h
  split at h
  case h_2 => exact h.elim
  rename_i a
  obtain ⟨hG, hq⟩ := h
  refine ⟨_, rfl, _, rfl, ite_b (fun z => by cases z) (fun _ => ?_)⟩
  refine ⟨_, rfl, _, rfl, _, rfl, _, rfl, _, rfl, rfl, _, rfl, ite_b (fun z => absurd z (by decide)) (fun _ => ?_)⟩
  refine ⟨_, rfl, _, rfl, lc_pure (fun _ => some (.bl true)) (fun x mx G' _ R hR => ?_) (fun _ _ => trivial) (by decide) ?_⟩
  · rw [List.mem_singleton] at mx
    subst mx
    exact ⟨_, rfl, rfl, hR⟩
  · refine ⟨_, [true], rfl, rfl, _, rfl, ite_b (fun z => by cases z) (fun _ => ?_)⟩
    refine ⟨_, rfl, _, rfl, a, _, rfl, hG, by decide, ?_⟩
    refine ⟨_, rfl, _, rfl, a, _, rfl, up_same, by decide, dn_refl ?_⟩
    rw [up_up]
    exact hq _
/-! #### _law_can_be -/

def sp__law_can_be : Nat → Sp3 := fun n ds G Q E => match n, ds with | n + 1, [d, .int i] => ∃ m : Nat, i + (m : Nat) = 20 ∧ m ≤ n ∧ kkD (m + 1) d = true ∧ Q (.bl (canW m d)) G | _, _ => False
def t__law_can_be (sp : Sp3) : TS3 :=
    (sseq (sif (Tor (tb3 (t2 (is3 false) (tv 0) (tc .non))) (tb3 (tisi (isT OC .int) (tv 0)))) (sret (tc (.bl true))) snext)
    (sseq (sif (tb3 (tisi (isT OC .str) (tv 0))) (sseq (sset 2 (tand (tch le3 le3 (tc (.int 1)) (tcb bLen (acons (tv 0) anil)) (tc (.int 20))) (tcb bAll (acons (tlc false (istr (tv 0)) (.n 4) Tyes (t2 (inA3 false) (tv 4) (tc (.str (Str.ofString "abcdefghijklmnopqrstuvwxyz")))) [4]) anil))))
    (sret (tand (tv 2) (t2 (in3 true) (tv 0) (ttup (acons (tc (.str (Str.ofString "yes"))) (acons (tc (.str (Str.ofString "no"))) anil))))))) snext)
    (sret (tand (tisi (isT OC .tup) (tv 0)) (tand (t2 lt3 (tv 1) (tc (.int 20))) (tcb bAll (acons (tlc false (iseq (tv 0)) (.n 3) Tyes (tcall sp (acons (tv 3) (acons (t2 (add3 false) (tv 1) (tc (.int 1))) anil))) [3]) anil)))))))
set_option maxHeartbeats 4000000 in
theorem vc__law_can_be (n : Nat) (ds : List D) (G : Gp) (Q : QK) (E : EK) (h : sp__law_can_be (n + 1) ds G Q E) : t__law_can_be (sp__law_can_be n) (fnEnds Q E) (start3 N__law_can_be ds) G := by
  unfold sp__law_can_be at h
  split at h
  case h_2 => exact h.elim
  rename_i n' d i e
  cases e
  obtain ⟨m, im, lm, kd, hq⟩ := h
  have k1 := kkD_kn kd
  by_cases et : ∃ xs, d = .tup xs
  · obtain ⟨xs, rfl⟩ := et
    refine ⟨_, rfl, _, rfl, iteF ⟨_, rfl, isi_use (P := fun b => _) k1 ⟨_, rfl, iteF (snext_eq ⟨_, rfl, isi_use (P := fun b => _) k1 ⟨_, rfl, iteF (snext_eq ⟨_, rfl, isi_use (P := fun b => _) k1 ⟨_, rfl, iteT ⟨_, rfl, _, rfl, ?_⟩⟩⟩)⟩⟩)⟩⟩⟩
    refine ite_b (fun z => ?_) (fun z => ?_)
    · have z : i < 20 := of_decide_eq_true z
      obtain ⟨m, rfl⟩ : ∃ j, m = j + 1 := ⟨m - 1, by omega⟩
      obtain ⟨n, rfl⟩ : ∃ j, n = j + 1 := ⟨n - 1, by omega⟩
      have kd : (decide (xs.length ≤ 1000000) && xs.all (kkD (m + 1))) = true := kd
      rw [Bool.and_eq_true, decide_eq_true_eq, List.all_eq_true] at kd
      refine ⟨_, rfl, _, rfl, all_bls (canW m) kd.1 (fun _ _ => trivial) (fun x mx G' _ R hR => ?_) (dn_refl hq)⟩
      exact ⟨_, rfl, _, rfl, m, by omega, by omega, kd.2 x mx, hR⟩
    · have z : ¬ i < 20 := of_decide_eq_false z
      obtain rfl : m = 0 := by omega
      exact dn_refl hq
  · have nt : isiD .tup d = false := by cases d <;> first | rfl | exact absurd ⟨_, rfl⟩ et
    rw [canW_atom nt] at hq
    unfold atomW at hq
    refine ⟨_, rfl, _, rfl, ite_b (fun z1 => ?_) (fun z1 => ?_)⟩
    · have z1 : isN d = true := z1
      rw [z1] at hq
      exact iteT (dn_refl hq)
    · have z1 : isN d = false := z1
      rw [z1, Bool.false_or] at hq
      refine ⟨_, rfl, isi_use (P := fun b => _) k1 ⟨_, rfl, ite_b (fun z2 => ?_) (fun z2 => ?_)⟩⟩
      · rw [z2] at hq
        exact dn_refl hq
      · rw [z2, Bool.false_or] at hq
        refine snext_eq ⟨_, rfl, isi_use (P := fun b => _) k1 ⟨_, rfl, ?_⟩⟩
        by_cases es : ∃ s, d = .str s
        · obtain ⟨s, rfl⟩ := es
          have ls := kkD_sz kd s rfl
          have lz : s.length ≤ sizeLine := Nat.le_trans ls (Nat.le_of_ble_eq_true rfl)
          have el : s.length = s.cps.toList.length := by rw [Array.length_toList]; rfl
          have hq : Q (.bl (wordB s.cps.toList)) G := hq
          rw [wordB_eq2, ← el] at hq
          refine iteT ⟨_, rfl, lz, _, rfl, ite_b (fun z1 => ?_) (fun z1 => ?_)⟩
          · have z1 : decide (1 ≤ s.length) = true := decide_eq_true (by have := of_decide_eq_true z1; omega)
            rw [z1] at hq
            refine ⟨_, rfl, ite_b (fun z2 => ?_) (fun z2 => ?_)⟩
            · have h2 : (s.length : Int) ≤ 20 := by simpa using z2
              rw [decide_eq_true (show s.length ≤ 20 by omega)] at hq
              refine ⟨_, rfl, _, rfl, sgn_lc isLt ls ?_ ?_⟩
              · intro c _ G' R hR
                refine ⟨_, rfl, .inr ⟨c, _, rfl, rfl, ?_⟩⟩
                exact (by rw [lts_ch]; exact hR)
              · refine ⟨_, s.cps.toList.map isLt, rfl, bls_mp _ _, ?_⟩
                rw [List.all_map, show (id ∘ isLt) = isLt from rfl]
                refine ⟨_, rfl, _, rfl, ?_⟩
                refine ite_b (fun z3 => ?_) (fun z3 => ?_)
                · rw [z3] at hq
                  refine ⟨_, rfl, Nat.le_of_ble_eq_true rfl, _, rfl, rfl, rfl, dn_refl ?_⟩
                  show Q (.bl (!inD _ _)) G
                  rw [word_tup]; exact hq
                · rw [z3] at hq
                  exact dn_refl hq
            · have h2 : ¬ (s.length : Int) ≤ 20 := by simpa using z2
              rw [decide_eq_false (show ¬ s.length ≤ 20 by omega)] at hq
              exact ⟨_, rfl, _, rfl, iteF (dn_refl hq)⟩
          · have h1 : ¬ (1 : Int) ≤ s.length := by simpa using z1
            rw [decide_eq_false (show ¬ 1 ≤ s.length by omega)] at hq
            exact ⟨_, rfl, iteF ⟨_, rfl, _, rfl, iteF (dn_refl hq)⟩⟩
        · obtain ⟨e1, e2⟩ := isStr_no es
          rw [e2] at hq
          rw [e1]
          refine iteF (snext_eq ⟨_, rfl, isi_use (P := fun b => _) k1 ⟨_, rfl, ?_⟩⟩)
          rw [nt]
          exact iteF (dn_refl hq)
/-! #### _law_deep -/

def sp__law_deep : Sp3 := fun ds G Q E => match ds with | [.int k] => ∀ d, (∀ n, kkD n d = true) → canW 20 d = false → (∀ s, d ≠ .str s) → Q d G | _ => False
def t__law_deep : TS3 :=
    (sseq (sset 1 (tc .non))
    (sseq (sfor (irng1 (acons (tc (.int 36)) anil)) (.n 2) (sset 1 (tif (tb3 (t2 eq3 (tv 0) (tc (.int 0)))) (tlst false (acons (tv 1) anil)) (ttup (acons (tv 1) anil)))))
    (sret (tv 1))))
set_option maxHeartbeats 4000000 in
theorem vc__law_deep (ds : List D) (G : Gp) (Q : QK) (E : EK) (h : sp__law_deep ds G Q E) : t__law_deep (fnEnds Q E) (start3 N__law_deep ds) G := by
  unfold sp__law_deep at h
  split at h
  case h_2 => exact h.elim
  rename_i k
  refine ⟨36, rfl, by decide, by decide, forL_inv (fun j σ G' => G' = G ∧ ∃ d y, (∀ n, kkD n d = true) ∧ (∀ m, m < j → canW m d = false) ∧ (∀ s, d ≠ .str s) ∧ σ = [some (.int k), some d, y]) ?_ ?_ ⟨rfl, .non, none, (fun n => by cases n <;> rfl), (fun m h => by omega), (fun s h => nomatch h), rfl⟩⟩
  · rintro j x σ G' N ex ⟨rfl, d, y, hd, hc, _, rfl⟩ hN
    refine ⟨trivial, _, rfl, rfl, _, rfl, ite_b (fun _ => ?_) (fun _ => ?_)⟩
    · exact ⟨_, rfl, by show 1 ≤ 16777216; decide, hN _ _ ⟨rfl, .fl [d], _, (fun n => by cases n <;> rfl), (fun m _ => by cases m <;> rfl), (fun s h => nomatch h), rfl⟩⟩
    · refine ⟨_, rfl, by show 1 ≤ 16777216; decide, hN _ _ ⟨rfl, .tup [d], _, (fun n => ?_), (fun m hm => ?_), (fun s h => nomatch h), rfl⟩⟩
      · cases n with
        | zero => rfl
        | succ n => show (true && (kkD n d && true)) = true; rw [hd n]; rfl
      · cases m with
        | zero => rfl
        | succ m => show (canW m d && true) = false; rw [hc m (by omega)]; rfl
  · rintro σ G' ⟨rfl, d, y, hd, hc, hs, rfl⟩
    exact ⟨trivial, _, rfl, dn_refl (h d hd (hc 20 (by decide)) hs)⟩
/-! #### _law_draw -/

def sp__law_draw : Sp3 := fun ds G Q E => match ds with
  | [.ref h, .int m] => ∃ cs i c s t, G h = some (hnd cs i c s t) ∧ HOk cs i c ∧ 1 ≤ m ∧ m < 1073741824 ∧ ∀ r i' c' s' t', 0 ≤ r → r < m → HOk cs i' c' → Q (.int r) (up G h (hnd cs i' c' s' t'))
  | _ => False
def t__law_draw : TS3 :=
    (sseq (sif (Tand (tb3 (t2 eq3 (t2 ix3 (tv 0) (tc (.int 2))) (tc (.int 0)))) (tb3 (t2 lt3 (t2 ix3 (tv 0) (tc (.int 1))) (tcb bLen (acons (t2 ix3 (tv 0) (tc (.int 0))) anil))))) (sseq (sset 3 (t2 ix3 (t2 ix3 (tv 0) (tc (.int 0))) (t2 ix3 (tv 0) (tc (.int 1)))))
    (sseq (ssub (tv 0) (tc (.int 1)) (t2 (add3 false) (t2 ix3 (tv 0) (tc (.int 1))) (tc (.int 1))) setL3)
    (sseq (ssub (tv 0) (tc (.int 3)) (t2 mod3 (tcb bInt (acons (t2 (add3 false) (t2 (add3 false) (t2 (mul3 false) (t2 ix3 (tv 0) (tc (.int 3))) (tc (.int 69621))) (tv 3)) (tc (.int 11))) anil)) (tc (.int 2147483629))) setL3)
    (sif (tb3 (t2 ge3 (tv 3) (t2 pow3 (tc (.int 10)) (tc (.int 18))))) (ssub (tv 0) (tc (.int 2)) (tv 3) setL3) snext)))) snext)
    (sseq (sif (tb3 (t2 gt3 (t2 ix3 (tv 0) (tc (.int 2))) (tc (.int 0)))) (sseq (sset 4 (t2 mod3 (tcb bInt (acons (t2 ix3 (tv 0) (tc (.int 2))) anil)) (tv 1)))
    (sseq (ssub (tv 0) (tc (.int 2)) (t2 fdiv3 (t2 ix3 (tv 0) (tc (.int 2))) (tv 1)) setL3)
    (sret (tv 4)))) snext)
    (sseq (ssub (tv 0) (tc (.int 4)) (t2 (add3 false) (t2 ix3 (tv 0) (tc (.int 4))) (tc (.int 1))) setL3)
    (sseq (sset 2 (t2 mod3 (tcb bInt (acons (t2 (mul3 false) (tcb bInt (acons (t2 (add3 false) (t2 ix3 (tv 0) (tc (.int 3))) (t2 (mul3 false) (tc (.int 7919)) (t2 ix3 (tv 0) (tc (.int 4))))) anil)) (tc (.int 48271))) anil)) (tc (.int 2147483647))))
    (sseq (sset 2 (t2 mod3 (tcb bInt (acons (t2 (mul3 false) (tv 2) (t2 (add3 false) (t2 fdiv3 (tv 2) (tc (.int 1009))) (tc (.int 69621)))) anil)) (tc (.int 2147483647))))
    (sseq (sset 2 (t2 mod3 (tcb bInt (acons (t2 (mul3 false) (tv 2) (t2 (add3 false) (t2 fdiv3 (tv 2) (tc (.int 2003))) (tc (.int 40692)))) anil)) (tc (.int 2147483399))))
    (sret (t2 mod3 (tcb bInt (acons (t2 fdiv3 (tv 2) (tc (.int 16))) anil)) (tv 1)))))))))
set_option maxHeartbeats 4000000 in
theorem vc__law_draw (ds : List D) (G : Gp) (Q : QK) (E : EK) (h : sp__law_draw ds G Q E) : t__law_draw (fnEnds Q E) (start3 N__law_draw ds) G := by
  unfold sp__law_draw at h
  split at h
  case h_2 => exact h.elim
  rename_i h m
  obtain ⟨cs, i, c, s, t, hG, ok, m1, m2, hq⟩ := h
  refine sseq_cut (fun σ G' => ∃ y i c s t, G' = up G h (hnd cs i c s t) ∧ HOk cs i c ∧ σ = [some (.ref h), some (.int m), none, y, none]) (fun N hN => ?_) ?_
  · have hN0 : N [some (.ref h), some (.int m), none, none, none] G := hN _ _ ⟨none, i, c, s, t, (up_self hG).symm, ok, rfl⟩
    refine ⟨_, rfl, _, _, sq_ref hG, rfl, rfl, _, rfl, ite_b (fun h1 => ?_) (fun _ => hN0)⟩
    refine ⟨_, rfl, _, _, sq_ref hG, rfl, _, rfl, _, _, sq_ref hG, rfl, _, rfl, _, rfl, ite_b (fun h2 => ?_) (fun _ => hN0)⟩
    have h2 : i < cs.length := by simpa using h2
    obtain ⟨v, ev, mv⟩ := at_ok ok.i0 h2
    obtain ⟨n, e1⟩ := ok.nums v mv
    subst e1
    refine ⟨_, rfl, _, _, sq_ref hG, rfl, _, rfl, _, _, sq_ref hG, rfl, _, _, rfl, ev, ?_⟩
    refine ⟨_, rfl, _, _, sq_ref hG, rfl, _, rfl, _, _, hG, rfl, ?_⟩
    refine ⟨_, rfl, _, _, sq_ref up_same, rfl, .inr (.inl ⟨by decide, by decide⟩), _, rfl, by decide, _, rfl, _, _, up_same, rfl, ?_⟩
    refine ⟨_, rfl, ⟨by decide, by decide, by decide⟩, _, rfl, ite_b (fun h3 => ?_) (fun _ => ?_)⟩
    · have e2 : 0 ≤ n := by
        have h3 : (10 : Int) ^ (18 : Int).toNat ≤ n := of_decide_eq_true h3
        have h4 : (0 : Int) ≤ 10 ^ (18 : Int).toNat := by decide
        omega
      refine ⟨_, rfl, _, rfl, _, _, up_same, rfl, ?_⟩
      refine hN _ _ ⟨some (.int n), i + 1, n, (s * 69621 + n + 11) % 2147483629, t, ?_, ⟨ok.nums, by have := ok.i0; omega, e2⟩, rfl⟩
      rw [up_up, up_up]; rfl
    · refine hN _ _ ⟨some (.int n), i + 1, c, (s * 69621 + n + 11) % 2147483629, t, ?_, ⟨ok.nums, by have := ok.i0; omega, ok.c0⟩, rfl⟩
      rw [up_up]; rfl
  · rintro σ G' ⟨y, i, c, s, t, rfl, ok, rfl⟩
    have hU : ∀ {o : GO} {u : GO}, up (up G h o) h u = up G h u := up_up
    refine sseq_cut (fun σ G' => G' = up G h (hnd cs i c s t) ∧ σ = [some (.ref h), some (.int m), none, y, none]) (fun N hN => ?_) ?_
    · refine ⟨_, rfl, _, _, sq_ref up_same, rfl, _, rfl, ite_b (fun h1 => ?_) (fun _ => hN _ _ ⟨rfl, rfl⟩)⟩
      refine ⟨_, rfl, _, _, sq_ref up_same, rfl, _, rfl, by omega, ?_⟩
      refine ⟨_, rfl, _, _, sq_ref up_same, rfl, _, rfl, by omega, by omega, _, rfl, _, _, up_same, rfl, _, rfl, dn_refl ?_⟩
      rw [up_up]
      exact hq _ _ _ _ _ (Int.emod_nonneg _ (by omega)) (Int.emod_lt_of_pos _ (by omega)) ⟨ok.nums, ok.i0, Int.ediv_nonneg ok.c0 (by omega)⟩
    · rintro σ G' ⟨rfl, rfl⟩
      refine ⟨_, rfl, _, _, sq_ref up_same, rfl, _, rfl, _, _, up_same, rfl, ?_⟩
      refine ⟨_, rfl, _, _, sq_ref up_same, rfl, _, rfl, _, _, sq_ref up_same, rfl, .inl ⟨by decide, by decide⟩, .inr (.inl ⟨by decide, by decide⟩), by decide, ?_⟩
      generalize (s + 7919 * (t + 1)) * 48271 = z0
      have a1 := Int.emod_nonneg z0 (b := 2147483647) (by decide)
      have a2 := Int.emod_lt_of_pos z0 (b := 2147483647) (by decide)
      refine ⟨_, rfl, _, rfl, by decide, by decide, .inl ⟨by omega, by omega⟩, by decide, ?_⟩
      generalize z0 % 2147483647 * (z0 % 2147483647 / 1009 + 69621) = z1
      have b1 := Int.emod_nonneg z1 (b := 2147483647) (by decide)
      have b2 := Int.emod_lt_of_pos z1 (b := 2147483647) (by decide)
      refine ⟨_, rfl, _, rfl, by decide, by decide, .inl ⟨by omega, by omega⟩, by decide, ?_⟩
      refine ⟨_, rfl, by decide, by decide, _, rfl, by omega, dn_refl ?_⟩
      rw [up_up]
      exact hq _ _ _ _ _ (Int.emod_nonneg _ (by omega)) (Int.emod_lt_of_pos _ (by omega)) ok
/-! #### _law_some -/

def sp__law_some : Sp3 := fun ds G Q E => match ds with
  | [.ref h, L] => ∃ cs i c s t xs, G h = some (hnd cs i c s t) ∧ HOk cs i c ∧ sq G L = some xs ∧ L ≠ .ref h ∧ 1 ≤ xs.length ∧ xs.length < 1000000 ∧ ∀ x i' c' s' t', x ∈ xs → HOk cs i' c' → Q x (up G h (hnd cs i' c' s' t'))
  | _ => False
def t__law_some : TS3 :=
    (sret (t2 ix3 (tv 1) (tcall sp__law_draw (acons (tv 0) (acons (tcb bLen (acons (tv 1) anil)) anil)))))
set_option maxHeartbeats 4000000 in
theorem vc__law_some (ds : List D) (G : Gp) (Q : QK) (E : EK) (h : sp__law_some ds G Q E) : t__law_some (fnEnds Q E) (start3 N__law_some ds) G := by
  unfold sp__law_some at h
  split at h
  case h_2 => exact h.elim
  rename_i h L
  obtain ⟨cs, i, c, s, t, xs, hG, ok, hL, nL, l1, l2, hq⟩ := h
  have len : ∀ (R : QK), R (.int xs.length) G → bLen [L] G R := fun R z => by
    unfold bLen
    split
    · rename_i e; injection e with e1 e2; subst e1; cases hL
    · rename_i e; injection e with e1 e2; subst e1; exact ⟨xs, hL, z⟩
    · rename_i n1 n2; exact absurd rfl (n2 L)
  refine ⟨_, rfl, _, rfl, _, rfl, ?_⟩
  dsimp only [acons, anil, tcb, tv]
  refine len _ ?_
  refine ⟨cs, i, c, s, t, hG, ok, by omega, by omega, fun r i' c' s' t' r0 r1 ok' => ?_⟩
  obtain ⟨x, e, mx⟩ := at_ok r0 r1
  have hL' : sq (up G h (hnd cs i' c' s' t')) L = some xs := by
    cases L with
    | ref p =>
      have ne : p ≠ h := fun z => nL (by rw [z])
      unfold sq at hL ⊢
      simp only at hL ⊢
      rw [up_ne ne]; exact hL
    | _ => exact hL
  have fin := dn_refl (hq x i' c' s' t' mx ok')
  show ix3 L (.int r) _ _
  unfold ix3
  split
  · cases hL
  · rename_i e1 e2; cases e2; exact ⟨xs, x, hL', e, fin⟩
  · rename_i n1 n2; first | exact absurd rfl (n1 _) | exact absurd rfl (n2 _)
/-! #### _law_drawn_thing -/

def sp__law_drawn_thing : Nat → Sp3 := fun n ds G Q E => match n, ds with | n + 1, [.ref h, .int k] => ∃ m : Nat, k = (m : Nat) ∧ m ≤ n ∧ ∃ cs i c s t, G h = some (hnd cs i c s t) ∧ HOk cs i c ∧ ∀ d i' c' s' t', okW m d = true → (wr m d).length ≤ 32 * 4 ^ m → HOk cs i' c' → Q d (up G h (hnd cs i' c' s' t')) | _, _ => False
def t__law_drawn_thing (sp : Sp3) : TS3 :=
    (sseq (sset 2 (tcall sp__law_draw (acons (tv 0) (acons (tc (.int 10)) anil))))
    (sseq (sif (Tand (tb3 (t2 lt3 (tv 2) (tc (.int 3)))) (tb3 (t2 gt3 (tv 1) (tc (.int 0))))) (sret (tcb bTup (acons (tlc false (irng1 (acons (tcall sp__law_draw (acons (tv 0) (acons (tc (.int 4)) anil))) anil)) (.n 3) Tyes (tcall sp (acons (tv 0) (acons (t2 sub3 (tv 1) (tc (.int 1))) anil))) [3]) anil))) snext)
    (sseq (sif (tb3 (t2 lt3 (tv 2) (tc (.int 6)))) (sret (tcall sp__law_some (acons (tv 0) (acons (tlst false (acons (tc (.int 0)) (acons (tc (.int 1)) (acons (tneg (tc (.int 1))) (acons (tc (.int 10)) (acons (tneg (tc (.int 10))) (acons (t2 pow3 (tc (.int 10)) (tc (.int 19))) (acons (tneg (t2 sub3 (t2 pow3 (tc (.int 10)) (tc (.int 20))) (tc (.int 1)))) (acons (t2 sub3 (t2 pow3 (tc (.int 10)) (tc (.int 20))) (tc (.int 1))) (acons (tcall sp__law_draw (acons (tv 0) (acons (tc (.int 1000)) anil))) anil)))))))))) anil)))) snext)
    (sseq (sif (tb3 (t2 lt3 (tv 2) (tc (.int 8)))) (sret (tcall sp__law_some (acons (tv 0) (acons (tlst false (acons (tc (.str (Str.ofString "a"))) (acons (tc (.str (Str.ofString "least"))) (acons (t2 mul3S (tc (.str (Str.ofString "z"))) (tc (.int 20))) (acons (tc (.str (Str.ofString "yess"))) (acons (tc (.str (Str.ofString "non"))) (acons (tc (.str (Str.ofString "root"))) (acons (tc (.str (Str.ofString "deed"))) (acons (tc (.str (Str.ofString "y"))) (acons (tc (.str (Str.ofString "n"))) anil)))))))))) anil)))) snext)
    (sret (tcall sp__law_some (acons (tv 0) (acons (tlst false (acons (tc .non) (acons (tc (.bl true)) (acons (tc (.bl false)) anil)))) anil))))))))
set_option maxHeartbeats 4000000 in
theorem vc__law_drawn_thing (n : Nat) (ds : List D) (G : Gp) (Q : QK) (E : EK) (h : sp__law_drawn_thing (n + 1) ds G Q E) : t__law_drawn_thing (sp__law_drawn_thing n) (fnEnds Q E) (start3 N__law_drawn_thing ds) G := by
  unfold sp__law_drawn_thing at h
  split at h
  case h_2 => exact h.elim
  rename_i n' h k e
  cases e
  obtain ⟨m, rfl, lm, cs, i, c, s, t, hG, ok, hq⟩ := h
  have p4 : 1 ≤ 4 ^ m := Nat.one_le_pow _ _ (by decide)
  have lst : ∀ (L : List D), (∀ d ∈ L, okW m d = true ∧ (wr m d).length ≤ 32) → 1 ≤ L.length → L.length < 1000000 → ∀ i c s t (E' : EK), HOk cs i c → sp__law_some [.ref h, .fl L] (up G h (hnd cs i c s t)) (dn Q) E' := fun L hL l1 l2 i c s t E' ok =>
    ⟨cs, i, c, s, t, L, up_same, ok, rfl, (by intro z; cases z), l1, l2, fun d i c s t md ok => dn_refl (by
      rw [up_up]
      exact hq d i c s t (hL d md).1 (Nat.le_trans (hL d md).2 (by omega)) ok)⟩
  refine ⟨_, rfl, cs, i, c, s, t, hG, ok, by decide, by decide, fun kd i c s t k0 k1 ok => ?_⟩
  have rest : ∀ (D' : Ends3), D'.rt = dn Q → (sseq (sif (tb3 (t2 lt3 (tv 2) (tc (.int 6)))) (sret (tcall sp__law_some (acons (tv 0) (acons (tlst false (acons (tc (.int 0)) (acons (tc (.int 1)) (acons (tneg (tc (.int 1))) (acons (tc (.int 10)) (acons (tneg (tc (.int 10))) (acons (t2 pow3 (tc (.int 10)) (tc (.int 19))) (acons (tneg (t2 sub3 (t2 pow3 (tc (.int 10)) (tc (.int 20))) (tc (.int 1)))) (acons (t2 sub3 (t2 pow3 (tc (.int 10)) (tc (.int 20))) (tc (.int 1))) (acons (tcall sp__law_draw (acons (tv 0) (acons (tc (.int 1000)) anil))) anil)))))))))) anil)))) snext)
    (sseq (sif (tb3 (t2 lt3 (tv 2) (tc (.int 8)))) (sret (tcall sp__law_some (acons (tv 0) (acons (tlst false (acons (tc (.str (Str.ofString "a"))) (acons (tc (.str (Str.ofString "least"))) (acons (t2 mul3S (tc (.str (Str.ofString "z"))) (tc (.int 20))) (acons (tc (.str (Str.ofString "yess"))) (acons (tc (.str (Str.ofString "non"))) (acons (tc (.str (Str.ofString "root"))) (acons (tc (.str (Str.ofString "deed"))) (acons (tc (.str (Str.ofString "y"))) (acons (tc (.str (Str.ofString "n"))) anil)))))))))) anil)))) snext)
    (sret (tcall sp__law_some (acons (tv 0) (acons (tlst false (acons (tc .non) (acons (tc (.bl true)) (acons (tc (.bl false)) anil)))) anil)))))) D' [some (.ref h), some (.int (m : Nat)), some (.int kd), none] (up G h (hnd cs i c s t)) := fun D' hD => by
    refine ⟨_, rfl, _, rfl, ite_b (fun _ => ?_) (fun _ => ?_)⟩
    · refine ⟨_, rfl, _, rfl, _, rfl, ⟨by decide, by decide, by decide⟩, ⟨by decide, by decide, by decide⟩, _, rfl, ⟨by decide, by decide, by decide⟩, _, rfl, cs, i, c, s, t, up_same, ok, by decide, by decide, fun r i c s t r0 r1 ok => ?_⟩
      rw [up_up]
      refine ⟨Nat.le_of_ble_eq_true rfl, ?_⟩
      dsimp only
      rw [hD]
      refine lst _ (fun d md => ?_) (Nat.le_of_ble_eq_true rfl) (Nat.le_of_ble_eq_true rfl) _ _ _ _ (fun _ _ => False) ok
      simp only [List.mem_cons, List.not_mem_nil, or_false] at md
      rcases md with rfl | rfl | rfl | rfl | rfl | rfl | rfl | rfl | rfl <;> refine atomI m ?_ <;> first | decide +kernel | omega
    · refine snext_eq ⟨_, rfl, _, rfl, ite_b (fun _ => ?_) (fun _ => ?_)⟩
      · refine ⟨_, rfl, .inl ⟨_, 20, rfl, rfl, by decide, by decide +kernel, by decide +kernel, ?_⟩⟩
        refine ⟨Nat.le_of_ble_eq_true rfl, ?_⟩
        dsimp only
        rw [hD]
        refine lst _ (fun d md => ?_) (Nat.le_of_ble_eq_true rfl) (Nat.le_of_ble_eq_true rfl) _ _ _ _ (fun _ _ => False) ok
        simp only [List.mem_cons, List.not_mem_nil, or_false] at md
        rcases md with rfl | rfl | rfl | rfl | rfl | rfl | rfl | rfl | rfl <;> refine atomS m ?_ <;> decide +kernel
      · refine snext_eq ⟨_, rfl, Nat.le_of_ble_eq_true rfl, ?_⟩
        dsimp only
        rw [hD]
        refine lst _ (fun d md => ?_) (Nat.le_of_ble_eq_true rfl) (Nat.le_of_ble_eq_true rfl) _ _ _ _ (fun _ _ => False) ok
        simp only [List.mem_cons, List.not_mem_nil, or_false] at md
        exact atomC m md
  refine ⟨_, rfl, _, rfl, ite_b (fun _ => ⟨_, rfl, _, rfl, ite_b (fun z => ?_) (fun _ => snext_eq (rest _ rfl))⟩) (fun _ => snext_eq (rest _ rfl))⟩
  have z : (0 : Int) < (m : Nat) := of_decide_eq_true z
  obtain ⟨m, rfl⟩ : ∃ j, m = j + 1 := ⟨m - 1, by omega⟩
  obtain ⟨n, rfl⟩ : ∃ j, n = j + 1 := ⟨n - 1, by omega⟩
  refine ⟨_, rfl, cs, i, c, s, t, up_same, ok, by decide, by decide, fun r i c s t r0 r1 ok => ?_⟩
  rw [up_up]
  refine ⟨_, rfl, by omega, by omega, lc_inv (fun k acc G' => acc.length = k ∧ (∀ d ∈ acc, okW m d = true ∧ (wr m d).length ≤ 32 * 4 ^ m) ∧ ∃ i c s t, G' = up G h (hnd cs i c s t) ∧ HOk cs i c) (by rw [List.length_map, List.length_range]; show _ ≤ 16777216; omega) ?_ ?_ ⟨rfl, (fun d hd => by cases hd), i, c, s, t, rfl, ok⟩⟩
  · rintro k x acc G' p N N' ex np ⟨rfl, ha, i, c, s, t, rfl, ok⟩ hN _
    have ph : p ≠ h := ne_new up_same np
    refine ⟨trivial, _, rfl, _, rfl, m, by omega, by omega, cs, i, c, s, t, (by rw [up_ne (Ne.symm ph), up_same]), ok, fun d i c s t o1 l1 ok => ?_⟩
    rw [up_comm (Ne.symm ph), up_up]
    refine hN _ _ (by rw [up_ne ph]; rw [up_ne ph] at np; exact np) ⟨by rw [List.length_append]; rfl, fun e he => ?_, i, c, s, t, rfl, ok⟩
    rcases List.mem_append.mp he with he | he
    · exact ha e he
    · rw [List.mem_singleton] at he; subst he; exact ⟨o1, l1⟩
  · rintro acc G' p np ⟨hl, ha, i, c, s, t, rfl, ok⟩
    rw [List.length_map, List.length_range] at hl
    refine ⟨trivial, acc, rfl, dn_refl (hq _ i c s t ?_ ?_ ok)⟩
    · show acc.all (okW m) = true
      rw [List.all_eq_true]
      exact fun d hd => (ha d hd).1
    · show (40 :: (TL.joinL [44] (acc.map (wr m)) ++ [41])).length ≤ _
      have := joinL_le (32 * 4 ^ m) (acc.map (wr m)) fun p hp => by
        obtain ⟨d, hd, rfl⟩ := List.mem_map.mp hp
        exact (ha d hd).2
      rw [List.length_map] at this
      have l3 : acc.length ≤ 3 := by omega
      have h1 : acc.length * (32 * 4 ^ m + 1) ≤ 3 * (32 * 4 ^ m + 1) := Nat.mul_le_mul_right _ l3
      have p4 : 1 ≤ 4 ^ m := Nat.one_le_pow _ _ (by decide)
      have e4 : 4 ^ (m + 1) = 4 * 4 ^ m := by rw [Nat.pow_succ]; omega
      rw [List.length_cons, List.length_append, List.length_singleton, e4]
      omega
/-! #### is_word -/

def sp_is_word : Sp3 := fun ds G Q E => match ds with | [d] => kn OC d = true ∧ szD d ∧ Q (.bl (isWd d)) G | _ => False
def t_is_word : TS3 :=
    (sseq (sif (Tor (Tnot (tb3 (tisi (isT OC .str) (tv 0)))) (Tor (tb3 (t2 (in3 false) (tv 0) (ttup (acons (tc (.str (Str.ofString "yes"))) (acons (tc (.str (Str.ofString "no"))) anil))))) (Tnot (tb3 (tch le3 le3 (tc (.int 1)) (tcb bLen (acons (tv 0) anil)) (tc (.int 20))))))) (sret (tc (.bl false))) snext)
    (sret (tcb bAll (acons (tlc false (istr (tv 0)) (.n 1) Tyes (t2 (inA3 false) (tv 1) (tc (.str (Str.ofString "abcdefghijklmnopqrstuvwxyz")))) [1]) anil))))
set_option maxHeartbeats 4000000 in
theorem vc_is_word (ds : List D) (G : Gp) (Q : QK) (E : EK) (h : sp_is_word ds G Q E) : t_is_word (fnEnds Q E) (start3 N_is_word ds) G := by
  unfold sp_is_word at h
  split at h
  case h_2 => exact h.elim
  rename_i d
  obtain ⟨kd, sz, hq⟩ := h
  refine ⟨_, rfl, isi_use (P := fun b => _) kd ⟨_, rfl, ?_⟩⟩
  by_cases es : ∃ s, d = .str s
  · obtain ⟨s, rfl⟩ := es
    have ls := sz s rfl
    have el : s.length = s.cps.toList.length := by rw [Array.length_toList]; rfl
    have hq : Q (.bl (wordB s.cps.toList)) G := hq
    refine iteF ⟨_, rfl, Nat.le_of_ble_eq_true rfl, _, rfl, rfl, rfl, _, rfl, ?_⟩
    rw [word_tup]
    rw [wordB_eq] at hq
    refine ite_b (fun z => ?_) (fun z => ?_)
    · have z : (decide (s.cps.toList = yesL) || decide (s.cps.toList = noL)) = true := z
      rw [z] at hq
      exact iteT (dn_refl hq)
    · have z : (decide (s.cps.toList = yesL) || decide (s.cps.toList = noL)) = false := z
      rw [z] at hq
      have lz : s.length ≤ sizeLine := Nat.le_trans ls (Nat.le_of_ble_eq_true rfl)
      rw [← el] at hq
      refine ⟨_, rfl, lz, _, rfl, ite_b (fun z1 => ?_) (fun z1 => ?_)⟩
      · have z1 : decide (1 ≤ s.length) = true := decide_eq_true (by have := of_decide_eq_true z1; omega)
        rw [z1] at hq
        refine ⟨_, rfl, ite_b (fun z2 => ?_) (fun z2 => ?_)⟩
        · have h2 : ¬ (s.length : Int) ≤ 20 := by simpa using z2
          rw [decide_eq_false (show ¬ s.length ≤ 20 by omega)] at hq
          exact dn_refl hq
        · have h2 : (s.length : Int) ≤ 20 := by simpa using z2
          rw [decide_eq_true (show s.length ≤ 20 by omega)] at hq
          refine snext_eq ⟨_, rfl, _, rfl, sgn_bls isLt ls (fun c _ G' R hR => ⟨_, rfl, .inr ⟨c, _, rfl, rfl, ?_⟩⟩) (dn_refl hq)⟩
          exact (by rw [lts_ch]; exact hR)
      · have h1 : ¬ (1 : Int) ≤ s.length := by simpa using z1
        rw [decide_eq_false (show ¬ 1 ≤ s.length by omega)] at hq
        exact ⟨_, rfl, iteT (dn_refl hq)⟩
  · obtain ⟨e1, e2⟩ := isStr_no es
    rw [e2] at hq
    rw [e1]
    exact iteT (dn_refl hq)
/-! #### can_be_written -/

def sp_can_be_written : Nat → Sp3 := fun n ds G Q E => match n, ds with | n + 1, [d, .int i] => ∃ m : Nat, i = (m : Nat) ∧ m ≤ n ∧ kkD (m + 1) d = true ∧ Q (.bl (canW m d)) G | _, _ => False
def t_can_be_written (sp : Sp3) : TS3 :=
    (sseq (sif (tb3 (tisi (isT OC .tup) (tv 0))) (sret (tand (t2 gt3 (tv 1) (tc (.int 0))) (tcb bAll (acons (tlc false (iseq (tv 0)) (.n 2) Tyes (tcall sp (acons (tv 2) (acons (t2 sub3 (tv 1) (tc (.int 1))) anil))) [2]) anil)))) snext)
    (sret (tor (t2 (is3 false) (tv 0) (tc .non)) (tor (tisi (isT OC .int) (tv 0)) (tcall sp_is_word (acons (tv 0) anil))))))
set_option maxHeartbeats 4000000 in
theorem vc_can_be_written (n : Nat) (ds : List D) (G : Gp) (Q : QK) (E : EK) (h : sp_can_be_written (n + 1) ds G Q E) : t_can_be_written (sp_can_be_written n) (fnEnds Q E) (start3 N_can_be_written ds) G := by
  unfold sp_can_be_written at h
  split at h
  case h_2 => exact h.elim
  rename_i n' d i e
  cases e
  obtain ⟨m, rfl, lm, kd, hq⟩ := h
  have k1 := kkD_kn kd
  refine ⟨_, rfl, isi_use (P := fun b => _) k1 ⟨_, rfl, ite_b (fun z => ?_) (fun z => ?_)⟩⟩
  · obtain ⟨xs, rfl⟩ := isT_of z
    refine ⟨_, rfl, _, rfl, ite_b (fun z => ?_) (fun z => ?_)⟩
    · have z : (0 : Int) < (m : Nat) := of_decide_eq_true z
      obtain ⟨m, rfl⟩ : ∃ j, m = j + 1 := ⟨m - 1, by omega⟩
      obtain ⟨n, rfl⟩ : ∃ j, n = j + 1 := ⟨n - 1, by omega⟩
      have kd : (decide (xs.length ≤ 1000000) && xs.all (kkD (m + 1))) = true := kd
      rw [Bool.and_eq_true, decide_eq_true_eq, List.all_eq_true] at kd
      refine ⟨_, rfl, _, rfl, all_bls (canW m) kd.1 (fun _ _ => trivial) (fun x mx G' _ R hR => ?_) (dn_refl hq)⟩
      exact ⟨_, rfl, _, rfl, m, by omega, by omega, kd.2 x mx, hR⟩
    · have z : ¬ (0 : Int) < (m : Nat) := of_decide_eq_false z
      obtain rfl : m = 0 := by omega
      exact dn_refl hq
  · rw [canW_atom z] at hq
    unfold atomW at hq
    refine snext_eq ⟨_, rfl, _, rfl, ite_b (fun z1 => ?_) (fun z1 => ?_)⟩
    · have z1 : isN d = true := z1
      rw [z1] at hq
      exact dn_refl hq
    · have z1 : isN d = false := z1
      rw [z1, Bool.false_or] at hq
      refine ⟨_, rfl, isi_use (P := fun b => _) k1 ⟨_, rfl, ite_b (fun z2 => ?_) (fun z2 => ?_)⟩⟩
      · rw [z2] at hq
        exact dn_refl hq
      · rw [z2, Bool.false_or] at hq
        exact ⟨_, rfl, k1, kkD_sz kd, dn_refl hq⟩
/-! #### raw_written -/

def sp_raw_written : Nat → Sp3 := fun n ds G Q E => match n, ds with | n + 1, [d] => ∃ m : Nat, m ≤ n ∧ kn OC d = true ∧ okW m d = true ∧ (wr m d).length ≤ 1000000 ∧ Q (.str (SX.S (wr m d))) G | _, _ => False
def t_raw_written (sp : Sp3) : TS3 :=
    (sseq (sif (tb3 (t2 (is3 false) (tv 0) (tc .non))) (sret (tc (.str (Str.ofString "-")))) snext)
    (sseq (sif (tb3 (tisi (isT OC .bl) (tv 0))) (sret (tif (tb3 (tv 0)) (tc (.str (Str.ofString "yes"))) (tc (.str (Str.ofString "no"))))) snext)
    (sseq (sif (tb3 (tisi (isT OC .tup) (tv 0))) (sret (t2 (add3 false) (t2 (add3 false) (tc (.str (Str.ofString "("))) (tmeth isS mJoin (tc (.str (Str.ofString ","))) (acons (tlc false (iseq (tv 0)) (.n 1) Tyes (tcall sp (acons (tv 1) anil)) [1]) anil))) (tc (.str (Str.ofString ")"))))) snext)
    (sret (tif (tb3 (tcall sp_is_integer (acons (tv 0) anil))) (tcb bStr (acons (tv 0) anil)) (tv 0))))))
set_option maxHeartbeats 4000000 in
theorem vc_raw_written (n : Nat) (ds : List D) (G : Gp) (Q : QK) (E : EK) (h : sp_raw_written (n + 1) ds G Q E) : t_raw_written (sp_raw_written n) (fnEnds Q E) (start3 N_raw_written ds) G := by
  unfold sp_raw_written at h
  split at h
  case h_2 => exact h.elim
  rename_i n' d e
  cases e
  obtain ⟨m, lm, kd, ow, lw, hq⟩ := h
  have c0 : Str.ofString "-" = SX.S [45] := by decide +kernel
  have c1 : Str.ofString "yes" = SX.S yesL := by decide +kernel
  have c2 : Str.ofString "no" = SX.S noL := by decide +kernel
  have c3 : Str.ofString "(" = SX.S [40] := by decide +kernel
  have c4 : Str.ofString ")" = SX.S [41] := by decide +kernel
  have c5 : Str.ofString "," = SX.S [44] := by decide +kernel
  cases d with
  | non =>
    rw [wr_atom.1, ← c0] at hq
    exact ⟨_, rfl, _, rfl, iteT (dn_refl hq)⟩
  | bl b =>
    rw [wr_atom.2.1] at hq
    refine ⟨_, rfl, _, rfl, iteF (snext_eq ⟨_, rfl, isi_use (P := fun b => _) kd ⟨_, rfl, iteT ⟨_, rfl, _, rfl, ?_⟩⟩⟩)⟩
    cases b with
    | false => exact iteF (dn_refl (by rw [c2]; exact hq))
    | true => exact iteT (dn_refl (by rw [c1]; exact hq))
  | tup xs =>
    refine ⟨_, rfl, _, rfl, iteF (snext_eq ⟨_, rfl, isi_use (P := fun b => _) kd ⟨_, rfl, iteF (snext_eq ⟨_, rfl, isi_use (P := fun b => _) kd ⟨_, rfl, iteT ?_⟩⟩)⟩⟩)⟩
    cases m with
    | zero => cases ow
    | succ m =>
    obtain ⟨n, rfl⟩ : ∃ j, n = j + 1 := ⟨n - 1, by omega⟩
    have ow : xs.all (okW m) = true := ow
    rw [List.all_eq_true] at ow
    have el : (wr (m + 1) (.tup xs)).length = (TL.joinL [44] (xs.map (wr m))).length + 2 := by
      show (40 :: (_ ++ [41])).length = _
      rw [List.length_cons, List.length_append]; rfl
    rw [el] at lw
    have js := joinL_sum (xs.map (wr m))
    have jp : xs.length ≤ 2000000 := by
      rw [List.length_map] at js; omega
    refine ⟨⟨_, rfl⟩, _, rfl, _, rfl, lc_pure (fun x => some (.str (SX.S (wr m x)))) (fun x mx G' _ R hR => ?_) (fun _ _ => trivial) (by have : sizeLine = 16777216 := rfl; omega) ?_⟩
    · have lx := joinL_mem (xs.map (wr m)) _ (List.mem_map.mpr ⟨x, mx, rfl⟩)
      refine ⟨_, rfl, m, by omega, ?_, ow x mx, by omega, hR⟩
      have := ow x mx
      cases x <;> first | rfl | (cases m <;> cases this)
    · rw [fm_map]
      refine ⟨Str.ofString ",", _, xs.map fun x => SX.S (wr m x), rfl, rfl, ?_, ?_, ?_⟩
      · show some _ = some _
        rw [List.map_map]; rfl
      · rw [c5, SX.S_len, List.length_map, List.length_singleton]
        have e : (xs.map fun x => SX.S (wr m x)).map (·.length) = (xs.map (wr m)).map (·.length) := by
          rw [List.map_map, List.map_map]
          exact List.map_congr_left fun x _ => SX.S_len _
        rw [e, List.length_map] at *
        omega
      · have e : (xs.map fun x => SX.S (wr m x)) = (xs.map (wr m)).map SX.S := by rw [List.map_map]; rfl
        rw [e, c5, SX.join_S, c3, c4]
        have sz : sizeLine = 16777216 := rfl
        refine ⟨by rw [SX.S_len, SX.S_len]; show 1 + _ ≤ _; omega, ?_⟩
        rw [SX.S_cat]
        refine ⟨by rw [SX.S_len, SX.S_len, List.length_append]; show 1 + _ + 1 ≤ _; omega, dn_refl ?_⟩
        rw [SX.S_cat]
        exact hq
  | int i =>
    rw [wr_atom.2.2.1, ← numI_S] at hq
    have hl := log_ok (okW_int ow)
    refine ⟨_, rfl, _, rfl, iteF (snext_eq ⟨_, rfl, isi_use (P := fun b => _) kd ⟨_, rfl, iteF (snext_eq ⟨_, rfl, isi_use (P := fun b => _) kd ⟨_, rfl, iteF (snext_eq ?_)⟩⟩)⟩⟩)⟩
    exact ⟨_, rfl, kd, _, rfl, iteT ⟨_, rfl, hl, dn_refl hq⟩⟩
  | str s =>
    rw [wr_atom.2.2.2, SX.S_tl] at hq
    refine ⟨_, rfl, _, rfl, iteF (snext_eq ⟨_, rfl, isi_use (P := fun b => _) kd ⟨_, rfl, iteF (snext_eq ⟨_, rfl, isi_use (P := fun b => _) kd ⟨_, rfl, iteF (snext_eq ?_)⟩⟩)⟩⟩)⟩
    exact ⟨_, rfl, kd, _, rfl, iteF ⟨_, rfl, dn_refl hq⟩⟩
  | _ => cases m <;> cases ow
/-! #### written -/

def sp_written : Sp3 := fun ds G Q E => match ds with | [d] => kkD 21 d = true ∧ (canW 20 d = false → E ⟨Str.ofString "NoThing", none⟩ G) ∧ (canW 20 d = true → okW 20 d = true ∧ (wr 20 d).length ≤ 1000000 ∧ Q (.str (SX.S (wr 20 d))) G) | _ => False
def t_written : TS3 :=
    (sseq (sif (Tnot (tb3 (tcall (sp_can_be_written 24) (acons (tv 0) (acons (tc (.int 20)) anil))))) (sraise (Str.ofString "NoThing")) snext)
    (sret (tcall (sp_raw_written 24) (acons (tv 0) anil))))
set_option maxHeartbeats 4000000 in
theorem vc_written (ds : List D) (G : Gp) (Q : QK) (E : EK) (h : sp_written ds G Q E) : t_written (fnEnds Q E) (start3 N_written ds) G := by
  unfold sp_written at h
  split at h
  case h_2 => exact h.elim
  rename_i d
  obtain ⟨kd, h1, h2⟩ := h
  refine ⟨_, rfl, 20, rfl, by decide, kd, _, rfl, ?_⟩
  cases e : canW 20 d with
  | false => exact iteT ⟨_, fun _ _ e => e, h1 e⟩
  | true =>
    obtain ⟨h3, h4, h5⟩ := h2 e
    exact iteF (snext_eq ⟨_, rfl, 20, by decide, kkD_kn kd, h3, h4, dn_refl h5⟩)
/-! #### _law_given -/

def sp__law_given : Sp3 := fun ds G Q E => match ds with | [d] => kkD 21 d = true ∧ (canW 20 d = false → Q (.str (Str.ofString "(NoThing)")) G) ∧ (canW 20 d = true → okW 20 d = true ∧ (wr 20 d).length ≤ 1000000 ∧ Q (.str (SX.S (wr 20 d))) G) | _ => False
def t__law_given : TS3 :=
    (sseq (sset 1 (tc (.str (Str.ofString "(other)"))))
    (sseq (stry (exmOf EXM) (sset 1 (tcall sp_written (acons (tv 0) anil))) [⟨(Str.ofString "NoThing"), some 2, fun _ => (sset 1 (tif (Tand (tb3 (tiseF EXI false (Str.ofString "ForestError") (tv 2))) (tb3 (tiseF EXI true (Str.ofString "ValueError") (tv 2)))) (tc (.str (Str.ofString "(NoThing)"))) (tv 1)))⟩])
    (sret (tv 1))))
set_option maxHeartbeats 4000000 in
theorem vc__law_given (ds : List D) (G : Gp) (Q : QK) (E : EK) (h : sp__law_given ds G Q E) : t__law_given (fnEnds Q E) (start3 N__law_given ds) G := by
  unfold sp__law_given at h
  split at h
  case h_2 => exact h.elim
  rename_i d
  obtain ⟨kd, h1, h2⟩ := h
  refine ⟨_, rfl, kd, fun e => ?_, fun e => ?_⟩
  · refine ⟨true, by decide +kernel, iteT fun gx sx => ?_⟩
    exact ⟨_, rfl, _, true, .inl rfl, by decide +kernel, _, rfl, iteT ⟨_, rfl, _, true, .inl rfl, by decide +kernel, _, rfl, iteT ⟨gx, SX3 (sx_0 sx) rfl, _, rfl, dn_refl (h1 e)⟩⟩⟩
  · obtain ⟨h3, h4, h5⟩ := h2 e
    exact ⟨h3, h4, _, rfl, dn_refl h5⟩
/-! #### _law_hand -/

def sp__law_hand : Sp3 := fun ds G Q E => match ds with
  | [.sl xs] => (∀ x ∈ xs, ∃ n : Int, x = .int n) ∧ xs.length ≤ 63 ∧ ∀ p cs i c s t, G p = none → HOk cs i c → Q (.ref p) (up G p (hnd cs i c s t))
  | _ => False
def t__law_hand : TS3 :=
    (sseq (sset 1 (tlc false (iseq (tsl false (tv 0) onone (osome (tc (.int 63))))) (.n 2) Tyes (tcb bAbs (acons (tcb bInt (acons (tv 2) anil)) anil)) [2]))
    (sret (tlst true (acons (tv 1) (acons (tc (.int 0)) (acons (tc (.int 0)) (acons (t2 (add3 false) (tc (.int 1)) (tcb bLen (acons (tv 1) anil))) (acons (tc (.int 0)) anil))))))))
set_option maxHeartbeats 4000000 in
theorem vc__law_hand (ds : List D) (G : Gp) (Q : QK) (E : EK) (h : sp__law_hand ds G Q E) : t__law_hand (fnEnds Q E) (start3 N__law_hand ds) G := by
  unfold sp__law_hand at h
  split at h
  case h_2 => exact h.elim
  rename_i xs
  obtain ⟨hx, hl, hq⟩ := h
  have hc : ∀ x ∈ L3.cutD xs none (some 63), x ∈ xs := fun x hx => by
    unfold L3.cutD at hx
    exact List.mem_of_mem_drop (List.mem_of_mem_take hx)
  have hcl : (L3.cutD xs none (some 63)).length ≤ 63 := by
    unfold L3.cutD
    rw [List.length_take, List.length_drop]; omega
  refine ⟨_, rfl, _, rfl, _, rfl, _, rfl, lc_pure (fun x => match x with | .int n => some (.int (if n < 0 then -n else n)) | _ => none) (fun x mx G' _ R hR => ?_) (fun _ _ => trivial) (by show _ ≤ 16777216; omega) ?_⟩
  · obtain ⟨n, rfl⟩ := hx x (hc x mx)
    exact ⟨_, rfl, hR⟩
  · generalize hcs : (L3.cutD xs none (some 63)).filterMap _ = cs
    refine ⟨_, rfl, _, rfl, cs, rfl, by show (5 : Nat) ≤ 16777216; decide, fun p n => dn_refl (hq p cs 0 0 _ 0 n ⟨fun x mx => ?_, by decide, by decide⟩)⟩
    rw [← hcs] at mx
    obtain ⟨y, my, ey⟩ := List.mem_filterMap.mp mx
    obtain ⟨n, rfl⟩ := hx y (hc y my)
    injection ey with ey
    exact ⟨_, ey.symm⟩
/-! #### _law_is -/

def sp__law_is : Nat → Sp3 := fun n ds G Q E => match n, ds with | n + 1, [x, y] => x = y ∧ plx (n + 1) x = true ∧ Q (.bl true) G | _, _ => False
def t__law_is (sp : Sp3) : TS3 :=
    (sseq (sif (tb3 (tisi (isA OC [.tup, .lst]) (tv 1))) (sseq (sif (Tor (tb3 (t2 ne3 (tisi (isT OC .tup) (tv 0)) (tisi (isT OC .tup) (tv 1)))) (tb3 (t2 ne3 (tisi (isT OC .lst) (tv 0)) (tisi (isT OC .lst) (tv 1))))) (sret (tc (.bl false))) snext)
    (sret (tand (t2 eq3 (tcb bLen (acons (tv 0) anil)) (tcb bLen (acons (tv 1) anil))) (tcb bAll (acons (tlc false (irng1 (acons (tcb bLen (acons (tv 1) anil)) anil)) (.n 2) Tyes (tcall sp (acons (t2 ix3 (tv 0) (tv 2)) (acons (t2 ix3 (tv 1) (tv 2)) anil))) [2]) anil))))) snext)
    (sseq (sif (tb3 (tisi (isT OC .dic) (tv 1))) (sret (tand (tisi (isT OC .dic) (tv 0)) (tand (t2 eq3 (tv 0) (tv 1)) (tcb bAll (acons (tlc false (iseq (tv 1)) (.n 3) Tyes (tcall sp (acons (t2 ix3 (tv 0) (tv 3)) (acons (t2 ix3 (tv 1) (tv 3)) anil))) [3]) anil))))) snext)
    (sret (tand (t2 eq3 (tisi (isT OC .bl) (tv 0)) (tisi (isT OC .bl) (tv 1))) (t2 eq3 (tv 0) (tv 1))))))
set_option maxHeartbeats 4000000 in
theorem vc__law_is (n : Nat) (ds : List D) (G : Gp) (Q : QK) (E : EK) (h : sp__law_is (n + 1) ds G Q E) : t__law_is (sp__law_is n) (fnEnds Q E) (start3 N__law_is ds) G := by
  unfold sp__law_is at h
  split at h
  case h_2 => exact h.elim
  rename_i n' x y e
  cases e
  obtain ⟨rfl, hp, hq⟩ := h
  have sc : ∀ t, tyD G x = some (.b t) → isA OC [.tup, .lst] (.b t) = some false → isT OC .dic (.b t) = some false → scD x x = true → eqD x x = true → (∃ b, isT OC .bl (.b t) = some b) → t__law_is (sp__law_is n) (fnEnds Q E) (start3 N__law_is [x, x]) G := fun t e1 e2 e6 e3 e4 ⟨b, e5⟩ => by
    refine ⟨_, rfl, _, _, e1, e2, _, rfl, iteF ?_⟩
    refine ⟨_, rfl, _, _, e1, e6, _, rfl, iteF ?_⟩
    refine ⟨_, rfl, _, _, e1, e5, _, rfl, _, _, e1, e5, (by unfold eqOk scD; cases b <;> rfl), _, rfl, iteT' (by cases b <;> rfl) ?_⟩
    refine ⟨_, rfl, _, rfl, (by unfold eqOk; rw [e3]; rfl), dn_refl ?_⟩
    rw [e4]; exact hq
  cases x with
  | tup xs =>
    have hp : (decide (xs.length ≤ 1000000) && xs.all (plx n)) = true := hp
    rw [Bool.and_eq_true, decide_eq_true_eq, List.all_eq_true] at hp
    obtain ⟨l, hp⟩ := hp
    refine ⟨_, rfl, _, _, rfl, rfl, _, rfl, iteT ?_⟩
    refine ⟨_, rfl, _, _, rfl, rfl, _, rfl, _, _, rfl, rfl, rfl, _, rfl, iteF ⟨_, rfl, _, _, rfl, rfl, _, rfl, _, _, rfl, rfl, rfl, _, rfl, iteF ?_⟩⟩
    refine ⟨_, rfl, _, rfl, _, rfl, _, rfl, (by unfold eqOk scD; rfl), _, rfl, iteT' (by simp [eqD]) ?_⟩
    refine ⟨_, rfl, _, rfl, _, rfl, (by omega), (by omega), lc_pure (fun _ => some (.bl true)) (fun y my G' _ R hR => ?_) (fun _ _ => trivial) (by rw [List.length_map, List.length_range]; show _ ≤ 16777216; omega) ?_⟩
    · obtain ⟨k, mk, rfl⟩ := List.mem_map.mp my
      have hk : k < xs.length := by have := List.mem_range.mp mk; omega
      have ek : atI xs (k : Int) = some xs[k] := at_get (by omega) (by simp [hk])
      have mk' : xs[k] ∈ xs := List.getElem_mem hk
      cases n with
      | zero => exact absurd (hp _ mk') (by simp [plx])
      | succ n => exact ⟨_, rfl, _, rfl, _, _, rfl, ek, _, rfl, _, rfl, _, _, rfl, ek, rfl, hp _ mk', hR⟩
    · refine ⟨_, _, rfl, bls_tr _, dn_refl ?_⟩
      rw [show ∀ l : List D, (l.map fun _ => true).all id = true from fun l => by simp]
      exact hq
  | non => exact sc _ rfl rfl rfl rfl rfl ⟨_, rfl⟩
  | bl b => exact sc _ rfl rfl rfl rfl (by cases b <;> rfl) ⟨_, rfl⟩
  | str i => exact sc _ rfl rfl rfl rfl (by simp [eqD]) ⟨_, rfl⟩
  | int i => exact sc _ rfl rfl rfl rfl (by simp [eqD]) ⟨_, rfl⟩
  | _ => cases hp
/-! #### _law_nested -/

def sp__law_nested : Sp3 := fun ds G Q E => match ds with | [.ref h, .int 22] => ∃ cs i c s t, G h = some (hnd cs i c s t) ∧ HOk cs i c ∧ ∀ d i' c' s' t', Drw d → HOk cs i' c' → Q d (up G h (hnd cs i' c' s' t')) | _ => False
def t__law_nested : TS3 :=
    (sseq (sset 2 (tcall sp__law_some (acons (tv 0) (acons (tlst false (acons (ttup anil) (acons (ttup anil) (acons (tc (.int 5)) (acons (tc (.str (Str.ofString "a"))) (acons (tc .non) anil)))))) anil))))
    (sseq (sfor (irng1 (acons (t2 sub3 (t2 sub3 (tv 1) (tc (.int 1))) (tcall sp__law_draw (acons (tv 0) (acons (tc (.int 3)) anil)))) anil)) (.n 3) (sset 2 (tcall sp__law_some (acons (tv 0) (acons (tlst false (acons (ttup (acons (tv 2) anil)) (acons (ttup (acons (tv 2) (acons (tc (.int 1)) anil))) (acons (ttup (acons (tc .non) (acons (tv 2) anil))) anil)))) anil)))))
    (sret (tv 2))))
set_option maxHeartbeats 4000000 in
theorem vc__law_nested (ds : List D) (G : Gp) (Q : QK) (E : EK) (h : sp__law_nested ds G Q E) : t__law_nested (fnEnds Q E) (start3 N__law_nested ds) G := by
  unfold sp__law_nested at h
  split at h
  case h_2 => exact h.elim
  rename_i h
  obtain ⟨cs, i, c, s, t, hG, ok, hq⟩ := h
  refine ⟨_, rfl, Nat.le_of_ble_eq_true rfl, Nat.le_of_ble_eq_true rfl, Nat.le_of_ble_eq_true rfl, cs, i, c, s, t, _, hG, ok, rfl, (by intro z; cases z), Nat.le_of_ble_eq_true rfl, Nat.le_of_ble_eq_true rfl, fun d i c s t md ok => ?_⟩
  have h1 : okW 1 d = true ∧ (wr 1 d).length ≤ 4 := by
    simp only [List.mem_cons, List.not_mem_nil, or_false] at md
    rcases md with rfl | rfl | rfl | rfl | rfl <;> exact ⟨by decide +kernel, by decide +kernel⟩
  clear md
  dsimp only
  refine ⟨_, rfl, _, rfl, cs, i, c, s, t, up_same, ok, by decide, by decide, fun r i c s t r0 r1 ok => ?_⟩
  rw [up_up]
  refine ⟨_, rfl, by omega, by omega, forL_inv (fun j σ G' => ∃ d y i c s t, okW (j + 1) d = true ∧ (wr (j + 1) d).length ≤ 4 + 6 * j ∧ HOk cs i c ∧ G' = up G h (hnd cs i c s t) ∧ σ = [some (.ref h), some (.int 22), some d, y]) ?_ ?_ ⟨d, none, i, c, s, t, h1.1, h1.2, ok, rfl, rfl⟩⟩
  · rintro j x σ G' N ex ⟨d, y, i, c, s, t, o1, l1, ok, rfl, rfl⟩ hN
    refine ⟨trivial, _, rfl, _, rfl, Nat.le_of_ble_eq_true rfl, _, rfl, Nat.le_of_ble_eq_true rfl, _, rfl, Nat.le_of_ble_eq_true rfl, Nat.le_of_ble_eq_true rfl, cs, i, c, s, t, _, up_same, ok, rfl, (by intro z; cases z), Nat.le_of_ble_eq_true rfl, Nat.le_of_ble_eq_true rfl, fun d2 i c s t md ok => ?_⟩
    rw [up_up]
    have h2 : okW (j + 2) d2 = true ∧ (wr (j + 2) d2).length ≤ 4 + 6 * (j + 1) := by
      simp only [List.mem_cons, List.not_mem_nil, or_false] at md
      rcases md with rfl | rfl | rfl
      · refine ⟨by show (okW (j + 1) d && true) = true; rw [o1]; rfl, ?_⟩
        show (40 :: (wr (j + 1) d ++ [41])).length ≤ _
        simp only [List.length_cons, List.length_append, List.length_nil]; omega
      · refine ⟨by show (okW (j + 1) d && (true && true)) = true; rw [o1]; rfl, ?_⟩
        show (40 :: ((wr (j + 1) d ++ ([44] ++ [49])) ++ [41])).length ≤ _
        simp only [List.length_cons, List.length_append, List.length_nil]; omega
      · refine ⟨by show (true && (okW (j + 1) d && true)) = true; rw [o1]; rfl, ?_⟩
        show (40 :: (([45] ++ ([44] ++ wr (j + 1) d)) ++ [41])).length ≤ _
        simp only [List.length_cons, List.length_append, List.length_nil]; omega
    exact hN _ _ ⟨d2, _, i, c, s, t, h2.1, h2.2, ok, rfl, rfl⟩
  · rintro σ G' ⟨d, y, i, c, s, t, o1, l1, ok, rfl, rfl⟩
    have hl : ((List.range ((22 : Int) - 1 - r).toNat).map fun (i : Nat) => D.int i).length ≤ 21 := by
      rw [List.length_map, List.length_range]; omega
    exact ⟨trivial, _, rfl, dn_refl (hq d i c s t (Drw.of o1 (by omega)) ok)⟩
/-! #### _law_item -/

def sp__law_item : Sp3 := fun ds G Q E => match ds with | [.str t] => ∃ w, t = SX.S w ∧ w.length ≤ 1000000 ∧ itmOk w ∧ Q (itD w) G | _ => False
def t__law_item : TS3 :=
    (sseq (sif (tb3 (t2 (in3 false) (tv 0) (ttup (acons (tc (.str (Str.ofString "-"))) (acons (tc (.str (Str.ofString "yes"))) (acons (tc (.str (Str.ofString "no"))) anil)))))) (sret (tcdixC [((Str.ofString "-"), .non), ((Str.ofString "yes"), .bl true), ((Str.ofString "no"), .bl false)] (tv 0))) snext)
    (sret (tif (tb3 (t2 (inA3 false) (t2 ix3 (tv 0) (tc (.int 0))) (tc (.str (Str.ofString "-0123456789"))))) (tcb bIntS (acons (tv 0) anil)) (tv 0))))
set_option maxHeartbeats 4000000 in
theorem vc__law_item (ds : List D) (G : Gp) (Q : QK) (E : EK) (h : sp__law_item ds G Q E) : t__law_item (fnEnds Q E) (start3 N__law_item ds) G := by
  unfold sp__law_item at h
  split at h
  case h_2 => exact h.elim
  obtain ⟨w, rfl, lw, ok, hq⟩ := h
  have k0 : Str.ofString "-" = SX.S [45] := by decide +kernel
  have k1 : Str.ofString "yes" = SX.S yesL := by decide +kernel
  have k2 : Str.ofString "no" = SX.S noL := by decide +kernel
  refine ⟨_, rfl, Nat.le_of_ble_eq_true rfl, _, rfl, rfl, rfl, _, rfl, ?_⟩
  show if inD _ _ = true then _ else _
  rw [item_tup]
  unfold itD at hq
  by_cases h1 : w = [45]
  · subst h1
    exact iteT ⟨_, rfl, _, .non, rfl, by rw [← k0]; decide +kernel, rfl, dn_refl hq⟩
  · rw [if_neg h1] at hq
    by_cases h2 : w = yesL
    · subst h2
      exact iteT ⟨_, rfl, _, .bl true, rfl, by rw [← k1]; decide +kernel, rfl, dn_refl hq⟩
    · rw [if_neg h2] at hq
      by_cases h3 : w = noL
      · subst h3
        exact iteT ⟨_, rfl, _, .bl false, rfl, by rw [← k2]; decide +kernel, rfl, dn_refl hq⟩
      · rw [if_neg h3] at hq
        rw [decide_eq_false h1, decide_eq_false h2, decide_eq_false h3]
        cases w with
        | nil => rcases ok with h | ⟨_, h⟩ | ⟨_, h, _⟩ | ⟨v, h, _⟩ <;> first | cases h | exact absurd rfl h
        | cons c r =>
        have sl : (SX.S (c :: r)).length ≤ sizeLine := by rw [SX.S_len]; have : sizeLine = 16777216 := rfl; omega
        refine iteF (snext_eq ⟨_, rfl, sl, c, (by have := atI_nat (l := c :: r) (a := 0) rfl; exact this), .inr ⟨c, _, rfl, rfl, _, rfl, ?_⟩⟩)
        show if decide (c ∈ (Str.ofString "-0123456789").cps.toList) = true then _ else _
        rw [mfg_ch]
        have hq : Q (if (decide (c = 45) || isFg c) = true then .int (ival (c :: r)) else .str (SX.S (c :: r))) G := hq
        cases hc : (decide (c = 45) || isFg c) with
        | true =>
          rw [hc, if_pos rfl] at hq
          obtain ⟨i1, i2⟩ := ival_int ok c r rfl hc h1
          exact iteT ⟨_, rfl, _, _, rfl, i1, i2, dn_refl hq⟩
        | false =>
          rw [hc, if_neg (by decide)] at hq
          exact iteF ⟨_, rfl, dn_refl hq⟩
/-! #### _law_token -/

def sp__law_token : Sp3 := fun ds G Q E => match ds with | [.str t, .int i] => ∃ l, ∃ a : Nat, ∃ c r, t = SX.S l ∧ i = (a : Nat) ∧ okL l ∧ l.drop a = c :: r ∧ Q (.int (tkn (c :: r) : Nat)) G | _ => False
def t__law_token : TS3 :=
    (sseq (sunp [5, 6] (ttup (acons (tc (.str (Str.ofString "0123456789"))) (acons (tc (.str (Str.ofString "abcdefghijklmnopqrstuvwxyz"))) anil))))
    (sseq (sif (tb3 (t2 (inA3 false) (t2 ix3 (tv 0) (tv 1)) (tv 6))) (sseq (sset 3 (tc (.int 0)))
    (sseq (sfor (istr (tsl false (tv 0) (osome (tv 1)) (osome (t2 (add3 false) (tv 1) (tc (.int 20)))))) (.n 4) (sset 3 (tif (Tand (tb3 (t2 (inA3 false) (tv 4) (tv 6))) (tb3 (t2 ge3 (tv 3) (tc (.int 0))))) (t2 (add3 false) (tv 3) (tc (.int 1))) (tneg (tcb bAbs (acons (tv 3) anil))))))
    (sret (tcb bAbs (acons (tv 3) anil))))) snext)
    (sseq (sif (tb3 (t2 eq3 (t2 ix3 (tv 0) (tv 1)) (tc (.str (Str.ofString "0"))))) (sret (tc (.int 1))) snext)
    (sseq (sset 2 (tcb bInt (acons (t2 eq3 (t2 ix3 (tv 0) (tv 1)) (tc (.str (Str.ofString "-")))) anil)))
    (sseq (sif (tb3 (t2 (in3 true) (tsl false (tv 0) (osome (t2 (add3 false) (tv 1) (tv 2))) (osome (t2 (add3 false) (t2 (add3 false) (tv 1) (tv 2)) (tc (.int 1))))) (tcb bTup (acons (tcb (bListS false) (acons (tsl false (tv 5) (osome (tc (.int 1))) onone) anil)) anil)))) (sret (tv 2)) snext)
    (sseq (sset 3 (tc (.int 0)))
    (sseq (sfor (istr (tsl false (tv 0) (osome (t2 (add3 false) (tv 1) (tv 2))) (osome (t2 (add3 false) (t2 (add3 false) (tv 1) (tv 2)) (tc (.int 20)))))) (.n 4) (sset 3 (tif (Tand (tb3 (t2 (inA3 false) (tv 4) (tv 5))) (tb3 (t2 ge3 (tv 3) (tc (.int 0))))) (t2 (add3 false) (tv 3) (tc (.int 1))) (tneg (tcb bAbs (acons (tv 3) anil))))))
    (sret (t2 (add3 false) (tv 2) (tcb bAbs (acons (tv 3) anil)))))))))))
set_option maxHeartbeats 4000000 in
theorem vc__law_token (ds : List D) (G : Gp) (Q : QK) (E : EK) (h : sp__law_token ds G Q E) : t__law_token (fnEnds Q E) (start3 N__law_token ds) G := by
  unfold sp__law_token at h
  split at h
  case h_2 => exact h.elim
  obtain ⟨l, a, c, r, rfl, rfl, ok, e, hq⟩ := h
  have kf : inS (Str.ofString "0123456789") = isFg := inFG
  have kl : inS (Str.ofString "abcdefghijklmnopqrstuvwxyz") = isLt := inLT
  have d := drop_cons e
  have ea : atI (SX.S l).cps.toList (a : Int) = some c := atI_nat d.2.2
  have sl := ok.sl
  have k0 : Str.ofString "0" = SX.S [48] := by decide +kernel
  have k1 : Str.ofString "-" = SX.S [45] := by decide +kernel
  refine ⟨Nat.le_of_ble_eq_true rfl, _, rfl, rfl, ?_⟩
  dsimp only
  refine ⟨_, rfl, _, rfl, sl, c, ea, _, rfl, .inr ⟨c, _, rfl, rfl, _, rfl, ?_⟩⟩
  have il : decide (c ∈ (Str.ofString "abcdefghijklmnopqrstuvwxyz").cps.toList) = isLt c := congrFun kl c
  show if decide (c ∈ (Str.ofString "abcdefghijklmnopqrstuvwxyz").cps.toList) = true then _ else _
  rw [il]
  rw [tkn_c] at hq
  cases hl : isLt c with
  | true =>
    rw [hl, if_pos rfl] at hq
    refine iteT ?_
    refine ⟨_, rfl, _, rfl, _, rfl, _, rfl, _, rfl, sl, _, rfl, ?_⟩
    rw [show ((a : Nat) : Int) + 20 = ((a + 20 : Nat) : Int) by omega, cut_S, e, show a + 20 - a = 19 + 1 by omega]
    generalize hw : (c :: r).take (19 + 1) = w
    refine forL_inv (fun j σ G' => G' = G ∧ ∃ y, σ = [some (.str (SX.S l)), some (.int (a : Nat)), none, some (.int ((w.take j).foldl (stepF isLt) 0)), y, some (.str (Str.ofString "0123456789")), some (.str (Str.ofString "abcdefghijklmnopqrstuvwxyz"))]) ?_ ?_ ⟨rfl, none, rfl⟩
    · rintro j x σ G' N ex ⟨rfl, y, rfl⟩ hN
      obtain ⟨q, hj, rfl⟩ := sgn_at ex
      have iq : decide (q ∈ (Str.ofString "abcdefghijklmnopqrstuvwxyz").cps.toList) = isLt q := congrFun kl q
      refine ⟨trivial, _, rfl, _, rfl, .inr ⟨q, _, rfl, rfl, _, rfl, ?_⟩⟩
      have ft := fold_take (p := isLt) hj
      show if decide (q ∈ (Str.ofString "abcdefghijklmnopqrstuvwxyz").cps.toList) = true then _ else _
      rw [iq]
      refine ite_b (fun z1 => ⟨_, rfl, _, rfl, ite_b (fun z2 => ?_) (fun z2 => ?_)⟩) (fun z1 => ?_)
      · have z2 : (0 : Int) ≤ (w.take j).foldl (stepF isLt) 0 := of_decide_eq_true z2
        unfold stepF at ft
        rw [if_pos ⟨z1, z2⟩] at ft
        exact ⟨_, rfl, hN _ _ ⟨rfl, _, by rw [show (w.take (j + 1)).foldl (stepF isLt) 0 = _ from ft]; rfl⟩⟩
      · have z2 : ¬ (0 : Int) ≤ (w.take j).foldl (stepF isLt) 0 := of_decide_eq_false z2
        unfold stepF at ft
        rw [if_neg (fun z => z2 z.2)] at ft
        exact ⟨_, rfl, _, rfl, hN _ _ ⟨rfl, _, by rw [show (w.take (j + 1)).foldl (stepF isLt) 0 = _ from ft]; rfl⟩⟩
      · unfold stepF at ft
        rw [if_neg (by rw [z1]; simp)] at ft
        exact ⟨_, rfl, _, rfl, hN _ _ ⟨rfl, _, by rw [show (w.take (j + 1)).foldl (stepF isLt) 0 = _ from ft]; rfl⟩⟩
    · rintro σ G' ⟨rfl, y, rfl⟩
      have lw : (sgn (SX.S w)).length = w.length := by rw [sgn_len]; rfl
      rw [lw, List.take_length]
      refine ⟨trivial, _, rfl, dn_refl ?_⟩
      rw [absI, ← hw, fold_tk hl]
      exact hq
  | false =>
    rw [hl, if_neg (by decide)] at hq
    refine iteF (snext_eq ⟨_, rfl, _, rfl, sl, c, ea, eqOk_S _ _, _, rfl, ?_⟩)
    rw [show (⟨#[c]⟩ : Str) = SX.S [c] from rfl, eqD_S "0" [48] [c] k0]
    by_cases h48 : c = 48
    · subst h48
      rw [if_pos rfl] at hq
      exact iteT (dn_refl hq)
    · rw [decide_eq_false (show ¬ [c] = [48] by simpa using h48)]
      rw [if_neg h48] at hq
      refine iteF (snext_eq ⟨_, rfl, _, rfl, sl, c, ea, eqOk_S _ _, ?_⟩)
      rw [show (⟨#[c]⟩ : Str) = SX.S [c] from rfl, eqD_S "-" [45] [c] k1]
      have em : (if decide ([c] = [45]) = true then (1 : Int) else 0) = ((if c = 45 then 1 else 0 : Nat) : Int) := by
        by_cases h : c = 45
        · subst h; rfl
        · rw [decide_eq_false (show ¬ [c] = [45] by simpa using h), if_neg h]; rfl
      dsimp only [anil, bInt]
      rw [em]
      generalize hm : (if c = 45 then 1 else 0 : Nat) = m at hq
      have dm : l.drop (a + m) = (c :: r).drop m := by rw [← e, List.drop_drop]
      refine ⟨_, rfl, _, rfl, _, rfl, _, rfl, _, rfl, _, rfl, _, rfl, sl, _, rfl, _, rfl, Nat.le_of_ble_eq_true rfl, _, rfl, Nat.le_of_ble_eq_true rfl, _, rfl, _, rfl, rfl, rfl, _, rfl, ?_⟩
      have en : inD (.str (cutS (SX.S l) (some ((a : Int) + (m : Int))) (some ((a : Int) + (m : Int) + 1)))) fgL1 = hdP fg1 ((c :: r).drop m) := by
        rw [← dm, ← nin_fg l (a + m)]
        unfold nx
        rw [show ((a + m : Nat) : Int) = (a : Int) + (m : Int) by omega]
      show if (!inD (.str (cutS (SX.S l) (some ((a : Int) + (m : Int))) (some ((a : Int) + (m : Int) + 1)))) fgL1) = true then _ else _
      rw [en]
      cases hh : hdP fg1 ((c :: r).drop m) with
      | false =>
        rw [hh, if_neg (by decide)] at hq
        exact iteT ⟨_, rfl, dn_refl hq⟩
      | true =>
        rw [hh, if_pos rfl] at hq
        refine iteF (snext_eq ?_)
        refine ⟨_, rfl, _, rfl, _, rfl, _, rfl, _, rfl, _, rfl, _, rfl, sl, _, rfl, ?_⟩
        rw [show ((a : Nat) : Int) + (m : Int) = ((a + m : Nat) : Int) by omega, show ((a + m : Nat) : Int) + 20 = ((a + m + 20 : Nat) : Int) by omega, cut_S, dm, show a + m + 20 - (a + m) = 19 + 1 by omega]
        cases ew : (c :: r).drop m with
        | nil => rw [ew] at hh; cases hh
        | cons c2 r2 =>
        rw [ew] at hh hq
        have hf : isFg c2 = true := by
          have hh : fg1 c2 = true := hh
          unfold fg1 at hh
          simp only [Bool.and_eq_true, decide_eq_true_eq] at hh
          exact isFg_ok.mpr (by omega)
        generalize hw : (c2 :: r2).take (19 + 1) = w
        refine forL_inv (fun j σ G' => G' = G ∧ ∃ y, σ = [some (.str (SX.S l)), some (.int (a : Nat)), some (.int (m : Nat)), some (.int ((w.take j).foldl (stepF isFg) 0)), y, some (.str (Str.ofString "0123456789")), some (.str (Str.ofString "abcdefghijklmnopqrstuvwxyz"))]) ?_ ?_ ⟨rfl, none, rfl⟩
        · rintro j x σ G' N ex ⟨rfl, y, rfl⟩ hN
          obtain ⟨q, hj, rfl⟩ := sgn_at ex
          have iq : decide (q ∈ (Str.ofString "0123456789").cps.toList) = isFg q := congrFun kf q
          refine ⟨trivial, _, rfl, _, rfl, .inr ⟨q, _, rfl, rfl, _, rfl, ?_⟩⟩
          have ft := fold_take (p := isFg) hj
          show if decide (q ∈ (Str.ofString "0123456789").cps.toList) = true then _ else _
          rw [iq]
          refine ite_b (fun z1 => ⟨_, rfl, _, rfl, ite_b (fun z2 => ?_) (fun z2 => ?_)⟩) (fun z1 => ?_)
          · have z2 : (0 : Int) ≤ (w.take j).foldl (stepF isFg) 0 := of_decide_eq_true z2
            unfold stepF at ft
            rw [if_pos ⟨z1, z2⟩] at ft
            exact ⟨_, rfl, hN _ _ ⟨rfl, _, by rw [show (w.take (j + 1)).foldl (stepF isFg) 0 = _ from ft]; rfl⟩⟩
          · have z2 : ¬ (0 : Int) ≤ (w.take j).foldl (stepF isFg) 0 := of_decide_eq_false z2
            unfold stepF at ft
            rw [if_neg (fun z => z2 z.2)] at ft
            exact ⟨_, rfl, _, rfl, hN _ _ ⟨rfl, _, by rw [show (w.take (j + 1)).foldl (stepF isFg) 0 = _ from ft]; rfl⟩⟩
          · unfold stepF at ft
            rw [if_neg (by rw [z1]; simp)] at ft
            exact ⟨_, rfl, _, rfl, hN _ _ ⟨rfl, _, by rw [show (w.take (j + 1)).foldl (stepF isFg) 0 = _ from ft]; rfl⟩⟩
        · rintro σ G' ⟨rfl, y, rfl⟩
          have lw : (sgn (SX.S w)).length = w.length := by rw [sgn_len]; rfl
          rw [lw, List.take_length]
          refine ⟨trivial, _, rfl, _, rfl, dn_refl ?_⟩
          rw [absI, ← hw, fold_tk hf, ← Int.natCast_add]
          exact hq
/-! #### _law_read -/

def sp__law_read : Sp3 := fun ds G Q E => match ds with | [.str t] => ∃ l, t = SX.S l ∧ okL l ∧ ∀ G', (∀ b o, G b = some o → G' b = some o) → Q (rtD (finT l.length (rdT 20 l))) G' | _ => False
def t__law_read : TS3 :=
    (sseq (sif (Tnot (tb3 (tisi (isT OC .str) (tv 0)))) (sret (ttup (acons (tc (.str (Str.ofString "bad"))) (acons (tneg (tc (.int 1))) anil)))) snext)
    (sseq (spar3 2 3 4 (acons (tc (.int 0)) (acons (tlst true (acons (tlst true anil) anil)) (acons (tc (.str (Str.ofString "item"))) anil))))
    (sseq (sfor (irng1 (acons (tcb bLen (acons (tv 0) anil)) anil)) (.n 1) (sif (tb3 (t2 lt3 (tv 2) (tcb bLen (acons (tv 0) anil)))) (sseq (spar 5 6 (acons (t2 ix3 (tv 0) (tv 2)) (acons (t2 gt3 (tcb bLen (acons (tv 3) anil)) (tc (.int 1))) anil)))
    (sif (Tand (tb3 (t2 eq3 (tv 5) (tc (.str (Str.ofString ")"))))) (Tand (tb3 (tv 6)) (tb3 (t2 ne3 (tv 4) (tc (.str (Str.ofString "item"))))))) (sseq (sset 7 (tcb bTup (acons (tmeth0 isL mPop (tv 3)) anil)))
    (sseq (sdrop (tmeth isL mAppend (t2 ix3 (tv 3) (tneg (tc (.int 1)))) (acons (tv 7) anil)))
    (spar 2 4 (acons (t2 (add3 false) (tv 2) (tc (.int 1))) (acons (tc (.str (Str.ofString "done"))) anil))))) (sif (Tand (tb3 (t2 eq3 (tv 5) (tc (.str (Str.ofString ","))))) (Tand (tb3 (tv 6)) (tb3 (t2 eq3 (tv 4) (tc (.str (Str.ofString "done"))))))) (spar 2 4 (acons (t2 (add3 false) (tv 2) (tc (.int 1))) (acons (tc (.str (Str.ofString "item"))) anil))) (sif (Tand (tb3 (t2 eq3 (tv 5) (tc (.str (Str.ofString "("))))) (Tand (tb3 (t2 ne3 (tv 4) (tc (.str (Str.ofString "done"))))) (tb3 (t2 le3 (tcb bLen (acons (tv 3) anil)) (tc (.int 20)))))) (sseq (sdrop (tmeth isL mAppend (tv 3) (acons (tlst true anil) anil)))
    (spar 2 4 (acons (t2 (add3 false) (tv 2) (tc (.int 1))) (acons (tc (.str (Str.ofString "first"))) anil)))) (sseq (sset 8 (tif (tb3 (t2 ne3 (tv 4) (tc (.str (Str.ofString "done"))))) (tcall sp__law_token (acons (tv 0) (acons (tv 2) anil))) (tc (.int 0))))
    (sseq (sif (tb3 (t2 eq3 (tv 8) (tc (.int 0)))) (sret (ttup (acons (tc (.str (Str.ofString "bad"))) (acons (tv 2) anil)))) snext)
    (sseq (sdrop (tmeth isL mAppend (t2 ix3 (tv 3) (tneg (tc (.int 1)))) (acons (tcall sp__law_item (acons (tsl false (tv 0) (osome (tv 2)) (osome (t2 (add3 false) (tv 2) (tv 8)))) anil)) anil)))
    (spar 2 4 (acons (t2 (add3 false) (tv 2) (tv 8)) (acons (tc (.str (Str.ofString "done"))) anil)))))))))) snext))
    (sret (tif (Tand (tb3 (t2 eq3 (tv 4) (tc (.str (Str.ofString "done"))))) (tb3 (t2 eq3 (tcb bLen (acons (tv 3) anil)) (tc (.int 1))))) (ttup (acons (tc (.str (Str.ofString "let"))) (acons (t2 ix3 (t2 ix3 (tv 3) (tc (.int 0))) (tc (.int 0))) anil))) (ttup (acons (tc (.str (Str.ofString "bad"))) (acons (tcb bLen (acons (tv 0) anil)) anil))))))))
set_option maxHeartbeats 4000000 in
theorem vc__law_read (ds : List D) (G : Gp) (Q : QK) (E : EK) (h : sp__law_read ds G Q E) : t__law_read (fnEnds Q E) (start3 N__law_read ds) G := by
  unfold sp__law_read at h
  split at h
  case h_2 => exact h.elim
  obtain ⟨l, rfl, ok, hq⟩ := h
  rw [← mac_rd] at hq
  generalize hR : mac l.length l 0 [[]] 0 = R at hq
  have k1 : Str.ofString ")" = SX.S [41] := by decide +kernel
  have k2 : Str.ofString "," = SX.S [44] := by decide +kernel
  have k3 : Str.ofString "(" = SX.S [40] := by decide +kernel
  have sl := ok.sl
  have len := ok.len
  have sz : sizeLine = 16777216 := rfl
  refine ⟨_, rfl, _, _, rfl, rfl, _, rfl, iteF (snext_eq ?_)⟩
  refine ⟨Nat.le_of_ble_eq_true rfl, fun a na => ⟨Nat.le_of_ble_eq_true rfl, fun s ns => ⟨_, _, _, rfl, ?_⟩⟩⟩
  dsimp only
  have sa : s ≠ a := fun z => by rw [z, up_same] at ns; cases ns
  have s0 : G s = none := by rw [up_ne sa] at ns; exact ns
  have S0 : Stk G s [a] [[]] (up (up G a (.lst [])) s (.lst [.ref a])) := by
    refine ⟨up_same, ⟨by rw [up_ne (Ne.symm sa), up_same], trivial⟩, by simpa using sa, by simp, ?_, fun b o e => ?_⟩
    · intro b hb
      rcases hb with rfl | hb
      · exact s0
      · rw [List.mem_singleton] at hb; subst hb; exact na
    · rw [up_ne (fun z => by rw [z, s0] at e; cases e), up_ne (fun z => by rw [z, na] at e; cases e)]; exact e
  generalize hG0 : up (up G a (.lst [])) s (.lst [.ref a]) = G1 at S0 ⊢
  refine sseq_cut (fun σ G' => ∃ as st due y1 y5 y6 y7 y8, Stk G s as st G' ∧ mac 0 [] l.length st due = R ∧ due ≤ 2 ∧ (∀ f fs, st = f :: fs → due = 2 → f ≠ []) ∧ σ = [some (.str (SX.S l)), y1, some (.int (l.length : Nat)), some (.ref s), some (.str (dueS due)), y5, y6, y7, y8]) (fun N hN => ?_) ?_
  · refine ⟨_, rfl, sl, _, rfl, ?_, ?_, ?_⟩
    · rw [SX.S_len]; omega
    · rw [SX.S_len]; omega
    rw [SX.S_len, Int.toNat_natCast]
    refine forL_inv (fun j σ G' => ∃ as f fs due k y1 y5 y6 y7 y8, Stk G s as (f :: fs) G' ∧ mac (l.length - j) (l.drop k) k (f :: fs) due = R ∧ due ≤ 2 ∧ (due = 2 → f ≠ []) ∧ j ≤ k ∧ k ≤ l.length ∧ (f :: fs).length ≤ 21 ∧ (∀ g ∈ f :: fs, g.length ≤ k) ∧ σ = [some (.str (SX.S l)), y1, some (.int (k : Nat)), some (.ref s), some (.str (dueS due)), y5, y6, y7, y8]) ?_ ?_ ⟨[a], [], [], 0, 0, none, none, none, none, none, S0, hR, by decide, by decide, Nat.le_refl _, by omega, by decide, by simp, rfl⟩
    · rintro j x σ G' N' ex ⟨as, f, fs, due, k, y1, y5, y6, y7, y8, K, hm, d2, hf, jk, kl, l21, gl, rfl⟩ hN'
      have jl : j < l.length := by
        have := (List.getElem?_eq_some_iff.mp ex).1
        rwa [List.length_map, List.length_range] at this
      have e1 : l.length - j = (l.length - (j + 1)) + 1 := by omega
      refine ⟨trivial, _, rfl, _, rfl, sl, _, rfl, ?_⟩
      rw [SX.S_len]
      refine ite_b (fun z => ?_) (fun z => ?_)
      · have z : k < l.length := by have := of_decide_eq_true z; omega
        cases e : l.drop k with
        | nil => have := congrArg List.length e; rw [List.length_drop] at this; simp at this; omega
        | cons c r =>
        have dc := drop_cons e
        have ea : atI (SX.S l).cps.toList (k : Int) = some c := atI_nat dc.2.2
        rw [e, e1] at hm
        have al := K.frs.len
        cases as with
        | nil => exact K.frs.elim
        | cons a as =>
        simp only [List.length_cons, Nat.add_right_cancel_iff] at al
        have el : decide ((1 : Int) < (((a :: as).reverse.map D.ref).length : Nat)) = decide (fs ≠ []) := by
          rw [List.length_map, List.length_reverse, List.length_cons, al, Bool.eq_iff_iff, decide_eq_true_eq, decide_eq_true_eq]
          cases fs with
          | nil => simp
          | cons g gs => simp; omega
        refine sseq_cut (fun σ2 G2 => G2 = G' ∧ σ2 = [some (.str (SX.S l)), some x, some (.int (k : Nat)), some (.ref s), some (.str (dueS due)), some (.str (SX.S [c])), some (.bl (decide (fs ≠ []))), y7, y8]) (fun M hM => ⟨_, rfl, _, rfl, sl, c, ea, _, rfl, _, sq_ref K.top, _, _, rfl, hM _ _ ⟨rfl, by rw [el]; rfl⟩⟩) ?_
        rintro σ1 G2 ⟨e2, hσ⟩
        rw [e2]
        clear e2
        symm at hσ
        have eqc : ∀ (w : String) (q : Nat), Str.ofString w = SX.S [q] → PuT (tb3 (t2 eq3 (tv 5) (tc (.str (Str.ofString w))))) σ1 G' (decide (c = q)) := fun w q hw Q E h => by
          subst hσ
          refine ⟨_, rfl, eqOk_S _ _, _, rfl, ?_⟩
          rw [eqD_S w [q] [c] hw]
          have : decide ([c] = [q]) = decide (c = q) := by rw [Bool.eq_iff_iff, decide_eq_true_eq, decide_eq_true_eq]; exact ⟨fun h => by injection h, fun h => by rw [h]⟩
          rw [this]; exact h
        have isin : PuT (tb3 (tv 6)) σ1 G' (decide (fs ≠ [])) := fun Q E h => by
          subst hσ
          exact ⟨_, rfl, _, rfl, h⟩
        have nitem : PuT (tb3 (t2 ne3 (tv 4) (tc (.str (Str.ofString "item"))))) σ1 G' (decide (due ≠ 0)) := fun Q E h => by
          subst hσ
          refine ⟨_, rfl, eqOk_S _ _, _, rfl, ?_⟩
          rw [due_item d2, ← decide_not]; exact h
        have ndone : PuT (tb3 (t2 ne3 (tv 4) (tc (.str (Str.ofString "done"))))) σ1 G' (decide (due ≠ 2)) := fun Q E h => by
          subst hσ
          refine ⟨_, rfl, eqOk_S _ _, _, rfl, ?_⟩
          rw [due_done d2, ← decide_not]; exact h
        have done : PuT (tb3 (t2 eq3 (tv 4) (tc (.str (Str.ofString "done"))))) σ1 G' (decide (due = 2)) := fun Q E h => by
          subst hσ
          refine ⟨_, rfl, eqOk_S _ _, _, rfl, ?_⟩
          rw [due_done d2]; exact h
        have l20 : PuT (tb3 (t2 le3 (tcb bLen (acons (tv 3) anil)) (tc (.int 20)))) σ1 G' (decide ((f :: fs).length ≤ 20)) := fun Q E h => by
          subst hσ
          refine ⟨_, rfl, _, sq_ref K.top, _, rfl, ?_⟩
          have : decide ((((a :: as).reverse.map D.ref).length : Int) ≤ 20) = decide ((f :: fs).length ≤ 20) := by
            rw [List.length_map, List.length_reverse, List.length_cons, List.length_cons, al, Bool.eq_iff_iff, decide_eq_true_eq, decide_eq_true_eq]; omega
          rw [this]; exact h
        unfold mac at hm
        refine ((eqc ")" 41 k1).and (isin.and nitem)) _ _ ?_
        by_cases h1 : c = 41 ∧ fs ≠ [] ∧ due ≠ 0
        · rw [if_pos h1] at hm
          rw [decide_eq_true h1]
          refine iteT ?_
          cases fs with
          | nil => exact absurd rfl h1.2.1
          | cons g gs =>
          cases as with
          | nil => simp at al
          | cons b bs =>
          subst hσ
          have K2 := K.pop
          have na' : a ≠ s := fun z => K.ns (by rw [z]; exact List.mem_cons_self ..)
          refine ⟨_, rfl, isL_ref K.tops, _, .ref a, K.tops, by simp, ?_⟩
          rw [List.dropLast_concat]
          refine ⟨f, sq_ref (by rw [up_ne na']; exact K.frs.1), ?_⟩
          refine ⟨_, rfl, _, rfl, _, _, sq_ref K2.tops, at_last _ _, isL_ref K2.frs.1, _, rfl, g, K2.frs.1, by have := gl g (by simp); omega, ?_⟩
          have gf := gl g (by simp)
          refine ⟨_, rfl, _, _, rfl, hN' _ _ ⟨b :: bs, g ++ [.tup f], gs, 2, k + 1, _, _, _, _, _, K2.put, ?_, by decide, fun _ => by simp, by omega, by omega, by simp only [List.length_cons] at l21 ⊢; omega, fun q hq2 => ?_, rfl⟩⟩
          · rw [dc.1]; exact hm
          · rcases List.mem_cons.mp hq2 with rfl | hq2
            · rw [List.length_append, List.length_singleton]; omega
            · have := gl q (List.mem_cons_of_mem _ (List.mem_cons_of_mem _ hq2)); omega
        · rw [if_neg h1] at hm
          rw [decide_eq_false h1]
          refine iteF (((eqc "," 44 k2).and (isin.and done)) _ _ ?_)
          by_cases h2 : c = 44 ∧ fs ≠ [] ∧ due = 2
          · rw [if_pos h2] at hm
            rw [decide_eq_true h2]
            refine iteT ?_
            subst hσ
            refine ⟨_, rfl, _, _, rfl, hN' _ _ ⟨a :: as, f, fs, 0, k + 1, _, _, _, _, _, K, ?_, by decide, (fun z => by cases z), by omega, by omega, l21, fun q hq2 => ?_, rfl⟩⟩
            · rw [dc.1]; exact hm
            · have := gl q hq2; omega
          · rw [if_neg h2] at hm
            rw [decide_eq_false h2]
            refine iteF (((eqc "(" 40 k3).and (ndone.and l20)) _ _ ?_)
            by_cases h3 : c = 40 ∧ due ≠ 2 ∧ (f :: fs).length ≤ 20
            · rw [if_pos h3] at hm
              rw [decide_eq_true h3]
              refine iteT ?_
              subst hσ
              refine ⟨_, rfl, isL_ref K.top, by decide, fun p np => ?_⟩
              have n0 : G p = none := by
                cases eg : G p with
                | none => rfl
                | some o => have := K.old p o eg; rw [np] at this; cases this
              have sp : s ≠ p := fun z => by have := K.top; rw [z, np] at this; cases this
              refine ⟨_, by rw [up_ne sp]; exact K.top, ?_, ?_⟩
              · rw [List.length_map, List.length_reverse, List.length_cons, al]
                have := h3.2.2
                simp only [List.length_cons] at this
                omega
              refine ⟨_, rfl, _, _, rfl, hN' _ _ ⟨p :: a :: as, [], f :: fs, 1, k + 1, _, _, _, _, _, K.push np n0, ?_, by decide, (fun z => by cases z), by omega, by omega, by have := h3.2.2; simp only [List.length_cons] at this ⊢; omega, fun q hq2 => ?_, rfl⟩⟩
              · rw [dc.1]; exact hm
              · rcases List.mem_cons.mp hq2 with rfl | hq2
                · simp
                · have := gl q hq2; omega
            · rw [if_neg h3] at hm
              rw [decide_eq_false h3]
              refine iteF (ndone _ _ ?_)
              by_cases hd : due = 2
              · rw [if_pos (.inl hd)] at hm
                rw [decide_eq_false (fun z => z hd)]
                subst hσ
                subst hm
                exact iteF ⟨_, rfl, rfl, _, rfl, iteT ⟨_, rfl, Nat.le_of_ble_eq_true rfl, dn_refl (hq _ K.old)⟩⟩
              · rw [decide_eq_true hd]
                refine iteT ?_
                subst hσ
                refine ⟨_, rfl, _, rfl, l, k, c, r, rfl, rfl, ok, e, ?_⟩
                refine ⟨_, rfl, rfl, _, rfl, ?_⟩
                show if (((tkn (c :: r) : Nat) : Int) == 0) = true then _ else _
                by_cases t0 : tkn (c :: r) = 0
                · rw [if_pos (.inr t0)] at hm
                  subst hm
                  rw [t0]
                  exact iteT ⟨_, rfl, Nat.le_of_ble_eq_true rfl, dn_refl (hq _ K.old)⟩
                · rw [if_neg (by omega)] at hm
                  rw [beq_false_of_ne (show ((tkn (c :: r) : Nat) : Int) ≠ 0 by omega)]
                  have tl := tkn_le (c :: r)
                  have lr : (c :: r).length = l.length - k := by rw [← e, List.length_drop]
                  refine iteF (snext_eq ⟨_, rfl, _, rfl, _, _, sq_ref K.tops, at_last _ _, isL_ref K.frs.1, _, rfl, _, rfl, _, rfl, _, rfl, _, rfl, _, rfl, sl, ?_⟩)
                  rw [← Int.natCast_add, cut_S, e, show k + tkn (c :: r) - k = tkn (c :: r) by omega]
                  refine ⟨_, rfl, by rw [List.length_take]; omega, tkn_ok t0, ?_⟩
                  have gf := gl f (by simp)
                  refine ⟨f, K.frs.1, by omega, ?_⟩
                  refine ⟨_, rfl, _, rfl, _, _, rfl, hN' _ _ ⟨a :: as, f ++ [itD ((c :: r).take (tkn (c :: r)))], fs, 2, k + tkn (c :: r), some x, some (.str (SX.S [c])), some (.bl (decide (fs ≠ []))), y7, some (.int ((tkn (c :: r) : Nat) : Int)), K.put, ?_, by decide, fun _ => by simp, by omega, by omega, l21, fun q hq2 => ?_, ?_⟩⟩
                  · rw [← List.drop_drop, e]; exact hm
                  · rcases List.mem_cons.mp hq2 with rfl | hq2
                    · rw [List.length_append, List.length_singleton]; omega
                    · have := gl q (List.mem_cons_of_mem _ hq2); omega
                  · rw [Int.natCast_add]; rfl
      · have z : ¬ k < l.length := by have := of_decide_eq_false z; omega
        have ek : k = l.length := by omega
        subst ek
        rw [List.drop_length, e1] at hm
        exact snext_eq (hN' _ _ ⟨as, f, fs, due, l.length, _, y5, y6, y7, y8, K, by rw [List.drop_length]; exact hm, d2, hf, by omega, Nat.le_refl _, l21, gl, rfl⟩)
    · rintro σ G' ⟨as, f, fs, due, k, y1, y5, y6, y7, y8, K, hm, d2, hf, jk, kl, l21, gl, rfl⟩
      rw [List.length_map, List.length_range] at jk hm
      have ek : k = l.length := by omega
      subst ek
      rw [List.drop_length, Nat.sub_self] at hm
      exact ⟨trivial, hN _ _ ⟨as, f :: fs, due, y1, y5, y6, y7, y8, K, hm, d2, fun g gs e he => by injection e with e1 e2; subst e1; exact hf he, rfl⟩⟩
  · rintro σ G' ⟨as, st, due, y1, y5, y6, y7, y8, K, hm, d2, hf, rfl⟩
    have al := K.frs.len
    have bad : R = .bad l.length → (ttup (acons (tc (.str (Str.ofString "bad"))) (acons (tcb bLen (acons (tv 0) anil)) anil))) [some (.str (SX.S l)), y1, some (.int (l.length : Nat)), some (.ref s), some (.str (dueS due)), y5, y6, y7, y8] G' (fnEnds Q E).rt (fun x G1 => (fnEnds Q E).ex x [some (.str (SX.S l)), y1, some (.int (l.length : Nat)), some (.ref s), some (.str (dueS due)), y5, y6, y7, y8] G1) := fun z => by
      subst z
      refine ⟨_, rfl, sl, Nat.le_of_ble_eq_true rfl, dn_refl ?_⟩
      rw [SX.S_len]
      exact hq _ K.old
    refine ⟨_, rfl, eqOk_S _ _, _, rfl, ?_⟩
    rw [due_done d2]
    by_cases hd : due = 2
    · rw [decide_eq_true hd]
      refine iteT ⟨_, rfl, _, sq_ref K.top, rfl, _, rfl, ?_⟩
      show if ((((as.reverse.map D.ref).length : Nat) : Int) == 1) = true then _ else _
      rw [List.length_map, List.length_reverse, al]
      cases st with
      | nil =>
        unfold mac at hm
        exact iteF (bad hm.symm)
      | cons f fs =>
        cases fs with
        | cons g gs =>
          have hm : RT.bad l.length = R := by rw [← hm]; cases f <;> rfl
          rw [beq_false_of_ne (show (((f :: g :: gs).length : Nat) : Int) ≠ 1 by simp only [List.length_cons]; omega)]
          exact iteF (bad hm.symm)
        | nil =>
          cases f with
          | nil => exact absurd rfl (hf [] [] rfl hd)
          | cons d f =>
            have hm : (if due = 2 then RT.ok d l.length else RT.bad l.length) = R := hm
            rw [if_pos hd] at hm
            subst hm
            cases as with
            | nil => simp at al
            | cons a as =>
            cases as with
            | cons b bs => simp at al
            | nil =>
            refine iteT ⟨_, rfl, _, _, sq_ref K.top, rfl, _, _, sq_ref K.frs.1, atI_nat (l := d :: f) (a := 0) rfl, Nat.le_of_ble_eq_true rfl, dn_refl (hq _ K.old)⟩
    · rw [decide_eq_false hd]
      refine iteF (bad ?_)
      unfold mac at hm
      split at hm
      · rw [if_neg hd] at hm; exact hm.symm
      · exact hm.symm
/-! #### _law_spoilt -/

def sp__law_spoilt : Sp3 := fun ds G Q E => match ds with | [.ref h, .str t] => ∃ l cs i c s u, t = SX.S l ∧ l.length ≤ 900000 ∧ (∀ c ∈ l, c < 1114112) ∧ G h = some (hnd cs i c s u) ∧ HOk cs i c ∧ ∀ l' i' c' s' t', l'.length ≤ l.length + 20 → (∀ c ∈ l', c < 1114112) → HOk cs i' c' → Q (.str (SX.S l')) (up G h (hnd cs i' c' s' t')) | _ => False
def t__law_spoilt : TS3 :=
    (sseq (spar 4 5 (acons (tcall sp__law_draw (acons (tv 0) (acons (t2 (add3 false) (tcb bLen (acons (tv 1) anil)) (tc (.int 1))) anil))) (acons (tcall sp__law_draw (acons (tv 0) (acons (tc (.int 7)) anil))) anil)))
    (sseq (sset 2 (tlst false (acons (tc (.str (Str.ofString "("))) (acons (tc (.str (Str.ofString ")"))) (acons (tc (.str (Str.ofString ","))) (acons (tc (.str (Str.ofString "-"))) (acons (tc (.str (Str.ofString "0"))) (acons (tc (.str (Str.ofString "1"))) (acons (tc (.str (Str.ofString "9"))) (acons (tc (.str (Str.ofString "a"))) (acons (tc (.str (Str.ofString "z"))) (acons (tc (.str (Str.ofString "A"))) (acons (tc (.str (Str.ofString " "))) (acons (tc (.str (Str.ofString "."))) (acons (tc (.str (Str.ofString "\n"))) (acons (tc (.str (Str.ofString "yes"))) (acons (tc (.str (Str.ofString "no"))) (acons (tc (.str (Str.ofString "00"))) (acons (t2 mul3S (tc (.str (Str.ofString "1"))) (tc (.int 20))) (acons (t2 mul3S (tc (.str (Str.ofString "b"))) (tc (.int 20))) anil))))))))))))))))))))
    (sseq (sset 3 (tcall sp__law_some (acons (tv 0) (acons (tv 2) anil))))
    (sseq (sif (tb3 (t2 lt3 (tv 5) (tc (.int 3)))) (sret (t2 (add3 false) (t2 (add3 false) (tsl false (tv 1) onone (osome (tv 4))) (tv 3)) (tsl false (tv 1) (osome (tv 4)) onone))) snext)
    (sseq (sif (tb3 (t2 lt3 (tv 5) (tc (.int 5)))) (sret (t2 (add3 false) (tsl false (tv 1) onone (osome (tv 4))) (tsl false (tv 1) (osome (t2 (add3 false) (tv 4) (tc (.int 1)))) onone))) snext)
    (sret (tif (tb3 (t2 eq3 (tv 5) (tc (.int 5)))) (t2 (add3 false) (t2 (add3 false) (tsl false (tv 1) onone (osome (tv 4))) (tv 3)) (tsl false (tv 1) (osome (t2 (add3 false) (tv 4) (tc (.int 1)))) onone)) (tsl false (tv 1) onone (osome (tv 4))))))))))
set_option maxHeartbeats 4000000 in
theorem vc__law_spoilt (ds : List D) (G : Gp) (Q : QK) (E : EK) (h : sp__law_spoilt ds G Q E) : t__law_spoilt (fnEnds Q E) (start3 N__law_spoilt ds) G := by
  unfold sp__law_spoilt at h
  split at h
  case h_2 => exact h.elim
  rename_i h t
  obtain ⟨l, cs, i, c, s, u, rfl, l9, lc, hG, ok, hq⟩ := h
  have sl : (SX.S l).length ≤ sizeLine := by rw [SX.S_len]; have : sizeLine = 16777216 := rfl; omega
  refine ⟨_, rfl, _, rfl, sl, cs, i, c, s, u, hG, ok, ?_, ?_, fun at0 i c s u a0 a1 ok => ?_⟩
  · rw [SX.S_len]; omega
  · rw [SX.S_len]; omega
  refine ⟨_, rfl, cs, i, c, s, u, up_same, ok, by decide, by decide, fun way i c s u w0 w1 ok => ?_⟩
  rw [up_up]
  obtain ⟨a, rfl⟩ : ∃ a : Nat, at0 = (a : Nat) := ⟨at0.toNat, by omega⟩
  rw [SX.S_len] at a1
  refine ⟨_, _, rfl, ?_⟩
  refine .inl ⟨_, 20, rfl, rfl, by decide, by decide +kernel, by decide +kernel, .inl ⟨_, 20, rfl, rfl, by decide, by decide +kernel, by decide +kernel, Nat.le_of_ble_eq_true rfl, ?_⟩⟩
  dsimp only
  refine ⟨_, rfl, _, rfl, cs, i, c, s, u, _, up_same, ok, rfl, (by intro z; cases z), Nat.le_of_ble_eq_true rfl, Nat.le_of_ble_eq_true rfl, fun z i c s u mz ok => ?_⟩
  rw [up_up]
  obtain ⟨zs, rfl, z20, zc⟩ : ∃ zs : Str, z = .str zs ∧ zs.cps.toList.length ≤ 20 ∧ zs.cps.toList.all (fun c => decide (c < 1114112)) = true := by
    simp only [List.mem_cons, List.not_mem_nil, or_false] at mz
    rcases mz with rfl | rfl | rfl | rfl | rfl | rfl | rfl | rfl | rfl | rfl | rfl | rfl | rfl | rfl | rfl | rfl | rfl | rfl <;> exact ⟨_, rfl, by decide +kernel, by decide +kernel⟩
  clear mz
  have ez : zs = SX.S zs.cps.toList := (SX.S_tl zs).symm
  generalize zs.cps.toList = zl at ez z20 zc
  subst ez
  rw [List.all_eq_true] at zc
  have mt : ∀ c ∈ l.take a, c < 1114112 := fun c hc => lc c (List.mem_of_mem_take hc)
  have md : ∀ k, ∀ c ∈ l.drop k, c < 1114112 := fun k c hc => lc c (List.mem_of_mem_drop hc)
  have lt : (l.take a).length ≤ l.length := by rw [List.length_take]; omega
  have ld : ∀ k, (l.drop k).length ≤ l.length := fun k => by rw [List.length_drop]; omega
  have la : (l.take a).length + (l.drop a).length = l.length := by rw [List.length_take, List.length_drop]; omega
  have lb : (l.take a).length + (l.drop (a + 1)).length ≤ l.length := by rw [List.length_take, List.length_drop]; omega
  have sz : sizeLine = 16777216 := rfl
  have e1 : ((a : Nat) : Int) + 1 = ((a + 1 : Nat) : Int) := by omega
  have app : ∀ (x y : List Nat), (∀ c ∈ x, c < 1114112) → (∀ c ∈ y, c < 1114112) → ∀ c ∈ x ++ y, c < 1114112 := fun x y hx hy c hc => by
    rcases List.mem_append.mp hc with hc | hc
    · exact hx c hc
    · exact hy c hc
  have zc' : ∀ c ∈ zl, c < 1114112 := fun c hc => of_decide_eq_true (zc c hc)
  refine ⟨_, rfl, _, rfl, ite_b (fun _ => ?_) (fun _ => ?_)⟩
  · refine ⟨_, rfl, _, rfl, _, rfl, sl, _, rfl, ?_⟩
    rw [cut_S0]
    refine ⟨by rw [SX.S_len, SX.S_len]; omega, _, rfl, _, rfl, _, rfl, sl, ?_⟩
    rw [cut_S1, SX.S_cat]
    refine ⟨by rw [SX.S_len, SX.S_len, List.length_append]; omega, dn_refl ?_⟩
    rw [SX.S_cat]
    exact hq _ i c s u (by rw [List.length_append, List.length_append]; omega) (app _ _ (app _ _ mt zc') (md a)) ok
  · refine snext_eq ⟨_, rfl, _, rfl, ite_b (fun _ => ?_) (fun _ => ?_)⟩
    · refine ⟨_, rfl, _, rfl, _, rfl, sl, _, rfl, _, rfl, _, rfl, sl, ?_⟩
      rw [cut_S0, e1, cut_S1]
      refine ⟨by rw [SX.S_len, SX.S_len]; omega, dn_refl ?_⟩
      rw [SX.S_cat]
      exact hq _ i c s u (by rw [List.length_append]; omega) (app _ _ mt (md _)) ok
    · refine snext_eq ⟨_, rfl, rfl, _, rfl, ite_b (fun _ => ?_) (fun _ => ?_)⟩
      · refine ⟨_, rfl, _, rfl, _, rfl, sl, _, rfl, ?_⟩
        rw [cut_S0]
        refine ⟨by rw [SX.S_len, SX.S_len]; omega, _, rfl, _, rfl, _, rfl, sl, ?_⟩
        rw [e1, cut_S1, SX.S_cat]
        refine ⟨by rw [SX.S_len, SX.S_len, List.length_append]; omega, dn_refl ?_⟩
        rw [SX.S_cat]
        exact hq _ i c s u (by rw [List.length_append, List.length_append]; omega) (app _ _ (app _ _ mt zc') (md _)) ok
      · refine ⟨_, rfl, _, rfl, _, rfl, sl, dn_refl ?_⟩
        rw [cut_S0]
        exact hq _ i c s u (by omega) mt ok
/-! #### ThingReader.__init__ -/

def sp_ThingReader___init__ : Sp3 := fun ds G Q E => match ds with | [.ref a, .str t] => G a = some (.ins (Str.ofString "ThingReader") []) ∧ Q .non (up G a (rdr t 0)) | _ => False
def t_ThingReader___init__ : TS3 :=
    (sseq (sfld (Str.ofString "ThingReader") (Str.ofString "signs") (tv 0) (tv 1))
    (sfld (Str.ofString "ThingReader") (Str.ofString "at") (tv 0) (tc (.int 0))))
set_option maxHeartbeats 4000000 in
theorem vc_ThingReader___init__ (ds : List D) (G : Gp) (Q : QK) (E : EK) (h : sp_ThingReader___init__ ds G Q E) : t_ThingReader___init__ (fnEnds Q E) (start3 N_ThingReader___init__ ds) G := by
  unfold sp_ThingReader___init__ at h
  split at h
  case h_2 => exact h.elim
  obtain ⟨g, hq⟩ := h
  refine ⟨_, rfl, _, rfl, _, _, rfl, g, Nat.le_of_ble_eq_true rfl, ?_⟩
  refine ⟨_, rfl, _, _, rfl, up_same, Nat.le_of_ble_eq_true rfl, ?_⟩
  rw [up_up]
  exact dn_refl hq
/-! #### ThingReader.refuse -/

def sp_ThingReader_refuse : Sp3 := fun ds G Q E => match ds with | [.ref a] => ∃ t k, G a = some (rdr t k) ∧ E ⟨Str.ofString "BadThing", some (Str.ofString "place", .int (k : Nat))⟩ G | _ => False
def t_ThingReader_refuse : TS3 :=
    (sraisef (Str.ofString "BadThing") (Str.ofString "place") (tfld (Str.ofString "ThingReader") (Str.ofString "at") (tv 0)))
set_option maxHeartbeats 4000000 in
theorem vc_ThingReader_refuse (ds : List D) (G : Gp) (Q : QK) (E : EK) (h : sp_ThingReader_refuse ds G Q E) : t_ThingReader_refuse (fnEnds Q E) (start3 N_ThingReader_refuse ds) G := by
  unfold sp_ThingReader_refuse at h
  split at h
  case h_2 => exact h.elim
  obtain ⟨t, k, g, hq⟩ := h
  exact ⟨_, rfl, _, fld_at g rfl, G, fun _ _ e => e, hq⟩
/-! #### ThingReader.next_sign -/

def sp_ThingReader_next_sign : Sp3 := fun ds G Q E => match ds with | [.ref a] => ∃ t k, G a = some (rdr t k) ∧ t.length ≤ sizeLine ∧ Q (.str (nx t k)) G | _ => False
def t_ThingReader_next_sign : TS3 :=
    (sret (tsl false (tfld (Str.ofString "ThingReader") (Str.ofString "signs") (tv 0)) (osome (tfld (Str.ofString "ThingReader") (Str.ofString "at") (tv 0))) (osome (t2 (add3 false) (tfld (Str.ofString "ThingReader") (Str.ofString "at") (tv 0)) (tc (.int 1))))))
set_option maxHeartbeats 4000000 in
theorem vc_ThingReader_next_sign (ds : List D) (G : Gp) (Q : QK) (E : EK) (h : sp_ThingReader_next_sign ds G Q E) : t_ThingReader_next_sign (fnEnds Q E) (start3 N_ThingReader_next_sign ds) G := by
  unfold sp_ThingReader_next_sign at h
  split at h
  case h_2 => exact h.elim
  obtain ⟨t, k, g, l, hq⟩ := h
  exact ⟨_, rfl, _, fld_at g rfl, _, rfl, _, fld_at g rfl, _, rfl, _, rfl, _, fld_at g rfl, _, rfl, l, dn_refl hq⟩
/-! #### ThingReader.is_next -/

def sp_ThingReader_is_next : Sp3 := fun ds G Q E => match ds with | [.ref a, .str s] => ∃ l k, G a = some (rdr (SX.S l) k) ∧ okL l ∧ Q (.bl (hdP (inS s) (l.drop k))) G | _ => False
def t_ThingReader_is_next : TS3 :=
    (sret (tand (t2 ne3 (tmth (Str.ofString "ThingReader") (Str.ofString "next_sign") sp_ThingReader_next_sign (tv 0) anil) (tc (.str (Str.ofString "")))) (t2 (inA3 false) (tmth (Str.ofString "ThingReader") (Str.ofString "next_sign") sp_ThingReader_next_sign (tv 0) anil) (tv 1))))
set_option maxHeartbeats 4000000 in
theorem vc_ThingReader_is_next (ds : List D) (G : Gp) (Q : QK) (E : EK) (h : sp_ThingReader_is_next ds G Q E) : t_ThingReader_is_next (fnEnds Q E) (start3 N_ThingReader_is_next ds) G := by
  unfold sp_ThingReader_is_next at h
  split at h
  case h_2 => exact h.elim
  rename_i a s
  obtain ⟨l, k, g, ok, hq⟩ := h
  refine ⟨_, rfl, insM_at g rfl, SX.S l, k, g, ok.sl, ?_⟩
  have o1 := ok.nx k
  rw [nx_S] at o1 ⊢
  cases e : l.drop k with
  | nil =>
    rw [e] at hq o1
    exact ⟨by simp [eqOk, scD], _, rfl, iteF (dn_refl hq)⟩
  | cons c r =>
    rw [e] at hq o1
    refine ⟨by simp [eqOk, scD], _, rfl, iteT ?_⟩
    refine ⟨_, rfl, insM_at g rfl, SX.S l, k, g, ok.sl, _, rfl, .inr ⟨c, s, ?_, rfl, dn_refl hq⟩⟩
    rw [nx_S, e]; rfl
/-! #### ThingReader.pass_by -/

def sp_ThingReader_pass_by : Sp3 := fun ds G Q E => match ds with | [.ref a, .str s] => ∃ t k, G a = some (rdr t k) ∧ t.length ≤ sizeLine ∧ PyData.strOk (nx t k) = true ∧ PyData.strOk s = true ∧ (nx t k = s → Q .non (up G a (rdr t (k + 1)))) ∧ (nx t k ≠ s → E ⟨Str.ofString "BadThing", some (Str.ofString "place", .int (k : Nat))⟩ G) | _ => False
def t_ThingReader_pass_by : TS3 :=
    (sseq (sif (tb3 (t2 ne3 (tmth (Str.ofString "ThingReader") (Str.ofString "next_sign") sp_ThingReader_next_sign (tv 0) anil) (tv 1))) (sdrop (tmth (Str.ofString "ThingReader") (Str.ofString "refuse") sp_ThingReader_refuse (tv 0) anil)) snext)
    (saugF (Str.ofString "ThingReader") (Str.ofString "at") (tv 0) (tc (.int 1)) iadd3))
set_option maxHeartbeats 4000000 in
theorem vc_ThingReader_pass_by (ds : List D) (G : Gp) (Q : QK) (E : EK) (h : sp_ThingReader_pass_by ds G Q E) : t_ThingReader_pass_by (fnEnds Q E) (start3 N_ThingReader_pass_by ds) G := by
  unfold sp_ThingReader_pass_by at h
  split at h
  case h_2 => exact h.elim
  rename_i a s
  obtain ⟨t, k, g, l, o1, o2, h1, h2⟩ := h
  refine ⟨_, rfl, insM_at g rfl, t, k, g, l, _, rfl, by simp [eqOk, sh, scD, o1, o2], _, rfl, ite_b (fun z => ?_) (fun z => ?_)⟩
  · have z : nx t k ≠ s := fun e => by rw [e] at z; simp [eqD] at z
    exact ⟨_, rfl, insM_at g rfl, t, k, g, G, fun _ _ e => e, h2 z⟩
  · have z : nx t k = s := by simpa [eqD] using z
    exact snext_eq ⟨_, rfl, _, fld_at g rfl, _, _, rfl, g, Nat.le_of_ble_eq_true rfl, dn_refl (h1 z)⟩
/-! #### ThingReader.take_all -/

def sp_ThingReader_take_all : Sp3 := fun ds G Q E => match ds with | [.ref a, .str s, .int m] => ∃ l k, G a = some (rdr (SX.S l) k) ∧ okL l ∧ 0 ≤ m ∧ Q (.str (SX.S (tk (inS s) m.toNat (l.drop k)))) (up G a (rdr (SX.S l) (k + (tk (inS s) m.toNat (l.drop k)).length))) | _ => False
def t_ThingReader_take_all : TS3 :=
    (sseq (sset 3 (tfld (Str.ofString "ThingReader") (Str.ofString "at") (tv 0)))
    (sseq (swhile (Tand (tb3 (tmth (Str.ofString "ThingReader") (Str.ofString "is_next") sp_ThingReader_is_next (tv 0) (acons (tv 1) anil))) (tb3 (t2 lt3 (t2 sub3 (tfld (Str.ofString "ThingReader") (Str.ofString "at") (tv 0)) (tv 3)) (tv 2)))) (saugF (Str.ofString "ThingReader") (Str.ofString "at") (tv 0) (tc (.int 1)) iadd3))
    (sret (tsl false (tfld (Str.ofString "ThingReader") (Str.ofString "signs") (tv 0)) (osome (tv 3)) (osome (tfld (Str.ofString "ThingReader") (Str.ofString "at") (tv 0)))))))
set_option maxHeartbeats 4000000 in
theorem vc_ThingReader_take_all (ds : List D) (G : Gp) (Q : QK) (E : EK) (h : sp_ThingReader_take_all ds G Q E) : t_ThingReader_take_all (fnEnds Q E) (start3 N_ThingReader_take_all ds) G := by
  unfold sp_ThingReader_take_all at h
  split at h
  case h_2 => exact h.elim
  rename_i a s m
  obtain ⟨l, k, g, ok, m0, hq⟩ := h
  refine ⟨_, rfl, _, fld_at g rfl, ?_⟩
  dsimp only
  refine sseq_cut (fun σ G' => G' = up G a (rdr (SX.S l) (k + (tk (inS s) m.toNat (l.drop k)).length)) ∧ σ = [some (.ref a), some (.str s), some (.int m), some (.int (k : Nat))]) (fun N hN => ?_) ?_
  · refine whN_inv (fun n σ G' => ∃ j : Nat, n = m.toNat - j ∧ j ≤ m.toNat ∧ G' = up G a (rdr (SX.S l) (k + j)) ∧ j + (tk (inS s) (m.toNat - j) (l.drop (k + j))).length = (tk (inS s) m.toNat (l.drop k)).length ∧ σ = [some (.ref a), some (.str s), some (.int m), some (.int (k : Nat))]) ?_ ⟨0, rfl, Nat.zero_le _, ?_, ?_, rfl⟩
    · rintro n σ G' N' ⟨j, rfl, lj, rfl, ej, rfl⟩ hN'
      refine ⟨_, rfl, insM_at up_same rfl, _, rfl, l, k + j, up_same, ok, _, rfl, ite_b (fun z => ?_) (fun z => ?_)⟩
      · refine ⟨_, rfl, _, fld_at up_same rfl, _, rfl, _, rfl, _, rfl, ite_b (fun z2 => ?_) (fun z2 => ?_)⟩
        · have z2 : ((k + j : Nat) : Int) - (k : Nat) < m := of_decide_eq_true z2
          refine ⟨_, rfl, _, fld_at up_same rfl, _, _, rfl, up_same, Nat.le_of_ble_eq_true rfl, ?_⟩
          rw [up_up]
          refine hN' (m.toNat - (j + 1)) _ _ (by omega) ⟨j + 1, rfl, by omega, rfl, ?_, rfl⟩
          rw [← ej]
          cases e : l.drop (k + j) with
          | nil => rw [e] at z; cases z
          | cons c r =>
            rw [e] at z
            have e2 := (drop_cons e).1
            rw [show k + (j + 1) = k + j + 1 by omega, e2, show m.toNat - j = (m.toNat - (j + 1)) + 1 by omega, tk_cons (show inS s c = true from z), List.length_cons]
            omega
        · have z2 : ¬ ((k + j : Nat) : Int) - (k : Nat) < m := of_decide_eq_false z2
          rw [show m.toNat - j = 0 by omega, tk_zero] at ej
          exact hN _ _ ⟨by rw [← ej]; rfl, rfl⟩
      · have : tk (inS s) (m.toNat - j) (l.drop (k + j)) = [] := by
          cases e : l.drop (k + j) with
          | nil => exact tk_nil _ _
          | cons c r => rw [e] at z; exact tk_no z
        rw [this] at ej
        exact hN _ _ ⟨by rw [← ej]; rfl, rfl⟩
    · exact (up_self g).symm
    · rw [Nat.zero_add]; rfl
  · rintro σ G' ⟨rfl, rfl⟩
    refine ⟨_, rfl, _, fld_at up_same rfl, _, rfl, _, rfl, _, rfl, _, fld_at up_same rfl, _, rfl, ok.sl, dn_refl ?_⟩
    rw [cut_S, Nat.add_sub_cancel_left, tk_take]
    exact hq
/-! #### ThingReader.number -/

def sp_ThingReader_number : Sp3 := fun ds G Q E => match ds with | [.ref a, .bl z] => ∃ l k, G a = some (rdr (SX.S l) k) ∧ okL l ∧ (match numR z (l.drop k) with | none => E ⟨Str.ofString "BadThing", some (Str.ofString "place", .int (k : Nat))⟩ G | some (n, j) => Q (.int n) (up G a (rdr (SX.S l) (k + j)))) | _ => False
def t_ThingReader_number : TS3 :=
    (sseq (sif (Tor (Tnot (tb3 (tmth (Str.ofString "ThingReader") (Str.ofString "is_next") sp_ThingReader_is_next (tv 0) (acons (tc (.str (Str.ofString "0123456789"))) anil)))) (Tand (tb3 (t2 eq3 (tmth (Str.ofString "ThingReader") (Str.ofString "next_sign") sp_ThingReader_next_sign (tv 0) anil) (tc (.str (Str.ofString "0"))))) (Tnot (tb3 (tv 1))))) (sdrop (tmth (Str.ofString "ThingReader") (Str.ofString "refuse") sp_ThingReader_refuse (tv 0) anil)) snext)
    (sseq (sif (tb3 (t2 eq3 (tmth (Str.ofString "ThingReader") (Str.ofString "next_sign") sp_ThingReader_next_sign (tv 0) anil) (tc (.str (Str.ofString "0"))))) (sseq (sdrop (tmth (Str.ofString "ThingReader") (Str.ofString "pass_by") sp_ThingReader_pass_by (tv 0) (acons (tc (.str (Str.ofString "0"))) anil)))
    (sret (tc (.int 0)))) snext)
    (sret (tcb bIntS (acons (tmth (Str.ofString "ThingReader") (Str.ofString "take_all") sp_ThingReader_take_all (tv 0) (acons (tc (.str (Str.ofString "0123456789"))) (acons (tc (.int 20)) anil))) anil)))))
set_option maxHeartbeats 4000000 in
theorem vc_ThingReader_number (ds : List D) (G : Gp) (Q : QK) (E : EK) (h : sp_ThingReader_number ds G Q E) : t_ThingReader_number (fnEnds Q E) (start3 N_ThingReader_number ds) G := by
  unfold sp_ThingReader_number at h
  split at h
  case h_2 => exact h.elim
  rename_i a z
  obtain ⟨l, k, g, ok, hq⟩ := h
  have hf : inS (Str.ofString "0123456789") = isFg := inFG
  have k0 : Str.ofString "0" = SX.S [48] := by decide +kernel
  refine ⟨_, rfl, insM_at g rfl, l, k, g, ok, _, rfl, ?_⟩
  rw [hf]
  have dead : numR z (l.drop k) = none → E ⟨Str.ofString "BadThing", some (Str.ofString "place", .int (k : Nat))⟩ G := fun e => by rw [e] at hq; exact hq
  cases e : l.drop k with
  | nil =>
    rw [e] at dead
    exact iteT (iteT ⟨_, rfl, insM_at g rfl, SX.S l, k, g, G, fun _ _ e => e, dead rfl⟩)
  | cons c r =>
    rw [e] at dead hq
    cases hc : isFg c with
    | false =>
      have e0 : hdP isFg (c :: r) = false := hc
      rw [e0]
      exact iteT (iteT ⟨_, rfl, insM_at g rfl, SX.S l, k, g, G, fun _ _ e => e, dead (by rw [numR_c, if_neg (by rw [hc]; decide)])⟩)
    | true =>
      have e0 : hdP isFg (c :: r) = true := hc
      rw [e0]
      have ne := nx_c e
      refine iteF ⟨_, rfl, insM_at g rfl, SX.S l, k, g, ok.sl, eqOk_S _ _, _, rfl, ?_⟩
      rw [ne, eqD_S "0" [48] [c] k0]
      by_cases h48 : c = 48
      · subst h48
        refine iteT ⟨_, rfl, _, rfl, ?_⟩
        cases z with
        | false => exact iteT ⟨_, rfl, insM_at g rfl, SX.S l, k, g, G, fun _ _ e => e, dead rfl⟩
        | true =>
          refine iteF (snext_eq ⟨_, rfl, insM_at g rfl, SX.S l, k, g, ok.sl, eqOk_S _ _, _, rfl, ?_⟩)
          rw [ne, eqD_S "0" [48] [48] k0]
          refine iteT ⟨_, rfl, insM_at g rfl, SX.S l, k, g, ok.sl, ok.nx k, by decide +kernel, fun _ => dn_refl hq, fun n => absurd (by rw [ne, k0]) n⟩
      · have hd : decide ([c] = [48]) = false := decide_eq_false (by simpa using h48)
        rw [hd]
        refine iteF (iteF (snext_eq ⟨_, rfl, insM_at g rfl, SX.S l, k, g, ok.sl, eqOk_S _ _, _, rfl, ?_⟩))
        rw [ne, eqD_S "0" [48] [c] k0, hd]
        rw [numR_c, if_pos hc, if_neg h48] at hq
        refine iteF (snext_eq ⟨_, rfl, insM_at g rfl, l, k, g, ok, by decide, ?_⟩)
        rw [hf, e]
        exact ⟨_, _, rfl, tkF_int (z := z) hc, by rw [SX.S_len]; have := (tk_le isFg 20 (c :: r)).1; show _ ≤ 640; simp at this ⊢; omega, dn_refl hq⟩
/-! #### ThingReader.below_or_none -/

def sp_ThingReader_below_or_none : Sp3 := fun ds G Q E => match ds with | [.ref a] => ∃ l k r, G a = some (rdr (SX.S l) k) ∧ okL l ∧ l.drop k = 45 :: r ∧ RdO l k a G (itm (l.drop k)) Q E | _ => False
def t_ThingReader_below_or_none : TS3 :=
    (sseq (sdrop (tmth (Str.ofString "ThingReader") (Str.ofString "pass_by") sp_ThingReader_pass_by (tv 0) (acons (tc (.str (Str.ofString "-"))) anil)))
    (sret (tif (tb3 (tmth (Str.ofString "ThingReader") (Str.ofString "is_next") sp_ThingReader_is_next (tv 0) (acons (tc (.str (Str.ofString "0123456789"))) anil))) (tneg (tmth (Str.ofString "ThingReader") (Str.ofString "number") sp_ThingReader_number (tv 0) (acons (tc (.bl false)) anil))) (tc .non))))
set_option maxHeartbeats 4000000 in
theorem vc_ThingReader_below_or_none (ds : List D) (G : Gp) (Q : QK) (E : EK) (h : sp_ThingReader_below_or_none ds G Q E) : t_ThingReader_below_or_none (fnEnds Q E) (start3 N_ThingReader_below_or_none ds) G := by
  unfold sp_ThingReader_below_or_none at h
  split at h
  case h_2 => exact h.elim
  rename_i a
  obtain ⟨l, k, r, g, ok, e, hq⟩ := h
  have hf : inS (Str.ofString "0123456789") = isFg := inFG
  have k0 : Str.ofString "-" = SX.S [45] := by decide +kernel
  rw [e, itm_c, if_neg (by decide), if_pos rfl] at hq
  have e1 := (drop_cons e).1
  refine ⟨_, rfl, insM_at g rfl, SX.S l, k, g, ok.sl, ok.nx k, by decide +kernel, fun _ => ?_, fun n => absurd (by rw [nx_c e, k0]) n⟩
  refine ⟨_, rfl, insM_at up_same rfl, l, k + 1, up_same, ok, _, rfl, ?_⟩
  rw [hf, e1]
  cases hr : hdP isFg r with
  | false =>
    rw [hr] at hq
    exact iteF (dn_refl (hq _ Oth.up up_same))
  | true =>
    rw [hr] at hq
    refine iteT ⟨_, rfl, insM_at up_same rfl, l, k + 1, up_same, ok, ?_⟩
    rw [e1]
    rw [if_pos rfl] at hq
    cases en : numR false r with
    | none =>
      rw [en] at hq
      exact ⟨_, fun _ _ e => e, hq _ Oth.up⟩
    | some x =>
      obtain ⟨n, j⟩ := x
      rw [en] at hq
      refine ⟨_, rfl, dn_refl ?_⟩
      rw [up_up]
      refine hq _ Oth.up ?_
      rw [up_same, show k + 1 + j = k + (j + 1) by omega]
/-! #### ThingReader.word -/

def sp_ThingReader_word : Sp3 := fun ds G Q E => match ds with | [.ref a] => ∃ l k, G a = some (rdr (SX.S l) k) ∧ okL l ∧ Q (wrd (tk isLt 20 (l.drop k))) (up G a (rdr (SX.S l) (k + (tk isLt 20 (l.drop k)).length))) | _ => False
def t_ThingReader_word : TS3 :=
    (sseq (sset 1 (tmth (Str.ofString "ThingReader") (Str.ofString "take_all") sp_ThingReader_take_all (tv 0) (acons (tc (.str (Str.ofString "abcdefghijklmnopqrstuvwxyz"))) (acons (tc (.int 20)) anil))))
    (sret (tif (tb3 (t2 (in3 false) (tv 1) (ttup (acons (tc (.str (Str.ofString "yes"))) (acons (tc (.str (Str.ofString "no"))) anil))))) (t2 eq3 (tv 1) (tc (.str (Str.ofString "yes")))) (tv 1))))
set_option maxHeartbeats 4000000 in
theorem vc_ThingReader_word (ds : List D) (G : Gp) (Q : QK) (E : EK) (h : sp_ThingReader_word ds G Q E) : t_ThingReader_word (fnEnds Q E) (start3 N_ThingReader_word ds) G := by
  unfold sp_ThingReader_word at h
  split at h
  case h_2 => exact h.elim
  rename_i a
  obtain ⟨l, k, g, ok, hq⟩ := h
  have hf : inS (Str.ofString "abcdefghijklmnopqrstuvwxyz") = isLt := inLT
  refine ⟨_, rfl, insM_at g rfl, l, k, g, ok, by decide, ?_⟩
  rw [hf]
  generalize hw : tk isLt 20 (l.drop k) = w at hq
  have hw' : tk isLt (Int.toNat 20) (l.drop k) = w := hw
  rw [hw']
  refine ⟨_, rfl, Nat.le_of_ble_eq_true rfl, _, rfl, rfl, rfl, _, rfl, ?_⟩
  rw [word_tup]
  show if (decide (w = yesL) || decide (w = noL)) = true then _ else _
  unfold wrd at hq
  by_cases h1 : w = yesL
  · subst h1
    exact iteT ⟨_, rfl, eqOk_S _ _, dn_refl hq⟩
  · rw [if_neg h1] at hq
    by_cases h2 : w = noL
    · subst h2
      exact iteT ⟨_, rfl, eqOk_S _ _, dn_refl hq⟩
    · rw [if_neg h2] at hq
      rw [decide_eq_false h1, decide_eq_false h2]
      exact iteF ⟨_, rfl, dn_refl hq⟩
/-! #### ThingReader.several -/

def sp_ThingReader_thing : Nat → Sp3 := fun n ds G Q E => match n, ds with | n + 1, [.ref a, .int i] => ∃ l k, ∃ m : Nat, i = (m : Nat) ∧ 2 * m + 2 ≤ n + 1 ∧ G a = some (rdr (SX.S l) k) ∧ okL l ∧ RdO l k a G (rdT m (l.drop k)) Q E | _, _ => False
def sp_ThingReader_several : Nat → Sp3 := fun n ds G Q E => match n, ds with | n + 1, [.ref a, .int i] => ∃ l k, ∃ m r, i = (m : Nat) ∧ 2 * m + 1 ≤ n + 1 ∧ G a = some (rdr (SX.S l) k) ∧ okL l ∧ l.drop k = 40 :: r ∧ RdO l k a G (rdT m (l.drop k)) Q E | _, _ => False
def t_ThingReader_several (sp : Sp3) : TS3 :=
    (sseq (sif (tb3 (t2 eq3 (tv 1) (tc (.int 0)))) (sdrop (tmth (Str.ofString "ThingReader") (Str.ofString "refuse") sp_ThingReader_refuse (tv 0) anil)) snext)
    (sseq (sdrop (tmth (Str.ofString "ThingReader") (Str.ofString "pass_by") sp_ThingReader_pass_by (tv 0) (acons (tc (.str (Str.ofString "("))) anil)))
    (sseq (sset 2 (tlst true anil))
    (sseq (sif (tb3 (t2 eq3 (tmth (Str.ofString "ThingReader") (Str.ofString "next_sign") sp_ThingReader_next_sign (tv 0) anil) (tc (.str (Str.ofString ")"))))) (sseq (sdrop (tmth (Str.ofString "ThingReader") (Str.ofString "pass_by") sp_ThingReader_pass_by (tv 0) (acons (tc (.str (Str.ofString ")"))) anil)))
    (sret (ttup anil))) snext)
    (sseq (sdrop (tmeth isL mAppend (tv 2) (acons (tmth (Str.ofString "ThingReader") (Str.ofString "thing") sp (tv 0) (acons (t2 sub3 (tv 1) (tc (.int 1))) anil)) anil)))
    (sseq (swhile (tb3 (t2 eq3 (tmth (Str.ofString "ThingReader") (Str.ofString "next_sign") sp_ThingReader_next_sign (tv 0) anil) (tc (.str (Str.ofString ","))))) (sseq (sdrop (tmth (Str.ofString "ThingReader") (Str.ofString "pass_by") sp_ThingReader_pass_by (tv 0) (acons (tc (.str (Str.ofString ","))) anil)))
    (sdrop (tmeth isL mAppend (tv 2) (acons (tmth (Str.ofString "ThingReader") (Str.ofString "thing") sp (tv 0) (acons (t2 sub3 (tv 1) (tc (.int 1))) anil)) anil)))))
    (sseq (sdrop (tmth (Str.ofString "ThingReader") (Str.ofString "pass_by") sp_ThingReader_pass_by (tv 0) (acons (tc (.str (Str.ofString ")"))) anil)))
    (sret (tcb bTup (acons (tv 2) anil))))))))))
set_option maxHeartbeats 4000000 in
theorem vc_ThingReader_several (n : Nat) (ds : List D) (G : Gp) (Q : QK) (E : EK) (h : sp_ThingReader_several (n + 1) ds G Q E) : t_ThingReader_several (sp_ThingReader_thing n) (fnEnds Q E) (start3 N_ThingReader_several ds) G := by
  unfold sp_ThingReader_several at h
  split at h
  case h_2 => exact h.elim
  rename_i n0 a i en
  injection en with en
  subst en
  obtain ⟨l, k, m, r, rfl, lm, g, ok, e, hq⟩ := h
  have k0 : Str.ofString "(" = SX.S [40] := by decide +kernel
  have k1 : Str.ofString ")" = SX.S [41] := by decide +kernel
  have k2 : Str.ofString "," = SX.S [44] := by decide +kernel
  have e1 := drop_cons e
  have lens := ok.len
  cases m with
  | zero =>
    rw [e, rdT_0, if_pos rfl] at hq
    exact ⟨_, rfl, rfl, _, rfl, iteT ⟨_, rfl, insM_at g rfl, SX.S l, k, g, _, fun _ _ e => e, hq _ Oth.refl⟩⟩
  | succ m =>
  obtain ⟨n, rfl⟩ : ∃ j, n = j + 1 := ⟨n - 1, by omega⟩
  have z0 : eqD (.int ((m + 1 : Nat) : Int)) (.int 0) = false := by
    show (((m + 1 : Nat) : Int) == 0) = false
    rw [beq_eq_false_iff_ne]; omega
  refine ⟨_, rfl, rfl, _, rfl, ?_⟩
  rw [z0]
  refine iteF (snext_eq ⟨_, rfl, insM_at g rfl, SX.S l, k, g, ok.sl, ok.nx k, by decide +kernel, fun _ => ?_, fun z => absurd (nx_eq k0 |>.mpr (by rw [e]; rfl)) z⟩)
  refine ⟨by decide, fun p hp => ?_⟩
  have pa : p ≠ a := fun z => by rw [z, up_same] at hp; cases hp
  have ap : a ≠ p := fun z => pa z.symm
  have np : G p = none := by rw [up_ne pa] at hp; exact hp
  have o1 : Oth a G (up (up G a (rdr (SX.S l) (k + 1))) p (.lst [])) := Oth.up.new np
  generalize hG : up (up G a (rdr (SX.S l) (k + 1))) p (.lst []) = G2 at o1 ⊢
  have g2 : G2 a = some (rdr (SX.S l) (k + 1)) := by rw [← hG, up_ne ap, up_same]
  have p2 : G2 p = some (.lst []) := by rw [← hG, up_same]
  clear hG hp
  refine ⟨_, rfl, insM_at g2 rfl, SX.S l, k + 1, g2, ok.sl, eqOk_S _ _, _, rfl, ?_⟩
  rw [nxD ")" 41 k1, e1.1]
  rw [e, rdT_c, if_pos rfl] at hq
  cases h41 : hdP (fun c => decide (c = 41)) r with
  | true =>
    rw [h41] at hq
    refine iteT ⟨_, rfl, insM_at g2 rfl, SX.S l, k + 1, g2, ok.sl, ok.nx _, by decide +kernel, fun _ => ?_, fun z => absurd (nx_eq k1 |>.mpr (by rw [e1.1]; exact h41)) z⟩
    exact ⟨by decide, dn_refl (hq _ (o1.trans Oth.up) up_same)⟩
  | false =>
  rw [h41, if_neg (by decide)] at hq
  refine iteF (snext_eq ?_)
  refine ⟨_, rfl, isL_ref p2, _, rfl, insM_at g2 rfl, _, rfl, l, k + 1, m, by omega, by omega, g2, ok, ?_⟩
  rw [e1.1]
  cases er : rdT m r with
  | bad q =>
    rw [er] at hq
    intro G3 o3
    refine ⟨_, fun _ _ e => e, ?_⟩
    rw [show k + 1 + q = k + (q + 1) by omega]
    exact hq _ (o1.trans o3)
  | ok d q =>
  rw [er] at hq
  dsimp only at hq
  intro G3 o3 g3
  have lq := rdT_le _ _ _ _ er
  have lr : r.length + (k + 1) = l.length := by
    have := congrArg List.length e1.1
    rw [List.length_drop] at this
    omega
  have p3 := o3 p _ pa p2
  refine ⟨[], p3, by decide, ?_⟩
  dsimp only
  have dr : ∀ j, l.drop (k + 1 + j) = r.drop j := fun j => by rw [← e1.1, List.drop_drop]
  refine sseq_cut (fun σ G' => ∃ j acc f, (l.drop (k + j)).length < f ∧ hdP (fun c => decide (c = 44)) (l.drop (k + j)) = false ∧ RdO l k a G ((rdW (rdT m) f acc (l.drop (k + j))).sh j) Q E ∧ G' a = some (rdr (SX.S l) (k + j)) ∧ G' p = some (.lst acc) ∧ Oth a G G' ∧ acc.length ≤ sizeLine ∧ σ = [some (.ref a), some (.int ((m + 1 : Nat) : Int)), some (.ref p)]) (fun N hN => ?_) ?_
  · refine whN_inv (fun f σ G' => ∃ j acc, (l.drop (k + j)).length < f ∧ k + j ≤ l.length ∧ RdO l k a G ((rdW (rdT m) f acc (l.drop (k + j))).sh j) Q E ∧ G' a = some (rdr (SX.S l) (k + j)) ∧ G' p = some (.lst acc) ∧ Oth a G G' ∧ acc.length ≤ j ∧ σ = [some (.ref a), some (.int ((m + 1 : Nat) : Int)), some (.ref p)]) ?_ (n := r.length + 1) ⟨1 + q, [d], ?_, by omega, ?_, ?_, up_same, ?_, ?_, rfl⟩
    · rintro f σ G' N' ⟨j, acc, lf, lj, hr, ga, gp, o, la, rfl⟩ hN'
      refine ⟨_, rfl, insM_at ga rfl, SX.S l, k + j, ga, ok.sl, eqOk_S _ _, _, rfl, ?_⟩
      rw [nxD "," 44 k2]
      cases h44 : hdP (fun c => decide (c = 44)) (l.drop (k + j)) with
      | false => exact iteF (hN _ _ ⟨j, acc, f, lf, h44, hr, ga, gp, o, by have : sizeLine = 16777216 := rfl; omega, rfl⟩)
      | true =>
        obtain ⟨f, rfl⟩ : ∃ y, f = y + 1 := ⟨f - 1, by omega⟩
        cases ed : l.drop (k + j) with
        | nil => rw [ed] at h44; cases h44
        | cons c r2 =>
          have : c = 44 := by rw [ed] at h44; exact of_decide_eq_true h44
          subst this
          have e2 := drop_cons ed
          rw [ed, rdW_c, if_pos rfl] at hr
          refine iteT ⟨_, rfl, insM_at ga rfl, SX.S l, k + j, ga, ok.sl, ok.nx _, by decide +kernel, fun _ => ?_, fun z => absurd (nx_eq k2 |>.mpr h44) z⟩
          have gp' : up G' a (rdr (SX.S l) (k + j + 1)) p = some (.lst acc) := by rw [up_ne pa]; exact gp
          refine ⟨_, rfl, isL_ref gp', _, rfl, insM_at up_same rfl, _, rfl, l, k + j + 1, m, by omega, by omega, up_same, ok, ?_⟩
          rw [e2.1]
          cases et : rdT m r2 with
          | bad y =>
            rw [et] at hr
            intro G4 o4
            refine ⟨_, fun _ _ e => e, ?_⟩
            rw [show k + j + 1 + y = k + (y + 1 + j) by omega]
            exact hr _ (o.trans (Oth.up.trans o4))
          | ok d2 y =>
            rw [et] at hr
            dsimp only at hr
            rw [sh_sh] at hr
            have ly := rdT_le _ _ _ _ et
            have l2 : r2.length + (k + j + 1) = l.length := by
              have := congrArg List.length e2.1
              rw [List.length_drop] at this
              omega
            intro G4 o4 g4
            have dr2 : l.drop (k + (j + (y + 1))) = r2.drop y := by rw [← e2.1, List.drop_drop]; congr 1; omega
            have lf2 : r2.length < f := by rw [ed] at lf; simpa using lf
            refine ⟨acc, o4 p _ pa gp', by have : sizeLine = 16777216 := rfl; omega, ?_⟩
            refine hN' f _ _ (by omega) ⟨j + (y + 1), acc ++ [d2], by rw [dr2, List.length_drop]; omega, by omega, by rw [dr2]; exact hr, ?_, up_same, ?_, by rw [List.length_append, List.length_singleton]; omega, rfl⟩
            · rw [up_ne ap, g4, show k + j + 1 + y = k + (j + (y + 1)) by omega]
            · exact (o.trans (Oth.up.trans o4)).new np
    · rw [show k + (1 + q) = k + 1 + q by omega, dr, List.length_drop]; omega
    · rw [show k + (1 + q) = k + 1 + q by omega, dr, show 1 + q = q + 1 by omega]; exact hq
    · rw [up_ne ap, g3, show k + 1 + q = k + (1 + q) by omega]
    · exact (o1.trans o3).new np
    · show 1 ≤ 1 + q; omega
  · rintro σ G' ⟨j, acc, f, lf, h44, hr, ga, gp, o, la, rfl⟩
    obtain ⟨f, rfl⟩ : ∃ y, f = y + 1 := ⟨f - 1, by omega⟩
    refine ⟨_, rfl, insM_at ga rfl, SX.S l, k + j, ga, ok.sl, ok.nx _, by decide +kernel, fun z => ?_, fun z => ?_⟩
    · have z := (nx_eq k1).mp z
      cases ed : l.drop (k + j) with
      | nil => rw [ed] at z; cases z
      | cons c r2 =>
        have : c = 41 := by rw [ed] at z; exact of_decide_eq_true z
        subst this
        rw [ed, rdW_c, if_neg (by decide), if_pos rfl] at hr
        refine ⟨_, rfl, acc, ?_, dn_refl (hr _ (o.trans Oth.up) ?_)⟩
        · exact sq_ref (by rw [up_ne pa]; exact gp)
        · rw [up_same, show k + j + 1 = k + (1 + j) by omega]
    · have z : ¬ hdP (fun c => decide (c = 41)) (l.drop (k + j)) = true := fun y => z ((nx_eq k1).mpr y)
      have hb : rdW (rdT m) (f + 1) acc (l.drop (k + j)) = .bad 0 := by
        cases ed : l.drop (k + j) with
        | nil => rfl
        | cons c r2 =>
          rw [ed] at z h44
          rw [rdW_c, if_neg (of_decide_eq_false h44), if_neg (fun y => z (decide_eq_true y))]
      rw [hb] at hr
      have hr := hr _ o
      rw [Nat.zero_add] at hr
      exact ⟨_, fun _ _ e => e, hr⟩
/-! #### ThingReader.thing -/

def t_ThingReader_thing (sp : Sp3) : TS3 :=
    (sseq (sif (tb3 (t2 eq3 (tmth (Str.ofString "ThingReader") (Str.ofString "next_sign") sp_ThingReader_next_sign (tv 0) anil) (tc (.str (Str.ofString "("))))) (sret (tmth (Str.ofString "ThingReader") (Str.ofString "several") sp (tv 0) (acons (tv 1) anil))) snext)
    (sseq (sif (tb3 (t2 eq3 (tmth (Str.ofString "ThingReader") (Str.ofString "next_sign") sp_ThingReader_next_sign (tv 0) anil) (tc (.str (Str.ofString "-"))))) (sret (tmth (Str.ofString "ThingReader") (Str.ofString "below_or_none") sp_ThingReader_below_or_none (tv 0) anil)) snext)
    (sret (tif (tb3 (tmth (Str.ofString "ThingReader") (Str.ofString "is_next") sp_ThingReader_is_next (tv 0) (acons (tc (.str (Str.ofString "abcdefghijklmnopqrstuvwxyz"))) anil))) (tmth (Str.ofString "ThingReader") (Str.ofString "word") sp_ThingReader_word (tv 0) anil) (tmth (Str.ofString "ThingReader") (Str.ofString "number") sp_ThingReader_number (tv 0) (acons (tc (.bl true)) anil))))))
set_option maxHeartbeats 4000000 in
theorem vc_ThingReader_thing (n : Nat) (ds : List D) (G : Gp) (Q : QK) (E : EK) (h : sp_ThingReader_thing (n + 1) ds G Q E) : t_ThingReader_thing (sp_ThingReader_several n) (fnEnds Q E) (start3 N_ThingReader_thing ds) G := by
  unfold sp_ThingReader_thing at h
  split at h
  case h_2 => exact h.elim
  rename_i n0 a i en
  injection en with en
  subst en
  obtain ⟨l, k, m, rfl, lm, g, ok, hq⟩ := h
  have kf : inS (Str.ofString "abcdefghijklmnopqrstuvwxyz") = isLt := inLT
  have k0 : Str.ofString "(" = SX.S [40] := by decide +kernel
  have k1 : Str.ofString "-" = SX.S [45] := by decide +kernel
  obtain ⟨n, rfl⟩ : ∃ j, n = j + 1 := ⟨n - 1, by omega⟩
  refine ⟨_, rfl, insM_at g rfl, SX.S l, k, g, ok.sl, eqOk_S _ _, _, rfl, ?_⟩
  cases e : l.drop k with
  | nil =>
    rw [nx_n e, eqD_S "(" [40] [] k0]
    refine iteF (snext_eq ⟨_, rfl, insM_at g rfl, SX.S l, k, g, ok.sl, eqOk_S _ _, _, rfl, ?_⟩)
    rw [nx_n e, eqD_S "-" [45] [] k1]
    refine iteF (snext_eq ⟨_, rfl, insM_at g rfl, l, k, g, ok, _, rfl, ?_⟩)
    rw [kf, e]
    refine iteF ⟨_, rfl, insM_at g rfl, l, k, g, ok, ?_⟩
    rw [e, rdT_nil] at hq
    rw [e]
    exact ⟨_, fun _ _ e => e, hq _ Oth.refl⟩
  | cons c r =>
    have ne := nx_c e
    rw [ne, eqD_S "(" [40] [c] k0]
    by_cases h40 : c = 40
    · subst h40
      refine iteT ⟨_, rfl, insM_at g rfl, _, rfl, l, k, m, r, rfl, by omega, g, ok, e, ?_⟩
      unfold RdO at hq ⊢
      split at hq
      · exact fun G' o => ⟨_, fun _ _ e => e, hq G' o⟩
      · exact fun G' o eg => dn_refl (hq G' o eg)
    · rw [decide_eq_false (show ¬ [c] = [40] by simpa using h40)]
      have er : rdT m (l.drop k) = itm (l.drop k) := by
        rw [e]
        cases m with
        | zero => rw [rdT_0, if_neg h40]
        | succ m => rw [rdT_c, if_neg h40]
      rw [er] at hq
      refine iteF (snext_eq ⟨_, rfl, insM_at g rfl, SX.S l, k, g, ok.sl, eqOk_S _ _, _, rfl, ?_⟩)
      rw [ne, eqD_S "-" [45] [c] k1]
      by_cases h45 : c = 45
      · subst h45
        refine iteT ⟨_, rfl, insM_at g rfl, l, k, r, g, ok, e, ?_⟩
        unfold RdO at hq ⊢
        split at hq
        · exact fun G' o => ⟨_, fun _ _ e => e, hq G' o⟩
        · exact fun G' o eg => dn_refl (hq G' o eg)
      · rw [decide_eq_false (show ¬ [c] = [45] by simpa using h45)]
        refine iteF (snext_eq ⟨_, rfl, insM_at g rfl, l, k, g, ok, _, rfl, ?_⟩)
        rw [kf, e]
        rw [e, itm_c] at hq
        cases hl : isLt c with
        | true =>
          rw [if_pos hl] at hq
          rw [show hdP isLt (c :: r) = true from hl]
          refine iteT ⟨_, rfl, insM_at g rfl, l, k, g, ok, dn_refl ?_⟩
          rw [e]
          exact hq _ Oth.up up_same
        | false =>
          rw [if_neg (by rw [hl]; decide), if_neg h45] at hq
          rw [show hdP isLt (c :: r) = false from hl]
          refine iteF ⟨_, rfl, insM_at g rfl, l, k, g, ok, ?_⟩
          rw [e]
          cases en : numR true (c :: r) with
          | none => rw [en] at hq; exact ⟨_, fun _ _ e => e, hq _ Oth.refl⟩
          | some x => obtain ⟨v, j⟩ := x; rw [en] at hq; exact dn_refl (hq _ Oth.up up_same)
/-! #### read_thing -/

def sp_read_thing : Sp3 := fun ds G Q E => match ds with | [d] => kn OC d = true ∧ (∀ l, d = .str (SX.S l) → okL l ∧ (match finT l.length (rdT 20 l) with | .bad p => ∀ G', (∀ b o, G b = some o → G' b = some o) → E (badT p) G' | .ok d _ => ∀ G', (∀ b o, G b = some o → G' b = some o) → Q d G')) ∧ ((∀ s, d ≠ .str s) → E ⟨Str.ofString "BadThing", some (Str.ofString "place", .int (-1))⟩ G) | _ => False
def t_read_thing : TS3 :=
    (sseq (sif (Tnot (tb3 (tisi (isT OC .str) (tv 0)))) (sraisef (Str.ofString "BadThing") (Str.ofString "place") (tneg (tc (.int 1)))) snext)
    (sseq (sset 1 (tmk (Str.ofString "ThingReader") sp_ThingReader___init__ (acons (tv 0) anil)))
    (sseq (sset 2 (tmth (Str.ofString "ThingReader") (Str.ofString "thing") (sp_ThingReader_thing 44) (tv 1) (acons (tc (.int 20)) anil)))
    (sseq (sif (tb3 (t2 lt3 (tfld (Str.ofString "ThingReader") (Str.ofString "at") (tv 1)) (tcb bLen (acons (tv 0) anil)))) (sdrop (tmth (Str.ofString "ThingReader") (Str.ofString "refuse") sp_ThingReader_refuse (tv 1) anil)) snext)
    (sret (tv 2))))))
set_option maxHeartbeats 4000000 in
theorem vc_read_thing (ds : List D) (G : Gp) (Q : QK) (E : EK) (h : sp_read_thing ds G Q E) : t_read_thing (fnEnds Q E) (start3 N_read_thing ds) G := by
  unfold sp_read_thing at h
  split at h
  case h_2 => exact h.elim
  rename_i d
  obtain ⟨kd, h1, h2⟩ := h
  refine ⟨_, rfl, isi_use (P := fun b => _) kd ⟨_, rfl, ?_⟩⟩
  by_cases es : ∃ s, d = .str s
  · obtain ⟨s, rfl⟩ := es
    obtain ⟨ok, hq⟩ := h1 s.cps.toList (by rw [SX.S_tl])
    generalize hl : s.cps.toList = l at ok hq
    have hs : s = SX.S l := by rw [← hl, SX.S_tl]
    subst hs
    clear h1 h2 hl
    refine iteF (snext_eq ⟨_, rfl, fun a na => ⟨up_same, rfl, ?_⟩⟩)
    rw [up_up]
    refine ⟨_, rfl, insM_at up_same rfl, l, 0, 20, rfl, by decide, up_same, ok, ?_⟩
    rw [List.drop_zero]
    have sub : ∀ G', Oth a (up G a (rdr (SX.S l) 0)) G' → ∀ b o, G b = some o → G' b = some o := fun G' o b w eb => by
      have hb : b ≠ a := fun z => by rw [z, na] at eb; cases eb
      exact o b w hb (by rw [up_ne hb]; exact eb)
    cases er : rdT 20 l with
    | bad p =>
      rw [er] at hq
      intro G' o
      rw [Nat.zero_add]
      exact ⟨_, fun _ _ e => e, hq G' (sub G' o)⟩
    | ok d n =>
      rw [er] at hq
      intro G' o ga
      rw [Nat.zero_add] at ga
      refine ⟨_, rfl, _, fld_at ga rfl, _, rfl, ok.sl, _, rfl, ?_⟩
      rw [SX.S_len]
      have hq : (match (if n < l.length then RT.bad n else RT.ok d n) with | .bad p => ∀ G', (∀ b o, G b = some o → G' b = some o) → E (badT p) G' | .ok d _ => ∀ G', (∀ b o, G b = some o → G' b = some o) → Q d G') := hq
      by_cases hn : n < l.length
      · rw [if_pos hn] at hq
        refine ite_b (fun _ => ?_) (fun z => ?_)
        · exact ⟨_, rfl, insM_at ga rfl, SX.S l, n, ga, _, fun _ _ e => e, hq _ (sub G' o)⟩
        · have : ¬ (n : Int) < (l.length : Nat) := of_decide_eq_false z
          omega
      · rw [if_neg hn] at hq
        refine ite_b (fun z => ?_) (fun z => ?_)
        · have : (n : Int) < (l.length : Nat) := of_decide_eq_true z
          omega
        · exact snext_eq ⟨_, rfl, dn_refl (hq _ (sub G' o))⟩
  · obtain ⟨e1, e2⟩ := isStr_no es
    rw [e1]
    exact iteT ⟨_, rfl, _, fun _ _ e => e, h2 fun s z => es ⟨s, z⟩⟩
/-! #### _law_told -/

def sp__law_told : Sp3 := fun ds G Q E => match ds with | [d] => kn OC d = true ∧ (∀ l, d = .str (SX.S l) → okL l ∧ ∀ G', (∀ b o, G b = some o → G' b = some o) → Q (rtD (finT l.length (rdT 20 l))) G') ∧ ((∀ s, d ≠ .str s) → Q (.tup [.str (Str.ofString "bad"), .int (-1)]) G) | _ => False
def t__law_told : TS3 :=
    (sseq (sset 1 (ttup (acons (tc (.str (Str.ofString "other"))) (acons (tc .non) anil))))
    (sseq (stry (exmOf EXM) (sset 1 (ttup (acons (tc (.str (Str.ofString "let"))) (acons (tcall sp_read_thing (acons (tv 0) anil)) anil)))) [⟨(Str.ofString "BadThing"), some 2, fun _ => (sset 1 (tif (Tand (tb3 (tiseF EXI false (Str.ofString "ForestError") (tv 2))) (tb3 (tiseF EXI true (Str.ofString "ValueError") (tv 2)))) (ttup (acons (tc (.str (Str.ofString "bad"))) (acons (txf (Str.ofString "BadThing") (Str.ofString "place") (tv 2)) anil))) (tv 1)))⟩])
    (sret (tv 1))))
set_option maxHeartbeats 4000000 in
theorem vc__law_told (ds : List D) (G : Gp) (Q : QK) (E : EK) (h : sp__law_told ds G Q E) : t__law_told (fnEnds Q E) (start3 N__law_told ds) G := by
  unfold sp__law_told at h
  split at h
  case h_2 => exact h.elim
  rename_i d
  obtain ⟨kd, h1, h2⟩ := h
  have x1 : exmOf EXM (Str.ofString "BadThing") (Str.ofString "BadThing") = some true := by decide +kernel
  have x2 : exiOf EXI (Str.ofString "BadThing") (Str.ofString "ForestError") false = some true := by decide +kernel
  have x3 : exiOf EXI (Str.ofString "BadThing") (Str.ofString "ValueError") true = some true := by decide +kernel
  refine ⟨Nat.le_of_ble_eq_true rfl, ?_⟩
  dsimp only
  refine ⟨_, rfl, kd, fun l e => ?_, fun hn => ?_⟩
  · obtain ⟨ok, hq⟩ := h1 l e
    refine ⟨ok, ?_⟩
    cases er : finT l.length (rdT 20 l) with
    | bad p =>
      rw [er] at hq
      intro G' o
      refine ⟨true, x1, iteT fun gx sx => ?_⟩
      exact ⟨_, rfl, _, true, .inr ⟨_, _, rfl⟩, x2, _, rfl, iteT ⟨_, rfl, _, true, .inr ⟨_, _, rfl⟩, x3, _, rfl, iteT ⟨_, rfl, _, rfl, Nat.le_of_ble_eq_true rfl, gx, SX3 (sx_0 sx) rfl, _, rfl, dn_refl (hq G' o)⟩⟩⟩
    | ok x n =>
      rw [er] at hq
      intro G' o
      exact ⟨Nat.le_of_ble_eq_true rfl, _, rfl, dn_refl (hq G' o)⟩
  · refine ⟨true, x1, iteT fun gx sx => ?_⟩
    exact ⟨_, rfl, _, true, .inr ⟨_, _, rfl⟩, x2, _, rfl, iteT ⟨_, rfl, _, true, .inr ⟨_, _, rfl⟩, x3, _, rfl, iteT ⟨_, rfl, _, rfl, Nat.le_of_ble_eq_true rfl, gx, SX3 (sx_0 sx) rfl, _, rfl, dn_refl (h2 hn)⟩⟩⟩
/-! #### _law_written -/

def sp__law_written : Nat → Sp3 := fun n ds G Q E => match n, ds with | n + 1, [d] => ∃ m : Nat, m ≤ n ∧ kn OC d = true ∧ okW m d = true ∧ (wr m d).length ≤ 1000000 ∧ Q (.str (SX.S (wr m d))) G | _, _ => False
def t__law_written (sp : Sp3) : TS3 :=
    (sseq (sif (tb3 (t2 (is3 false) (tv 0) (tc .non))) (sret (tc (.str (Str.ofString "-")))) snext)
    (sseq (sif (tb3 (tisi (isT OC .bl) (tv 0))) (sret (tif (tb3 (tv 0)) (tc (.str (Str.ofString "yes"))) (tc (.str (Str.ofString "no"))))) snext)
    (sseq (sif (tb3 (tisi (isT OC .tup) (tv 0))) (sret (t2 (add3 false) (t2 (add3 false) (tc (.str (Str.ofString "("))) (tmeth isS mJoin (tc (.str (Str.ofString ","))) (acons (tlc false (iseq (tv 0)) (.n 1) Tyes (tcall sp (acons (tv 1) anil)) [1]) anil))) (tc (.str (Str.ofString ")"))))) snext)
    (sret (tcb bStrA (acons (tv 0) anil))))))
set_option maxHeartbeats 4000000 in
theorem vc__law_written (n : Nat) (ds : List D) (G : Gp) (Q : QK) (E : EK) (h : sp__law_written (n + 1) ds G Q E) : t__law_written (sp__law_written n) (fnEnds Q E) (start3 N__law_written ds) G := by
  unfold sp__law_written at h
  split at h
  case h_2 => exact h.elim
  rename_i n' d e
  cases e
  obtain ⟨m, lm, kd, ow, lw, hq⟩ := h
  have c0 : Str.ofString "-" = SX.S [45] := by decide +kernel
  have c1 : Str.ofString "yes" = SX.S yesL := by decide +kernel
  have c2 : Str.ofString "no" = SX.S noL := by decide +kernel
  have c3 : Str.ofString "(" = SX.S [40] := by decide +kernel
  have c4 : Str.ofString ")" = SX.S [41] := by decide +kernel
  have c5 : Str.ofString "," = SX.S [44] := by decide +kernel
  cases d with
  | non =>
    rw [wr_atom.1, ← c0] at hq
    exact ⟨_, rfl, _, rfl, iteT (dn_refl hq)⟩
  | bl b =>
    rw [wr_atom.2.1] at hq
    refine ⟨_, rfl, _, rfl, iteF (snext_eq ⟨_, rfl, isi_use (P := fun b => _) kd ⟨_, rfl, iteT ⟨_, rfl, _, rfl, ?_⟩⟩⟩)⟩
    cases b with
    | false => exact iteF (dn_refl (by rw [c2]; exact hq))
    | true => exact iteT (dn_refl (by rw [c1]; exact hq))
  | tup xs =>
    refine ⟨_, rfl, _, rfl, iteF (snext_eq ⟨_, rfl, isi_use (P := fun b => _) kd ⟨_, rfl, iteF (snext_eq ⟨_, rfl, isi_use (P := fun b => _) kd ⟨_, rfl, iteT ?_⟩⟩)⟩⟩)⟩
    cases m with
    | zero => cases ow
    | succ m =>
    obtain ⟨n, rfl⟩ : ∃ j, n = j + 1 := ⟨n - 1, by omega⟩
    have ow : xs.all (okW m) = true := ow
    rw [List.all_eq_true] at ow
    have el : (wr (m + 1) (.tup xs)).length = (TL.joinL [44] (xs.map (wr m))).length + 2 := by
      show (40 :: (_ ++ [41])).length = _
      rw [List.length_cons, List.length_append]; rfl
    rw [el] at lw
    have js := joinL_sum (xs.map (wr m))
    have jp : xs.length ≤ 2000000 := by
      rw [List.length_map] at js; omega
    refine ⟨⟨_, rfl⟩, _, rfl, _, rfl, lc_pure (fun x => some (.str (SX.S (wr m x)))) (fun x mx G' _ R hR => ?_) (fun _ _ => trivial) (by have : sizeLine = 16777216 := rfl; omega) ?_⟩
    · have lx := joinL_mem (xs.map (wr m)) _ (List.mem_map.mpr ⟨x, mx, rfl⟩)
      refine ⟨_, rfl, m, by omega, ?_, ow x mx, by omega, hR⟩
      have := ow x mx
      cases x <;> first | rfl | (cases m <;> cases this)
    · rw [fm_map]
      refine ⟨Str.ofString ",", _, xs.map fun x => SX.S (wr m x), rfl, rfl, ?_, ?_, ?_⟩
      · show some _ = some _
        rw [List.map_map]; rfl
      · rw [c5, SX.S_len, List.length_map, List.length_singleton]
        have e : (xs.map fun x => SX.S (wr m x)).map (·.length) = (xs.map (wr m)).map (·.length) := by
          rw [List.map_map, List.map_map]
          exact List.map_congr_left fun x _ => SX.S_len _
        rw [e, List.length_map] at *
        omega
      · have e : (xs.map fun x => SX.S (wr m x)) = (xs.map (wr m)).map SX.S := by rw [List.map_map]; rfl
        rw [e, c5, SX.join_S, c3, c4]
        have sz : sizeLine = 16777216 := rfl
        refine ⟨by rw [SX.S_len, SX.S_len]; show 1 + _ ≤ _; omega, ?_⟩
        rw [SX.S_cat]
        refine ⟨by rw [SX.S_len, SX.S_len, List.length_append]; show 1 + _ + 1 ≤ _; omega, dn_refl ?_⟩
        rw [SX.S_cat]
        exact hq
  | int i =>
    rw [wr_atom.2.2.1, ← numI_S] at hq
    have hl := log_ok (okW_int ow)
    refine ⟨_, rfl, _, rfl, iteF (snext_eq ⟨_, rfl, isi_use (P := fun b => _) kd ⟨_, rfl, iteF (snext_eq ⟨_, rfl, isi_use (P := fun b => _) kd ⟨_, rfl, iteF (snext_eq ?_)⟩⟩)⟩⟩)⟩
    exact ⟨_, rfl, .inr ⟨hl, dn_refl hq⟩⟩
  | str s =>
    rw [wr_atom.2.2.2, SX.S_tl] at hq
    refine ⟨_, rfl, _, rfl, iteF (snext_eq ⟨_, rfl, isi_use (P := fun b => _) kd ⟨_, rfl, iteF (snext_eq ⟨_, rfl, isi_use (P := fun b => _) kd ⟨_, rfl, iteF (snext_eq ?_)⟩⟩)⟩⟩)⟩
    exact ⟨_, rfl, .inl ⟨_, rfl, dn_refl hq⟩⟩
  | _ => cases m <;> cases ow
/-! #### law -/

def sp_law : Sp3 := fun ds G Q E => match ds with
  | [.sl xs] => (∀ x ∈ xs, ∃ n : Int, x = .int n) ∧ xs.length ≤ 63 ∧ ∀ G', Q (.bl true) G'
  | _ => False
def t_law : TS3 :=
    (sseq (sset 1 (tcall sp__law_hand (acons (tv 0) anil)))
    (sseq (sset 2 (tlst false (acons (tlst false anil) (acons (tlst false (acons (tc (.int 1)) anil)) (acons (tc .emp) (acons (tc (.str (Str.ofString ""))) (acons (tc (.str (Str.ofString "A"))) (acons (tc (.str (Str.ofString "a b"))) (acons (tc (.str (Str.ofString "yes"))) (acons (tc (.str (Str.ofString "no"))) (acons (t2 mul3S (tc (.str (Str.ofString "a"))) (tc (.int 21))) (acons (tc (.str (Str.ofString "a1"))) (acons (tc (.str (Str.ofString "-"))) (acons (ttup (acons (tc (.int 1)) (acons (tlst false anil) anil))) (acons (ttup (acons (tc (.str (Str.ofString "yes"))) anil)) (acons (ttup (acons (ttup anil) (acons (ttup (acons (tc (.str (Str.ofString "a"))) (acons (tc (.str (Str.ofString "B"))) anil))) anil))) anil))))))))))))))))
    (sseq (sfor (irng1 (acons (tc (.int 8)) anil)) (.n 3) (sseq (sset 4 (tcall (sp__law_drawn_thing 8) (acons (tv 1) (acons (tc (.int 5)) anil))))
    (sseq (sif (tb3 (t2 eq3 (tcall sp__law_draw (acons (tv 1) (acons (tc (.int 5)) anil))) (tc (.int 0)))) (sset 4 (tcall sp__law_nested (acons (tv 1) (acons (tc (.int 22)) anil)))) (sif (tb3 (t2 eq3 (tcall sp__law_draw (acons (tv 1) (acons (tc (.int 5)) anil))) (tc (.int 0)))) (sset 4 (tcall sp__law_some (acons (tv 1) (acons (t2 (add3 false) (tv 2) (tlst false (acons (tcall sp__law_deep (acons (tc (.int 0)) anil)) (acons (tcall sp__law_deep (acons (tc (.int 1)) anil)) (acons (tfz (tmk (Str.ofString "Forest") sp_Forest___init__ (acons (ttup (acons (tc .non) anil)) (acons (ttup (acons (tc (.int 0)) anil)) anil)))) (acons (ttup (acons (tfz (tmk (Str.ofString "Forest") sp_Forest___init__ (acons (ttup (acons (tc .non) anil)) (acons (ttup (acons (tc (.int 0)) anil)) anil)))) anil)) anil)))))) anil)))) snext))
    (sseq (sset 5 (tcall (sp__law_can_be 24) (acons (tv 4) (acons (tc (.int 0)) anil))))
    (sseq (sif (tb3 (t2 ne3 (tcall sp__law_given (acons (tv 4) anil)) (tif (tb3 (tv 5)) (tcall (sp__law_written 24) (acons (tv 4) anil)) (tc (.str (Str.ofString "(NoThing)")))))) (sret (tc (.bl false))) snext)
    (sseq (sset 6 (tif (tb3 (tv 5)) (tcall (sp__law_written 24) (acons (tv 4) anil)) (tc (.str (Str.ofString "(1,(a,-),yes)")))))
    (sseq (sif (Tand (tb3 (tv 5)) (Tnot (tb3 (tcall (sp__law_is 26) (acons (tcall sp__law_told (acons (tv 6) anil)) (acons (ttup (acons (tc (.str (Str.ofString "let"))) (acons (tv 4) anil))) anil)))))) (sret (tc (.bl false))) snext)
    (sseq (sfor (irng1 (acons (tc (.int 4)) anil)) (.n 7) (sseq (sset 6 (tcall sp__law_spoilt (acons (tv 1) (acons (tv 6) anil))))
    (sif (Tnot (tb3 (tcall (sp__law_is 26) (acons (tcall sp__law_told (acons (tv 6) anil)) (acons (tcall sp__law_read (acons (tv 6) anil)) anil))))) (sret (tc (.bl false))) snext)))
    (sseq (sset 8 (tcall sp__law_some (acons (tv 1) (acons (tlst false (acons (tc .non) (acons (tc (.int 0)) (acons (tlst false (acons (tc (.str (Str.ofString "a"))) anil)) (acons (ttup (acons (tc (.str (Str.ofString "a"))) anil)) (acons (tc .emp) (acons (tc (.bl true)) (acons (tcall sp__law_deep (acons (tc (.int 0)) anil)) (acons (tcall sp__law_deep (acons (tc (.int 1)) anil)) (acons (tfz (tmk (Str.ofString "Forest") sp_Forest___init__ (acons (ttup (acons (tc .non) anil)) (acons (ttup (acons (tc (.int 0)) anil)) anil)))) anil)))))))))) anil))))
    (sif (Tnot (tb3 (tcall (sp__law_is 26) (acons (tcall sp__law_told (acons (tv 8) anil)) (acons (ttup (acons (tc (.str (Str.ofString "bad"))) (acons (tneg (tc (.int 1))) anil))) anil))))) (sret (tc (.bl false))) snext))))))))))
    (sret (tc (.bl true))))))
set_option maxHeartbeats 4000000 in
theorem vc_law (ds : List D) (G : Gp) (Q : QK) (E : EK) (h : sp_law ds G Q E) : t_law (fnEnds Q E) (start3 N_law ds) G := by
  unfold sp_law at h
  split at h
  case h_2 => exact h.elim
  rename_i xs
  obtain ⟨hx, hl, hq⟩ := h
  refine ⟨_, rfl, hx, hl, fun p cs i c s t np ok => ?_⟩
  have k0 : Str.ofString "(1,(a,-),yes)" = SX.S [40,49,44,40,97,44,45,41,44,121,101,115,41] := by decide +kernel
  generalize hod : (.fl [.fl [], .fl [.int 1], .emp, .str (Str.ofString ""), .str (Str.ofString "A"), .str (Str.ofString "a b"), .str (Str.ofString "yes"), .str (Str.ofString "no"), .str (repS (Str.ofString "a") 21), .str (Str.ofString "a1"), .str (Str.ofString "-"), .tup [.int 1, .fl []], .tup [.str (Str.ofString "yes")], .tup [.tup [], .tup [.str (Str.ofString "a"), .str (Str.ofString "B")]]] : D) = od
  dsimp only
  refine sseq_cut (fun σ G' => G' = up G p (hnd cs i c s t) ∧ σ = [some (.sl xs), some (.ref p), some od, none, none, none, none, none, none]) (fun N hN => ?_) ?_
  · refine ⟨Nat.le_of_ble_eq_true rfl, Nat.le_of_ble_eq_true rfl, .inl ⟨_, 21, rfl, rfl, by decide, by decide +kernel, by decide +kernel, Nat.le_of_ble_eq_true rfl, Nat.le_of_ble_eq_true rfl, Nat.le_of_ble_eq_true rfl, Nat.le_of_ble_eq_true rfl, Nat.le_of_ble_eq_true rfl, Nat.le_of_ble_eq_true rfl, Nat.le_of_ble_eq_true rfl, ?_⟩⟩
    exact hN _ _ ⟨rfl, by rw [← hod]; rfl⟩
  rintro σ G1 ⟨rfl, rfl⟩
  have nin : ∀ {P : Prop}, (false = true → P) := fun z => by cases z
  refine ⟨8, rfl, by decide, by decide, forL_inv (fun _ σ G' => ∃ i c s t x3 x4 x5 x6 x7 x8, G' p = some (hnd cs i c s t) ∧ HOk cs i c ∧ σ = [some (.sl xs), some (.ref p), some od, x3, x4, x5, x6, x7, x8]) ?_ ?_ ⟨i, c, s, t, _, _, _, _, _, _, up_same, ok, rfl⟩⟩
  · rintro j x σ G' N ex ⟨i, c, s, t, x3, x4, x5, x6, x7, x8, g, ok, rfl⟩ hN
    refine ⟨trivial, _, rfl, 5, rfl, by decide, cs, i, c, s, t, g, ok, fun d i c s t o1 l1 ok => ?_⟩
    have D1 : Drw d := Drw.of o1 (Nat.le_trans l1 (by decide))
    clear o1 l1 g
    have g : up G' p (hnd cs i c s t) p = some (hnd cs i c s t) := up_same
    generalize up G' p (hnd cs i c s t) = G1 at g ⊢
    dsimp only
    refine sseq_cut (fun σ G2 => ∃ d i c s t, Drw d ∧ G2 p = some (hnd cs i c s t) ∧ HOk cs i c ∧ σ = [some (.sl xs), some (.ref p), some od, some x, some d, x5, x6, x7, x8]) (fun M hM => ?_) ?_
    · refine ⟨_, rfl, cs, i, c, s, t, g, ok, by decide, by decide, fun r i c s t r0 r1 ok => ⟨rfl, _, rfl, ite_b (fun _ => ?_) (fun _ => ?_)⟩⟩
      · refine ⟨_, rfl, cs, i, c, s, t, up_same, ok, fun d i c s t D2 ok => ?_⟩
        rw [up_up]
        exact hM _ _ ⟨d, i, c, s, t, D2, up_same, ok, rfl⟩
      · refine ⟨_, rfl, cs, i, c, s, t, up_same, ok, by decide, by decide, fun r i c s t r0 r1 ok => ⟨rfl, _, rfl, ite_b (fun _ => ?_) (fun _ => ?_)⟩⟩
        · rw [up_up]
          refine ⟨_, rfl, _, rfl, fun d1 a1 b1 _ d2 a2 b2 _ => ⟨Nat.le_of_ble_eq_true rfl, Nat.le_of_ble_eq_true rfl, fun f1 nf1 => ⟨up_same, fun fs1 => ⟨rfl, fz_ins up_same ?_⟩⟩⟩⟩
          rw [up_up, dl_up nf1]
          refine ⟨Nat.le_of_ble_eq_true rfl, Nat.le_of_ble_eq_true rfl, fun f2 nf2 => ⟨up_same, fun fs2 => ⟨rfl, fz_ins up_same ?_⟩⟩⟩
          rw [up_up, dl_up nf2]
          subst hod
          refine ⟨Nat.le_of_ble_eq_true rfl, Nat.le_of_ble_eq_true rfl, _, _, rfl, rfl, Nat.le_of_ble_eq_true rfl, cs, i, c, s, t, _, up_same, ok, rfl, (by intro z; cases z), Nat.le_of_ble_eq_true rfl, Nat.le_of_ble_eq_true rfl, fun d i c s t md ok => ?_⟩
          rw [up_up]
          refine hM _ _ ⟨d, i, c, s, t, ?_, up_same, ok, rfl⟩
          have md : d ∈ ([.fl [], .fl [.int 1], .emp, .str (Str.ofString ""), .str (Str.ofString "A"), .str (Str.ofString "a b"), .str (Str.ofString "yes"), .str (Str.ofString "no"), .str (repS (Str.ofString "a") 21), .str (Str.ofString "a1"), .str (Str.ofString "-"), .tup [.int 1, .fl []], .tup [.str (Str.ofString "yes")], .tup [.tup [], .tup [.str (Str.ofString "a"), .str (Str.ofString "B")]]] : List D) ++ [d1, d2, .ob (Str.ofString "Forest") (fs1.map (·.1)) (fs1.map (·.2)), .tup [.ob (Str.ofString "Forest") (fs2.map (·.1)) (fs2.map (·.2))]] := md
          simp only [List.cons_append, List.nil_append, List.mem_cons, List.not_mem_nil, or_false] at md
          rcases md with rfl | rfl | rfl | rfl | rfl | rfl | rfl | rfl | rfl | rfl | rfl | rfl | rfl | rfl | rfl | rfl | rfl | rfl
          all_goals first
            | exact Drw.c (by decide +kernel)
            | exact Drw.no a1 b1
            | exact Drw.no a2 b2
            | exact ⟨kkD_ob, fun z => nomatch z⟩
            | exact ⟨by show (true && (kkD 20 (.ob (Str.ofString "Forest") _ _) && true)) = true; rw [kkD_ob]; rfl, fun z => nomatch z⟩
        · rw [up_up]
          exact snext_eq (hM _ _ ⟨d, i, c, s, t, D1, up_same, ok, rfl⟩)
    rintro σ G2 ⟨d, i, c, s, t, Dd, g, ok, rfl⟩
    refine sseq_cut4 (fun σ G3 => ∃ w x4 x5, w.length ≤ 60000 ∧ (∀ c ∈ w, c < 1114112) ∧ G3 p = some (hnd cs i c s t) ∧ σ = [some (.sl xs), some (.ref p), some od, some x, x4, x5, some (.str (SX.S w)), x7, x8]) (fun M hM => ?_) ?_
    · refine ⟨_, rfl, 20, by decide, by decide, Dd.kk, ?_⟩
      dsimp only
      cases ec : canW 20 d with
      | false =>
        refine ⟨_, rfl, Dd.kk, fun _ => ?_, fun z => by rw [ec] at z; cases z⟩
        refine ⟨_, rfl, _, rfl, iteF ⟨eqOk_S _ _, _, rfl, ?_⟩⟩
        show if (!(Str.ofString "(NoThing)" == Str.ofString "(NoThing)")) = true then _ else _
        rw [beq_self_eq_true]
        refine iteF (snext_eq ⟨_, rfl, _, rfl, iteF ⟨_, rfl, _, rfl, iteF (iteF (snext_eq (hM _ _ ⟨[40,49,44,40,97,44,45,41,44,121,101,115,41], _, _, by decide, by decide, g, by rw [← k0]; rfl⟩)))⟩⟩)
      | true =>
        obtain ⟨h3, h4⟩ := Dd.w ec
        refine ⟨_, rfl, Dd.kk, (fun z => by rw [ec] at z; cases z), fun _ => ⟨h3, by omega, ?_⟩⟩
        refine ⟨_, rfl, _, rfl, iteT ⟨_, rfl, 20, by decide, kkD_kn Dd.kk, h3, by omega, eqOk_S _ _, _, rfl, ?_⟩⟩
        show if (!(SX.S (wr 20 d) == SX.S (wr 20 d))) = true then _ else _
        rw [beq_self_eq_true]
        refine iteF (snext_eq ⟨_, rfl, _, rfl, iteT ⟨_, rfl, 20, by decide, kkD_kn Dd.kk, h3, by omega, ?_⟩⟩)
        have ch : ∀ c ∈ wr 20 d, c < 1114112 := fun c hc => by have := wr_ch 20 d h3 c hc; omega
        refine ⟨_, rfl, _, rfl, iteT ⟨_, rfl, rfl, fun l' el => ?_, fun hs => absurd rfl (hs _)⟩⟩
        injection el with el
        have el := SX.S_inj el
        subst el
        refine ⟨⟨by omega, ch⟩, fun G4 sub => ?_⟩
        rw [rdT_back h3]
        have pl := rtD_plx (l := wr 20 d) (by omega)
        rw [rdT_back h3] at pl
        refine ⟨_, rfl, Nat.le_of_ble_eq_true rfl, rfl, pl, _, rfl, iteF (snext_eq (hM _ _ ⟨wr 20 d, _, _, h4, ch, sub _ _ g, rfl⟩))⟩
    rintro σ G3 ⟨w, x4, x5, lw, ch, g, rfl⟩
    refine sseq_cut (fun σ G4 => ∃ i c s t x4 x5 x6 x7, HOk cs i c ∧ G4 p = some (hnd cs i c s t) ∧ σ = [some (.sl xs), some (.ref p), some od, some x, x4, x5, x6, x7, x8]) (fun M hM => ?_) ?_
    · refine ⟨4, rfl, by decide, by decide, forL_inv (fun j σ G4 => ∃ w i c s t x7, w.length ≤ 60000 + 20 * j ∧ (∀ c ∈ w, c < 1114112) ∧ HOk cs i c ∧ G4 p = some (hnd cs i c s t) ∧ σ = [some (.sl xs), some (.ref p), some od, some x, x4, x5, some (.str (SX.S w)), x7, x8]) ?_ ?_ ⟨w, i, c, s, t, _, by omega, ch, ok, g, rfl⟩⟩
      · rintro j y σ G4 M' ey ⟨w, i, c, s, t, x7, lw, ch, ok, g, rfl⟩ hM'
        have j4 : j < 4 := by
          have := (List.getElem?_eq_some_iff.mp ey).1
          rw [List.length_map, List.length_range] at this
          omega
        refine ⟨trivial, _, rfl, _, rfl, w, cs, i, c, s, t, rfl, by omega, ch, g, ok, fun l2 i c s t ll lc2 ok => ?_⟩
        have okl : okL l2 := ⟨by omega, lc2⟩
        refine ⟨_, rfl, rfl, fun l' el => ?_, fun hs => absurd rfl (hs _)⟩
        injection el with el
        have el := SX.S_inj el
        subst el
        refine ⟨okl, fun G5 sub5 => ?_⟩
        refine ⟨_, rfl, l2, rfl, okl, fun G6 sub6 => ?_⟩
        exact ⟨rfl, rtD_plx okl.len, _, rfl, iteF (snext_eq (hM' _ _ ⟨l2, i, c, s, t, _, by omega, lc2, ok, sub6 _ _ (sub5 _ _ up_same), rfl⟩))⟩
      · rintro σ G4 ⟨w, i, c, s, t, x7, lw, ch, ok, g, rfl⟩
        exact ⟨trivial, hM _ _ ⟨i, c, s, t, _, _, _, _, ok, g, rfl⟩⟩
    rintro σ G4 ⟨i, c, s, t, x4, x5, x6, x7, ok, g, rfl⟩
    refine ⟨_, rfl, Nat.le_of_ble_eq_true rfl, Nat.le_of_ble_eq_true rfl, fun d1 a1 b1 s1 d2 a2 b2 s2 => ⟨Nat.le_of_ble_eq_true rfl, Nat.le_of_ble_eq_true rfl, fun f3 nf3 => ⟨up_same, fun fs3 => ⟨rfl, fz_ins up_same ?_⟩⟩⟩⟩
    rw [up_up, dl_up nf3]
    refine ⟨Nat.le_of_ble_eq_true rfl, cs, i, c, s, t, _, g, ok, rfl, (by intro z; cases z), Nat.le_of_ble_eq_true rfl, Nat.le_of_ble_eq_true rfl, fun d i c s t md ok => ?_⟩
    have kd : kn OC d = true ∧ ∀ s, d ≠ .str s := by
      simp only [List.mem_cons, List.not_mem_nil, or_false] at md
      have ko : OC.contains (Str.ofString "Forest") = true := by decide +kernel
      rcases md with rfl | rfl | rfl | rfl | rfl | rfl | rfl | rfl | rfl
      all_goals first
        | exact ⟨rfl, fun s z => nomatch z⟩
        | exact ⟨a1 0, s1⟩
        | exact ⟨kkD_kn (a1 0), s1⟩
        | exact ⟨kkD_kn (a2 0), s2⟩
        | exact ⟨ko, fun s z => nomatch z⟩
    refine ⟨_, rfl, kd.1, fun l' el => absurd el (kd.2 _), fun _ => ?_⟩
    exact ⟨_, rfl, Nat.le_of_ble_eq_true rfl, rfl, rfl, _, rfl, iteF (snext_eq (hN _ _ ⟨i, c, s, t, _, _, _, _, _, _, up_same, ok, rfl⟩))⟩
  · rintro σ G' ⟨i, c, s, t, x3, x4, x5, x6, x7, x8, g, ok, rfl⟩
    exact ⟨trivial, dn_refl (hq _)⟩
/-! ### the walk -/
section
variable {P : Program} {w : World} {K : PySem.W.Frag} {mg : Str → Option Value} {base : Heap}
theorem sc_BadForest___init__ : FnScope N_BadForest___init__ [(Str.ofString "self"), (Str.ofString "part")] (defScope s_BadForest___init__) := ⟨rfl, rfl, rfl, by decide +kernel, rfl, by decide +kernel, by decide +kernel⟩
theorem FX_BadForest (T : Tx w K mg) : ∃ (fd : FuncData) (ps : List Str), L2.Binds K fd ps [] ∧ FnOk P w K mg base (L2.CX P w) 1 (He.ma K (ga K (Str.ofString "BadForest")) (Str.ofString "__init__")) fd ps (spX K (Str.ofString "BadForest") (Str.ofString "part")) := by
  obtain ⟨fd, F⟩ := T.d_BadForest___init__
  exact ⟨fd, _, (FunD.bindsN F fun _ _ _ _ _ _ us hl => match us, hl with | [_, _], _ => rfl), initX T.xf_BadForest F sc_BadForest___init__ rfl rfl (by decide +kernel) (by decide +kernel) (by decide +kernel) (by decide +kernel) (fun _ => rfl)⟩
theorem sc_BadThing___init__ : FnScope N_BadThing___init__ [(Str.ofString "self"), (Str.ofString "place")] (defScope s_BadThing___init__) := ⟨rfl, rfl, rfl, by decide +kernel, rfl, by decide +kernel, by decide +kernel⟩
theorem FX_BadThing (T : Tx w K mg) : ∃ (fd : FuncData) (ps : List Str), L2.Binds K fd ps [] ∧ FnOk P w K mg base (L2.CX P w) 1 (He.ma K (ga K (Str.ofString "BadThing")) (Str.ofString "__init__")) fd ps (spX K (Str.ofString "BadThing") (Str.ofString "place")) := by
  obtain ⟨fd, F⟩ := T.d_BadThing___init__
  exact ⟨fd, _, (FunD.bindsN F fun _ _ _ _ _ _ us hl => match us, hl with | [_, _], _ => rfl), initX T.xf_BadThing F sc_BadThing___init__ rfl rfl (by decide +kernel) (by decide +kernel) (by decide +kernel) (by decide +kernel) (fun _ => rfl)⟩
set_option maxHeartbeats 4000000 in
theorem sc_comes_to_none : FnScope N_comes_to_none [(Str.ofString "parents"), (Str.ofString "house")] (defScope s_comes_to_none) := ⟨rfl, rfl, rfl, by decide +kernel, rfl, by decide +kernel, by decide +kernel⟩
theorem F_comes_to_none (T : Tx w K mg) : Fn3 P w K mg base (Str.ofString "comes_to_none") 1 sp_comes_to_none := by
  obtain ⟨fd, F⟩ := T.d_comes_to_none
  refine fn3 T.g_comes_to_none F sc_comes_to_none (FunD.bindsN F fun _ _ _ _ _ _ us hl => match us, hl with | [_, _], _ => rfl) (fun ds G Q E h => by unfold sp_comes_to_none at h; split at h <;> first | rfl | exact h.elim) ⟨t_comes_to_none, fun cdv A outer s H E hr => ?_, vc_comes_to_none⟩
  have nd := (sc_comes_to_none).nd
  have pas := pas_of (P := P) (w := w) (K := K) (mg := mg) (base := base) (N := N_comes_to_none) (qual := (Str.ofString "comes_to_none")) (scope := defScope s_comes_to_none) (f := (He.fAd K ((Str.ofString "comes_to_none"), none))) (cdv := cdv) (A := A) (outer := outer) (s := s) (H := H) (E := E)
  exact (scons_ (set_ 2 (v_ 1) nd)
    (scons_ (for_ (.n 3) pas rfl (irng1_ T.f_range (cons_ (bf_ b_len T.f_len (by decide +kernel) (cons_ (v_ 0) nil_)) nil_)) (tg1_ 3 nd) (scons_ (set_ 2 (ix_ (v_ 0) (v_ 2) (fun _ _ => rfl)) nd)
    (sone_ (sif_ (tcm_ o_is (v_ 2) cn_ (nomark _)) (sone_ (ret_ cb_)) snil_))))
    (sone_ (ret_ cb_))))
set_option maxHeartbeats 4000000 in
theorem sc_is_integer : FnScope N_is_integer [(Str.ofString "thing")] (defScope s_is_integer) := ⟨rfl, rfl, rfl, by decide +kernel, rfl, by decide +kernel, by decide +kernel⟩
theorem F_is_integer (T : Tx w K mg) : Fn3 P w K mg base (Str.ofString "is_integer") 1 sp_is_integer := by
  obtain ⟨fd, F⟩ := T.d_is_integer
  refine fn3 T.g_is_integer F sc_is_integer (FunD.bindsN F fun _ _ _ _ _ _ us hl => match us, hl with | [_], _ => rfl) (fun ds G Q E h => by unfold sp_is_integer at h; split at h <;> first | rfl | exact h.elim) ⟨t_is_integer, fun cdv A outer s H E hr => ?_, vc_is_integer⟩
  have nd := (sc_is_integer).nd
  exact (sone_ (ret_ (and_ (isi_ T.f_isinstance (isc_b .int T.f_int) (tb_b T.isf .int) (v_ 0)) (one_ (not_ (isi_ T.f_isinstance (isc_b .bl T.f_bool) (tb_b T.isf .bl) (v_ 0)))))))
set_option maxHeartbeats 4000000 in
theorem sc_is_within : FnScope N_is_within [(Str.ofString "thing"), (Str.ofString "least"), (Str.ofString "most")] (defScope s_is_within) := ⟨rfl, rfl, rfl, by decide +kernel, rfl, by decide +kernel, by decide +kernel⟩
theorem F_is_within (T : Tx w K mg) : Fn3 P w K mg base (Str.ofString "is_within") 2 sp_is_within := by
  obtain ⟨fd, F⟩ := T.d_is_within
  refine fn3 T.g_is_within F sc_is_within (FunD.bindsN F fun _ _ _ _ _ _ us hl => match us, hl with | [_, _, _], _ => rfl) (fun ds G Q E h => by unfold sp_is_within at h; split at h <;> first | rfl | exact h.elim) ⟨t_is_within, fun cdv A outer s H E hr => ?_, vc_is_within⟩
  have nd := (sc_is_within).nd
  have tk := tk_of (P := P) (w := w) (K := K) (mg := mg) (base := base) (N := N_is_within) (qual := (Str.ofString "is_within")) (scope := defScope s_is_within) (f := (He.fAd K ((Str.ofString "is_within"), none))) (cdv := cdv) (A := A) (outer := outer) (s := s) (H := H) (E := E)
  exact (sone_ (ret_ (and_ (call_ (F_is_integer T) hr (by decide) tk (cons_ (v_ 0) nil_)) (one_ (ch_ o_le o_le (v_ 1) (v_ 0) (v_ 2))))))
set_option maxHeartbeats 4000000 in
theorem sc_is_below : FnScope N_is_below [(Str.ofString "thing"), (Str.ofString "many")] (defScope s_is_below) := ⟨rfl, rfl, rfl, by decide +kernel, rfl, by decide +kernel, by decide +kernel⟩
theorem F_is_below (T : Tx w K mg) : Fn3 P w K mg base (Str.ofString "is_below") 3 sp_is_below := by
  obtain ⟨fd, F⟩ := T.d_is_below
  refine fn3 T.g_is_below F sc_is_below (FunD.bindsN F fun _ _ _ _ _ _ us hl => match us, hl with | [_, _], _ => rfl) (fun ds G Q E h => by unfold sp_is_below at h; split at h <;> first | rfl | exact h.elim) ⟨t_is_below, fun cdv A outer s H E hr => ?_, vc_is_below⟩
  have nd := (sc_is_below).nd
  have tk := tk_of (P := P) (w := w) (K := K) (mg := mg) (base := base) (N := N_is_below) (qual := (Str.ofString "is_below")) (scope := defScope s_is_below) (f := (He.fAd K ((Str.ofString "is_below"), none))) (cdv := cdv) (A := A) (outer := outer) (s := s) (H := H) (E := E)
  exact (sone_ (ret_ (call_ (F_is_within T) hr (by decide) tk (cons_ (v_ 0) (cons_ ci_ (cons_ (op_ o_sub (v_ 1) ci_) nil_))))))
set_option maxHeartbeats 4000000 in
theorem sc_is_sized : FnScope N_is_sized [(Str.ofString "thing"), (Str.ofString "least"), (Str.ofString "most")] (defScope s_is_sized) := ⟨rfl, rfl, rfl, by decide +kernel, rfl, by decide +kernel, by decide +kernel⟩
theorem F_is_sized (T : Tx w K mg) : Fn3 P w K mg base (Str.ofString "is_sized") 1 sp_is_sized := by
  obtain ⟨fd, F⟩ := T.d_is_sized
  refine fn3 T.g_is_sized F sc_is_sized (FunD.bindsN F fun _ _ _ _ _ _ us hl => match us, hl with | [_, _, _], _ => rfl) (fun ds G Q E h => by unfold sp_is_sized at h; split at h <;> first | rfl | exact h.elim) ⟨t_is_sized, fun cdv A outer s H E hr => ?_, vc_is_sized⟩
  have nd := (sc_is_sized).nd
  exact (sone_ (ret_ (and_ (isi_ T.f_isinstance (isc_b .tup T.f_tuple) (tb_b T.isf .tup) (v_ 0)) (one_ (ch_ o_le o_le (v_ 1) (bf_ b_len T.f_len (by decide +kernel) (cons_ (v_ 0) nil_)) (v_ 2))))))
set_option maxHeartbeats 4000000 in
theorem sc_are_parents : FnScope N_are_parents [(Str.ofString "thing")] (defScope s_are_parents) := ⟨rfl, rfl, rfl, by decide +kernel, rfl, by decide +kernel, by decide +kernel⟩
theorem F_are_parents (T : Tx w K mg) : Fn3 P w K mg base (Str.ofString "are_parents") 4 sp_are_parents := by
  obtain ⟨fd, F⟩ := T.d_are_parents
  refine fn3 T.g_are_parents F sc_are_parents (FunD.bindsN F fun _ _ _ _ _ _ us hl => match us, hl with | [_], _ => rfl) (fun ds G Q E h => by unfold sp_are_parents at h; split at h <;> first | rfl | exact h.elim) ⟨t_are_parents, fun cdv A outer s H E hr => ?_, vc_are_parents⟩
  have nd := (sc_are_parents).nd
  have tk := tk_of (P := P) (w := w) (K := K) (mg := mg) (base := base) (N := N_are_parents) (qual := (Str.ofString "are_parents")) (scope := defScope s_are_parents) (f := (He.fAd K ((Str.ofString "are_parents"), none))) (cdv := cdv) (A := A) (outer := outer) (s := s) (H := H) (E := E)
  exact (scons_ (sif_ (tnot_ (tv_ (call_ (F_is_sized T) hr (by decide) tk (cons_ (v_ 0) (cons_ ci_ (cons_ (cgi_ T.i_MOST_HOUSES) nil_)))))) (sone_ (ret_ cb_)) snil_)
    (scons_ (sif_ (tnot_ (tv_ (bf_ (b_all rfl) T.f_all (by decide +kernel) (cons_ (lc_ (own := [((Str.ofString "item"), 2)]) false (.n 2) rfl nd (iseq_ (v_ 0)) (blkOk_by (N := N_are_parents) (sc := (defScope s_are_parents)) (by decide +kernel)) (by decide) (fun _ _ _ _ _ => (tg1_ 2 nd)) (fun _ _ _ _ _ => no_if) (fun _ _ _ _ _ => (or_ (cm_ o_is (v_ 2) cn_ (nomark _)) (one_ (call_ (F_is_below T) hr (by decide) takes_none5 (cons_ (v_ 2) (cons_ (bf_ b_len T.f_len (by decide +kernel) (cons_ (v_ 0) nil_)) nil_))))))) nil_)))) (sone_ (ret_ cb_)) snil_)
    (sone_ (ret_ (bf_ (b_all rfl) T.f_all (by decide +kernel) (cons_ (lc_ (own := [((Str.ofString "house"), 1)]) false (.n 1) rfl nd (irng1_ T.f_range (cons_ (bf_ b_len T.f_len (by decide +kernel) (cons_ (v_ 0) nil_)) nil_)) (blkOk_by (N := N_are_parents) (sc := (defScope s_are_parents)) (by decide +kernel)) (by decide) (fun _ _ _ _ _ => (tg1_ 1 nd)) (fun _ _ _ _ _ => no_if) (fun _ _ _ _ _ => (call_ (F_comes_to_none T) hr (by decide) takes_none5 (cons_ (v_ 0) (cons_ (v_ 1) nil_))))) nil_))))))
set_option maxHeartbeats 4000000 in
theorem sc_Forest___init__ : FnScope N_Forest___init__ [(Str.ofString "self"), (Str.ofString "parents"), (Str.ofString "worths")] (defScope s_Forest___init__) := ⟨rfl, rfl, rfl, by decide +kernel, rfl, by decide +kernel, by decide +kernel⟩
theorem F_Forest___init__ (T : Tx w K mg) : Mn3 P w K mg base (He.fAd K ((Str.ofString "Forest"), some (Str.ofString "__init__"))) 5 sp_Forest___init__ := by
  obtain ⟨fd, F⟩ := T.d_Forest___init__
  refine ⟨fd, _, (FunD.bindsN F fun _ _ _ _ _ _ us hl => match us, hl with | [_, _, _], _ => rfl), fn3_of F sc_Forest___init__ (fun ds G Q E h => by unfold sp_Forest___init__ at h; split at h <;> first | rfl | exact h.elim) ⟨t_Forest___init__, fun cdv A outer s H E hr => ?_, vc_Forest___init__⟩⟩
  have nd := (sc_Forest___init__).nd
  have tk := tk_of (P := P) (w := w) (K := K) (mg := mg) (base := base) (N := N_Forest___init__) (qual := (Str.ofString "Forest.__init__")) (scope := defScope s_Forest___init__) (f := (He.fAd K ((Str.ofString "Forest"), some (Str.ofString "__init__")))) (cdv := cdv) (A := A) (outer := outer) (s := s) (H := H) (E := E)
  obtain ⟨_, _, bx_BadForest, fx_BadForest⟩ := FX_BadForest (P := P) (w := w) (mg := mg) (base := base) T
  exact (scons_ (sif_ (tnot_ (tv_ (call_ (F_are_parents T) hr (by decide) tk (cons_ (v_ 1) nil_)))) (sone_ (raisef_ rfl tk T.xf_BadForest fx_BadForest bx_BadForest hr (by decide) T.g_BadForest cs_)) snil_)
    (scons_ (sif_ (tw_ (wor_ (tnot_ (tv_ (call_ (F_is_sized T) hr (by decide) tk (cons_ (v_ 2) (cons_ (bf_ b_len T.f_len (by decide +kernel) (cons_ (v_ 1) nil_)) (cons_ (bf_ b_len T.f_len (by decide +kernel) (cons_ (v_ 1) nil_)) nil_)))))) (w1or_ (tnot_ (tv_ (bf_ (b_all rfl) T.f_all (by decide +kernel) (cons_ (lc_ (own := [((Str.ofString "value"), 3)]) false (.n 3) rfl nd (iseq_ (v_ 2)) (blkOk_by (N := N_Forest___init__) (sc := (defScope s_Forest___init__)) (by decide +kernel)) (by decide) (fun _ _ _ _ _ => (tg1_ 3 nd)) (fun _ _ _ _ _ => no_if) (fun _ _ _ _ _ => (call_ (F_is_integer T) hr (by decide) takes_none5 (cons_ (v_ 3) nil_)))) nil_))))))) (sone_ (raisef_ rfl tk T.xf_BadForest fx_BadForest bx_BadForest hr (by decide) T.g_BadForest cs_)) snil_)
    (scons_ (sfld_ (Str.ofString "Forest") T.c_Forest T.n_Forest_parents (v_ 0) (v_ 1))
    (sone_ (sfld_ (Str.ofString "Forest") T.c_Forest T.n_Forest_worths (v_ 0) (v_ 2))))))
set_option maxHeartbeats 4000000 in
theorem sc__law_can_be : FnScope N__law_can_be [(Str.ofString "_law_thing"), (Str.ofString "_law_deep_here")] (defScope s__law_can_be) := ⟨rfl, rfl, rfl, by decide +kernel, rfl, by decide +kernel, by decide +kernel⟩
theorem F__law_can_be (T : Tx w K mg) : ∀ n : Nat, Fn3 P w K mg base (Str.ofString "_law_can_be") (n + 1) (sp__law_can_be n) := by
  obtain ⟨fd, F⟩ := T.d__law_can_be
  have B := (FunD.bindsN (ps := [(Str.ofString "_law_thing"), (Str.ofString "_law_deep_here")]) F fun _ _ _ _ _ _ us hl => match us, hl with | [_, _], _ => rfl)
  intro n
  induction n with
  | zero => exact fn3 T.g__law_can_be F sc__law_can_be B (fun ds G Q E h => h.elim) ⟨sdead, fun cdv A outer s H E hr => ssdead_, fun ds G Q E h => h.elim⟩
  | succ n ih =>
    rw [show n + 1 + 1 = (n + 1) + 1 by omega]
    refine fn3 T.g__law_can_be F sc__law_can_be B (fun ds G Q E h => by unfold sp__law_can_be at h; split at h <;> first | rfl | exact h.elim) ⟨t__law_can_be (sp__law_can_be n), fun cdv A outer s H E hr => ?_, vc__law_can_be n⟩
    have nd := (sc__law_can_be).nd
    have tk := tk_of (P := P) (w := w) (K := K) (mg := mg) (base := base) (N := N__law_can_be) (qual := (Str.ofString "_law_can_be")) (scope := defScope s__law_can_be) (f := (He.fAd K ((Str.ofString "_law_can_be"), none))) (cdv := cdv) (A := A) (outer := outer) (s := s) (H := H) (E := E)
    exact (scons_ (sif_ (tw_ (wor_ (tcm_ o_is (v_ 0) cn_ (nomark _)) (w1or_ (tv_ (isi_ T.f_isinstance (isc_b .int T.f_int) (tb_b T.isf .int) (v_ 0)))))) (sone_ (ret_ cb_)) snil_)
    (scons_ (sif_ (tv_ (isi_ T.f_isinstance (isc_b .str T.f_str) (tb_b T.isf .str) (v_ 0))) (scons_ (set_ 2 (and_ (ch_ o_le o_le ci_ (bf_ b_len T.f_len (by decide +kernel) (cons_ (v_ 0) nil_)) ci_) (one_ (bf_ (b_all rfl) T.f_all (by decide +kernel) (cons_ (lc_ (own := [((Str.ofString "_law_sign"), 4)]) false (.n 4) rfl nd (istr_ (v_ 0)) (blkOk_by (N := N__law_can_be) (sc := (defScope s__law_can_be)) (by decide +kernel)) (by decide) (fun _ _ _ _ _ => (tg1_ 4 nd)) (fun _ _ _ _ _ => no_if) (fun _ _ _ _ _ => (cm_ o_inA (v_ 4) cs_ rfl))) nil_)))) nd)
    (sone_ (ret_ (and_ (v_ 2) (one_ (cm_ o_notin (v_ 0) (tup_ (cons_ cs_ (cons_ cs_ nil_))) rfl)))))) snil_)
    (sone_ (ret_ (and_ (isi_ T.f_isinstance (isc_b .tup T.f_tuple) (tb_b T.isf .tup) (v_ 0)) (and_ (cm_ o_lt (v_ 1) ci_ (nomark _)) (one_ (bf_ (b_all rfl) T.f_all (by decide +kernel) (cons_ (lc_ (own := [((Str.ofString "_law_one"), 3)]) false (.n 3) rfl nd (iseq_ (v_ 0)) (blkOk_by (N := N__law_can_be) (sc := (defScope s__law_can_be)) (by decide +kernel)) (by decide) (fun _ _ _ _ _ => (tg1_ 3 nd)) (fun _ _ _ _ _ => no_if) (fun _ _ _ _ _ => (call_ ih hr (by omega) takes_none5 (cons_ (v_ 3) (cons_ (op_ (o_add false) (v_ 1) ci_) nil_))))) nil_)))))))))
set_option maxHeartbeats 4000000 in
theorem sc__law_deep : FnScope N__law_deep [(Str.ofString "_law_kind")] (defScope s__law_deep) := ⟨rfl, rfl, rfl, by decide +kernel, rfl, by decide +kernel, by decide +kernel⟩
theorem F__law_deep (T : Tx w K mg) : Fn3 P w K mg base (Str.ofString "_law_deep") 1 sp__law_deep := by
  obtain ⟨fd, F⟩ := T.d__law_deep
  refine fn3 T.g__law_deep F sc__law_deep (FunD.bindsN F fun _ _ _ _ _ _ us hl => match us, hl with | [_], _ => rfl) (fun ds G Q E h => by unfold sp__law_deep at h; split at h <;> first | rfl | exact h.elim) ⟨t__law_deep, fun cdv A outer s H E hr => ?_, vc__law_deep⟩
  have nd := (sc__law_deep).nd
  have pas := pas_of (P := P) (w := w) (K := K) (mg := mg) (base := base) (N := N__law_deep) (qual := (Str.ofString "_law_deep")) (scope := defScope s__law_deep) (f := (He.fAd K ((Str.ofString "_law_deep"), none))) (cdv := cdv) (A := A) (outer := outer) (s := s) (H := H) (E := E)
  exact (scons_ (set_ 1 cn_ nd)
    (scons_ (for_ (.n 2) pas rfl (irng1_ T.f_range (cons_ ci_ nil_)) (tg1_ 2 nd) (sone_ (set_ 1 (if_ (tcm_ (o_eq hr) (v_ 0) ci_ (nomark _)) (lst_ false (cons_ (v_ 1) nil_)) (tup_ (cons_ (v_ 1) nil_))) nd)))
    (sone_ (ret_ (v_ 1)))))
set_option maxHeartbeats 4000000 in
theorem sc__law_draw : FnScope N__law_draw [(Str.ofString "_law_hand_here"), (Str.ofString "_law_many")] (defScope s__law_draw) := ⟨rfl, rfl, rfl, by decide +kernel, rfl, by decide +kernel, by decide +kernel⟩
theorem F__law_draw (T : Tx w K mg) : Fn3 P w K mg base (Str.ofString "_law_draw") 1 sp__law_draw := by
  obtain ⟨fd, F⟩ := T.d__law_draw
  refine fn3 T.g__law_draw F sc__law_draw (FunD.bindsN F fun _ _ _ _ _ _ us hl => match us, hl with | [_, _], _ => rfl) (fun ds G Q E h => by unfold sp__law_draw at h; split at h <;> first | rfl | exact h.elim) ⟨t__law_draw, fun cdv A outer s H E hr => ?_, vc__law_draw⟩
  have nd := (sc__law_draw).nd
  exact (scons_ (sif_ (tw_ (wand_ (tcm_ (o_eq hr) (ix_ (v_ 0) ci_ (fun _ _ => rfl)) ci_ (nomark _)) (w1and_ (tcm_ o_lt (ix_ (v_ 0) ci_ (fun _ _ => rfl)) (bf_ b_len T.f_len (by decide +kernel) (cons_ (ix_ (v_ 0) ci_ (fun _ _ => rfl)) nil_)) (nomark _))))) (scons_ (set_ 3 (ix_ (ix_ (v_ 0) ci_ (fun _ _ => rfl)) (ix_ (v_ 0) ci_ (fun _ _ => rfl)) (fun _ _ => rfl)) nd)
    (scons_ (setIx_ se_list (v_ 0) ci_ (op_ (o_add false) (ix_ (v_ 0) ci_ (fun _ _ => rfl)) ci_))
    (scons_ (setIx_ se_list (v_ 0) ci_ (op_ o_mod (bt_ b_int T.f_int (by decide +kernel) (cons_ (op_ (o_add false) (op_ (o_add false) (op_ (o_mul false) (ix_ (v_ 0) ci_ (fun _ _ => rfl)) ci_) (v_ 3)) ci_) nil_)) ci_))
    (sone_ (sif_ (tcm_ o_ge (v_ 3) (op_ o_pow ci_ ci_) (nomark _)) (sone_ (setIx_ se_list (v_ 0) ci_ (v_ 3))) snil_))))) snil_)
    (scons_ (sif_ (tcm_ o_gt (ix_ (v_ 0) ci_ (fun _ _ => rfl)) ci_ (nomark _)) (scons_ (set_ 4 (op_ o_mod (bt_ b_int T.f_int (by decide +kernel) (cons_ (ix_ (v_ 0) ci_ (fun _ _ => rfl)) nil_)) (v_ 1)) nd)
    (scons_ (setIx_ se_list (v_ 0) ci_ (op_ o_fdiv (ix_ (v_ 0) ci_ (fun _ _ => rfl)) (v_ 1)))
    (sone_ (ret_ (v_ 4))))) snil_)
    (scons_ (setIx_ se_list (v_ 0) ci_ (op_ (o_add false) (ix_ (v_ 0) ci_ (fun _ _ => rfl)) ci_))
    (scons_ (set_ 2 (op_ o_mod (bt_ b_int T.f_int (by decide +kernel) (cons_ (op_ (o_mul false) (bt_ b_int T.f_int (by decide +kernel) (cons_ (op_ (o_add false) (ix_ (v_ 0) ci_ (fun _ _ => rfl)) (op_ (o_mul false) ci_ (ix_ (v_ 0) ci_ (fun _ _ => rfl)))) nil_)) ci_) nil_)) ci_) nd)
    (scons_ (set_ 2 (op_ o_mod (bt_ b_int T.f_int (by decide +kernel) (cons_ (op_ (o_mul false) (v_ 2) (op_ (o_add false) (op_ o_fdiv (v_ 2) ci_) ci_)) nil_)) ci_) nd)
    (scons_ (set_ 2 (op_ o_mod (bt_ b_int T.f_int (by decide +kernel) (cons_ (op_ (o_mul false) (v_ 2) (op_ (o_add false) (op_ o_fdiv (v_ 2) ci_) ci_)) nil_)) ci_) nd)
    (sone_ (ret_ (op_ o_mod (bt_ b_int T.f_int (by decide +kernel) (cons_ (op_ o_fdiv (v_ 2) ci_) nil_)) (v_ 1))))))))))
set_option maxHeartbeats 4000000 in
theorem sc__law_some : FnScope N__law_some [(Str.ofString "_law_hand_here"), (Str.ofString "_law_things")] (defScope s__law_some) := ⟨rfl, rfl, rfl, by decide +kernel, rfl, by decide +kernel, by decide +kernel⟩
theorem F__law_some (T : Tx w K mg) : Fn3 P w K mg base (Str.ofString "_law_some") 2 sp__law_some := by
  obtain ⟨fd, F⟩ := T.d__law_some
  refine fn3 T.g__law_some F sc__law_some (FunD.bindsN F fun _ _ _ _ _ _ us hl => match us, hl with | [_, _], _ => rfl) (fun ds G Q E h => by unfold sp__law_some at h; split at h <;> first | rfl | exact h.elim) ⟨t__law_some, fun cdv A outer s H E hr => ?_, vc__law_some⟩
  have nd := (sc__law_some).nd
  have tk := tk_of (P := P) (w := w) (K := K) (mg := mg) (base := base) (N := N__law_some) (qual := (Str.ofString "_law_some")) (scope := defScope s__law_some) (f := (He.fAd K ((Str.ofString "_law_some"), none))) (cdv := cdv) (A := A) (outer := outer) (s := s) (H := H) (E := E)
  exact (sone_ (ret_ (ix_ (v_ 1) (call_ (F__law_draw T) hr (by decide) tk (cons_ (v_ 0) (cons_ (bf_ b_len T.f_len (by decide +kernel) (cons_ (v_ 1) nil_)) nil_))) (fun _ _ => rfl))))
set_option maxHeartbeats 4000000 in
theorem sc__law_drawn_thing : FnScope N__law_drawn_thing [(Str.ofString "_law_hand_here"), (Str.ofString "_law_deep_here")] (defScope s__law_drawn_thing) := ⟨rfl, rfl, rfl, by decide +kernel, rfl, by decide +kernel, by decide +kernel⟩
theorem F__law_drawn_thing (T : Tx w K mg) : ∀ n : Nat, Fn3 P w K mg base (Str.ofString "_law_drawn_thing") (n + 3) (sp__law_drawn_thing n) := by
  obtain ⟨fd, F⟩ := T.d__law_drawn_thing
  have B := (FunD.bindsN (ps := [(Str.ofString "_law_hand_here"), (Str.ofString "_law_deep_here")]) F fun _ _ _ _ _ _ us hl => match us, hl with | [_, _], _ => rfl)
  intro n
  induction n with
  | zero => exact fn3 T.g__law_drawn_thing F sc__law_drawn_thing B (fun ds G Q E h => h.elim) ⟨sdead, fun cdv A outer s H E hr => ssdead_, fun ds G Q E h => h.elim⟩
  | succ n ih =>
    rw [show n + 1 + 3 = (n + 3) + 1 by omega]
    refine fn3 T.g__law_drawn_thing F sc__law_drawn_thing B (fun ds G Q E h => by unfold sp__law_drawn_thing at h; split at h <;> first | rfl | exact h.elim) ⟨t__law_drawn_thing (sp__law_drawn_thing n), fun cdv A outer s H E hr => ?_, vc__law_drawn_thing n⟩
    have nd := (sc__law_drawn_thing).nd
    have tk := tk_of (P := P) (w := w) (K := K) (mg := mg) (base := base) (N := N__law_drawn_thing) (qual := (Str.ofString "_law_drawn_thing")) (scope := defScope s__law_drawn_thing) (f := (He.fAd K ((Str.ofString "_law_drawn_thing"), none))) (cdv := cdv) (A := A) (outer := outer) (s := s) (H := H) (E := E)
    exact (scons_ (set_ 2 (call_ (F__law_draw T) hr (by omega) tk (cons_ (v_ 0) (cons_ ci_ nil_))) nd)
    (scons_ (sif_ (tw_ (wand_ (tcm_ o_lt (v_ 2) ci_ (nomark _)) (w1and_ (tcm_ o_gt (v_ 1) ci_ (nomark _))))) (sone_ (ret_ (bt_ b_tup T.f_tuple (by decide +kernel) (cons_ (lc_ (own := [((Str.ofString "_law_turn"), 3)]) false (.n 3) rfl nd (irng1_ T.f_range (cons_ (call_ (F__law_draw T) hr (by omega) tk (cons_ (v_ 0) (cons_ ci_ nil_))) nil_)) (blkOk_by (N := N__law_drawn_thing) (sc := (defScope s__law_drawn_thing)) (by decide +kernel)) (by decide) (fun _ _ _ _ _ => (tg1_ 3 nd)) (fun _ _ _ _ _ => no_if) (fun _ _ _ _ _ => (call_ ih hr (by omega) takes_none5 (cons_ (v_ 0) (cons_ (op_ o_sub (v_ 1) ci_) nil_))))) nil_)))) snil_)
    (scons_ (sif_ (tcm_ o_lt (v_ 2) ci_ (nomark _)) (sone_ (ret_ (call_ (F__law_some T) hr (by omega) tk (cons_ (v_ 0) (cons_ (lst_ false (cons_ ci_ (cons_ ci_ (cons_ (neg_ ci_) (cons_ ci_ (cons_ (neg_ ci_) (cons_ (op_ o_pow ci_ ci_) (cons_ (neg_ (op_ o_sub (op_ o_pow ci_ ci_) ci_)) (cons_ (op_ o_sub (op_ o_pow ci_ ci_) ci_) (cons_ (call_ (F__law_draw T) hr (by omega) tk (cons_ (v_ 0) (cons_ ci_ nil_))) nil_)))))))))) nil_))))) snil_)
    (scons_ (sif_ (tcm_ o_lt (v_ 2) ci_ (nomark _)) (sone_ (ret_ (call_ (F__law_some T) hr (by omega) tk (cons_ (v_ 0) (cons_ (lst_ false (cons_ cs_ (cons_ cs_ (cons_ (op_ o_mulS cs_ ci_) (cons_ cs_ (cons_ cs_ (cons_ cs_ (cons_ cs_ (cons_ cs_ (cons_ cs_ nil_)))))))))) nil_))))) snil_)
    (sone_ (ret_ (call_ (F__law_some T) hr (by omega) tk (cons_ (v_ 0) (cons_ (lst_ false (cons_ cn_ (cons_ cb_ (cons_ cb_ nil_)))) nil_)))))))))
set_option maxHeartbeats 4000000 in
theorem sc_is_word : FnScope N_is_word [(Str.ofString "thing")] (defScope s_is_word) := ⟨rfl, rfl, rfl, by decide +kernel, rfl, by decide +kernel, by decide +kernel⟩
theorem F_is_word (T : Tx w K mg) : Fn3 P w K mg base (Str.ofString "is_word") 1 sp_is_word := by
  obtain ⟨fd, F⟩ := T.d_is_word
  refine fn3 T.g_is_word F sc_is_word (FunD.bindsN F fun _ _ _ _ _ _ us hl => match us, hl with | [_], _ => rfl) (fun ds G Q E h => by unfold sp_is_word at h; split at h <;> first | rfl | exact h.elim) ⟨t_is_word, fun cdv A outer s H E hr => ?_, vc_is_word⟩
  have nd := (sc_is_word).nd
  exact (scons_ (sif_ (tw_ (wor_ (tnot_ (tv_ (isi_ T.f_isinstance (isc_b .str T.f_str) (tb_b T.isf .str) (v_ 0)))) (wor_ (tcm_ o_in (v_ 0) (tup_ (cons_ (cgs_ T.s_YES) (cons_ (cgs_ T.s_NO) nil_))) rfl) (w1or_ (tnot_ (tch_ o_le o_le ci_ (bf_ b_len T.f_len (by decide +kernel) (cons_ (v_ 0) nil_)) (cgi_ T.i_MOST_LETTERS))))))) (sone_ (ret_ cb_)) snil_)
    (sone_ (ret_ (bf_ (b_all rfl) T.f_all (by decide +kernel) (cons_ (lc_ (own := [((Str.ofString "sign"), 1)]) false (.n 1) rfl nd (istr_ (v_ 0)) (blkOk_by (N := N_is_word) (sc := (defScope s_is_word)) (by decide +kernel)) (by decide) (fun _ _ _ _ _ => (tg1_ 1 nd)) (fun _ _ _ _ _ => no_if) (fun _ _ _ _ _ => (cm_ o_inA (v_ 1) (cgs_ T.s_LETTERS) rfl))) nil_)))))
set_option maxHeartbeats 4000000 in
theorem sc_can_be_written : FnScope N_can_be_written [(Str.ofString "thing"), (Str.ofString "left")] (defScope s_can_be_written) := ⟨rfl, rfl, rfl, by decide +kernel, rfl, by decide +kernel, by decide +kernel⟩
theorem F_can_be_written (T : Tx w K mg) : ∀ n : Nat, Fn3 P w K mg base (Str.ofString "can_be_written") (n + 2) (sp_can_be_written n) := by
  obtain ⟨fd, F⟩ := T.d_can_be_written
  have B := (FunD.bindsN (ps := [(Str.ofString "thing"), (Str.ofString "left")]) F fun _ _ _ _ _ _ us hl => match us, hl with | [_, _], _ => rfl)
  intro n
  induction n with
  | zero => exact fn3 T.g_can_be_written F sc_can_be_written B (fun ds G Q E h => h.elim) ⟨sdead, fun cdv A outer s H E hr => ssdead_, fun ds G Q E h => h.elim⟩
  | succ n ih =>
    rw [show n + 1 + 2 = (n + 2) + 1 by omega]
    refine fn3 T.g_can_be_written F sc_can_be_written B (fun ds G Q E h => by unfold sp_can_be_written at h; split at h <;> first | rfl | exact h.elim) ⟨t_can_be_written (sp_can_be_written n), fun cdv A outer s H E hr => ?_, vc_can_be_written n⟩
    have nd := (sc_can_be_written).nd
    have tk := tk_of (P := P) (w := w) (K := K) (mg := mg) (base := base) (N := N_can_be_written) (qual := (Str.ofString "can_be_written")) (scope := defScope s_can_be_written) (f := (He.fAd K ((Str.ofString "can_be_written"), none))) (cdv := cdv) (A := A) (outer := outer) (s := s) (H := H) (E := E)
    exact (scons_ (sif_ (tv_ (isi_ T.f_isinstance (isc_b .tup T.f_tuple) (tb_b T.isf .tup) (v_ 0))) (sone_ (ret_ (and_ (cm_ o_gt (v_ 1) ci_ (nomark _)) (one_ (bf_ (b_all rfl) T.f_all (by decide +kernel) (cons_ (lc_ (own := [((Str.ofString "item"), 2)]) false (.n 2) rfl nd (iseq_ (v_ 0)) (blkOk_by (N := N_can_be_written) (sc := (defScope s_can_be_written)) (by decide +kernel)) (by decide) (fun _ _ _ _ _ => (tg1_ 2 nd)) (fun _ _ _ _ _ => no_if) (fun _ _ _ _ _ => (call_ ih hr (by omega) takes_none5 (cons_ (v_ 2) (cons_ (op_ o_sub (v_ 1) ci_) nil_))))) nil_)))))) snil_)
    (sone_ (ret_ (or_ (cm_ o_is (v_ 0) cn_ (nomark _)) (or_ (isi_ T.f_isinstance (isc_b .int T.f_int) (tb_b T.isf .int) (v_ 0)) (one_ (call_ (F_is_word T) hr (by omega) tk (cons_ (v_ 0) nil_))))))))
set_option maxHeartbeats 4000000 in
theorem sc_raw_written : FnScope N_raw_written [(Str.ofString "thing")] (defScope s_raw_written) := ⟨rfl, rfl, rfl, by decide +kernel, rfl, by decide +kernel, by decide +kernel⟩
theorem F_raw_written (T : Tx w K mg) : ∀ n : Nat, Fn3 P w K mg base (Str.ofString "raw_written") (n + 2) (sp_raw_written n) := by
  obtain ⟨fd, F⟩ := T.d_raw_written
  have B := (FunD.bindsN (ps := [(Str.ofString "thing")]) F fun _ _ _ _ _ _ us hl => match us, hl with | [_], _ => rfl)
  intro n
  induction n with
  | zero => exact fn3 T.g_raw_written F sc_raw_written B (fun ds G Q E h => h.elim) ⟨sdead, fun cdv A outer s H E hr => ssdead_, fun ds G Q E h => h.elim⟩
  | succ n ih =>
    rw [show n + 1 + 2 = (n + 2) + 1 by omega]
    refine fn3 T.g_raw_written F sc_raw_written B (fun ds G Q E h => by unfold sp_raw_written at h; split at h <;> first | rfl | exact h.elim) ⟨t_raw_written (sp_raw_written n), fun cdv A outer s H E hr => ?_, vc_raw_written n⟩
    have nd := (sc_raw_written).nd
    have tk := tk_of (P := P) (w := w) (K := K) (mg := mg) (base := base) (N := N_raw_written) (qual := (Str.ofString "raw_written")) (scope := defScope s_raw_written) (f := (He.fAd K ((Str.ofString "raw_written"), none))) (cdv := cdv) (A := A) (outer := outer) (s := s) (H := H) (E := E)
    exact (scons_ (sif_ (tcm_ o_is (v_ 0) cn_ (nomark _)) (sone_ (ret_ (cgs_ T.s_NOTHING))) snil_)
    (scons_ (sif_ (tv_ (isi_ T.f_isinstance (isc_b .bl T.f_bool) (tb_b T.isf .bl) (v_ 0))) (sone_ (ret_ (if_ (tv_ (v_ 0)) (cgs_ T.s_YES) (cgs_ T.s_NO)))) snil_)
    (scons_ (sif_ (tv_ (isi_ T.f_isinstance (isc_b .tup T.f_tuple) (tb_b T.isf .tup) (v_ 0))) (sone_ (ret_ (op_ (o_add false) (op_ (o_add false) cs_ (m_ PySem.F.plainAttrs_str PySem.F.slot_str_join PySem.F.type_str_join ty_str me_join cs_ (cons_ (lc_ (own := [((Str.ofString "item"), 1)]) false (.n 1) rfl nd (iseq_ (v_ 0)) (blkOk_by (N := N_raw_written) (sc := (defScope s_raw_written)) (by decide +kernel)) (by decide) (fun _ _ _ _ _ => (tg1_ 1 nd)) (fun _ _ _ _ _ => no_if) (fun _ _ _ _ _ => (call_ ih hr (by omega) takes_none5 (cons_ (v_ 1) nil_)))) nil_))) cs_))) snil_)
    (sone_ (ret_ (if_ (tv_ (call_ (F_is_integer T) hr (by omega) tk (cons_ (v_ 0) nil_))) (bt_ b_str T.f_str (by decide +kernel) (cons_ (v_ 0) nil_)) (v_ 0)))))))
set_option maxHeartbeats 4000000 in
theorem sc_written : FnScope N_written [(Str.ofString "thing")] (defScope s_written) := ⟨rfl, rfl, rfl, by decide +kernel, rfl, by decide +kernel, by decide +kernel⟩
theorem F_written (T : Tx w K mg) : Fn3 P w K mg base (Str.ofString "written") 27 sp_written := by
  obtain ⟨fd, F⟩ := T.d_written
  refine fn3 T.g_written F sc_written (FunD.bindsN F fun _ _ _ _ _ _ us hl => match us, hl with | [_], _ => rfl) (fun ds G Q E h => by unfold sp_written at h; split at h <;> first | rfl | exact h.elim) ⟨t_written, fun cdv A outer s H E hr => ?_, vc_written⟩
  have nd := (sc_written).nd
  have tk := tk_of (P := P) (w := w) (K := K) (mg := mg) (base := base) (N := N_written) (qual := (Str.ofString "written")) (scope := defScope s_written) (f := (He.fAd K ((Str.ofString "written"), none))) (cdv := cdv) (A := A) (outer := outer) (s := s) (H := H) (E := E)
  exact (scons_ (sif_ (tnot_ (tv_ (call_ (F_can_be_written T 24) hr (by decide) tk (cons_ (v_ 0) (cons_ (cgi_ T.i_MOST_DEEP) nil_))))) (sone_ (raise0_ rfl tk T.x_NoThing T.g_NoThing)) snil_)
    (sone_ (ret_ (call_ (F_raw_written T 24) hr (by decide) tk (cons_ (v_ 0) nil_)))))
set_option maxHeartbeats 4000000 in
theorem sc__law_given : FnScope N__law_given [(Str.ofString "_law_thing")] (defScope s__law_given) := ⟨rfl, rfl, rfl, by decide +kernel, rfl, by decide +kernel, by decide +kernel⟩
theorem F__law_given (T : Tx w K mg) : Fn3 P w K mg base (Str.ofString "_law_given") 28 sp__law_given := by
  obtain ⟨fd, F⟩ := T.d__law_given
  refine fn3 T.g__law_given F sc__law_given (FunD.bindsN F fun _ _ _ _ _ _ us hl => match us, hl with | [_], _ => rfl) (fun ds G Q E h => by unfold sp__law_given at h; split at h <;> first | rfl | exact h.elim) ⟨t__law_given, fun cdv A outer s H E hr => ?_, vc__law_given⟩
  have nd := (sc__law_given).nd
  have tk := tk_of (P := P) (w := w) (K := K) (mg := mg) (base := base) (N := N__law_given) (qual := (Str.ofString "_law_given")) (scope := defScope s__law_given) (f := (He.fAd K ((Str.ofString "_law_given"), none))) (cdv := cdv) (A := A) (outer := outer) (s := s) (H := H) (E := E)
  have pas := pas_of (P := P) (w := w) (K := K) (mg := mg) (base := base) (N := N__law_given) (qual := (Str.ofString "_law_given")) (scope := defScope s__law_given) (f := (He.fAd K ((Str.ofString "_law_given"), none))) (cdv := cdv) (A := A) (outer := outer) (s := s) (H := H) (E := E)
  exact (scons_ (set_ 1 cs_ nd)
    (scons_ (try_ rfl rfl nd tk T.exm (fun _ _ _ tk pas => (sone_ (set_ 1 (call_ (F_written T) hr (by decide) tk (cons_ (v_ 0) nil_)) nd))) (.consA 2 ⟨rfl, by decide +kernel, .inl T.g_NoThing⟩ rfl rfl (fun _ _ _ _ _ hz hf => (sone_ (set_ 1 (if_ (tw_ (wand_ (tv_ (isieF_ T.exi hz hf T.f_isinstance (isc_oe T.g_ForestError) (v_ 2))) (w1and_ (tv_ (isieF_ T.exi hz hf T.f_isinstance (isc_ve T.f_ValueError) (v_ 2)))))) cs_ (v_ 1)) nd))) .nil))
    (sone_ (ret_ (v_ 1)))))
set_option maxHeartbeats 4000000 in
theorem sc__law_hand : FnScope N__law_hand [(Str.ofString "_law_script")] (defScope s__law_hand) := ⟨rfl, rfl, rfl, by decide +kernel, rfl, by decide +kernel, by decide +kernel⟩
theorem F__law_hand (T : Tx w K mg) : Fn3 P w K mg base (Str.ofString "_law_hand") 1 sp__law_hand := by
  obtain ⟨fd, F⟩ := T.d__law_hand
  refine fn3 T.g__law_hand F sc__law_hand (FunD.bindsN F fun _ _ _ _ _ _ us hl => match us, hl with | [_], _ => rfl) (fun ds G Q E h => by unfold sp__law_hand at h; split at h <;> first | rfl | exact h.elim) ⟨t__law_hand, fun cdv A outer s H E hr => ?_, vc__law_hand⟩
  have nd := (sc__law_hand).nd
  exact (scons_ (setLc_ (own := [((Str.ofString "_law_cell"), 2)]) 1 false (.n 2) rfl nd (iseq_ (sl_ false (v_ 0) on_ (os_ ci_))) (blkOk_by (N := N__law_hand) (sc := defScope s__law_hand) (by decide +kernel)) (by decide) (fun _ _ _ _ _ => (tg1_ 2 nd)) (fun _ _ _ _ _ => no_if) (fun _ _ _ _ _ => (bf_ b_abs T.f_abs (by decide +kernel) (cons_ (bt_ b_int T.f_int (by decide +kernel) (cons_ (v_ 2) nil_)) nil_))) (sw_true rfl rfl rfl (by decide +kernel)))
    (sone_ (ret_ (lst_ true (cons_ (v_ 1) (cons_ ci_ (cons_ ci_ (cons_ (op_ (o_add false) ci_ (bf_ b_len T.f_len (by decide +kernel) (cons_ (v_ 1) nil_))) (cons_ ci_ nil_)))))))))
set_option maxHeartbeats 4000000 in
theorem sc__law_is : FnScope N__law_is [(Str.ofString "_law_told_here"), (Str.ofString "_law_due")] (defScope s__law_is) := ⟨rfl, rfl, rfl, by decide +kernel, rfl, by decide +kernel, by decide +kernel⟩
theorem F__law_is (T : Tx w K mg) : ∀ n : Nat, Fn3 P w K mg base (Str.ofString "_law_is") (n + 1) (sp__law_is n) := by
  obtain ⟨fd, F⟩ := T.d__law_is
  have B := (FunD.bindsN (ps := [(Str.ofString "_law_told_here"), (Str.ofString "_law_due")]) F fun _ _ _ _ _ _ us hl => match us, hl with | [_, _], _ => rfl)
  intro n
  induction n with
  | zero => exact fn3 T.g__law_is F sc__law_is B (fun ds G Q E h => h.elim) ⟨sdead, fun cdv A outer s H E hr => ssdead_, fun ds G Q E h => h.elim⟩
  | succ n ih =>
    rw [show n + 1 + 1 = (n + 1) + 1 by omega]
    refine fn3 T.g__law_is F sc__law_is B (fun ds G Q E h => by unfold sp__law_is at h; split at h <;> first | rfl | exact h.elim) ⟨t__law_is (sp__law_is n), fun cdv A outer s H E hr => ?_, vc__law_is n⟩
    have nd := (sc__law_is).nd
    have tk := tk_of (P := P) (w := w) (K := K) (mg := mg) (base := base) (N := N__law_is) (qual := (Str.ofString "_law_is")) (scope := defScope s__law_is) (f := (He.fAd K ((Str.ofString "_law_is"), none))) (cdv := cdv) (A := A) (outer := outer) (s := s) (H := H) (E := E)
    exact (scons_ (sif_ (tv_ (isi2_ T.isf .tup .lst T.f_isinstance T.f_tuple T.f_list (v_ 1))) (scons_ (sif_ (tw_ (wor_ (tcm_ (o_ne hr) (isi_ T.f_isinstance (isc_b .tup T.f_tuple) (tb_b T.isf .tup) (v_ 0)) (isi_ T.f_isinstance (isc_b .tup T.f_tuple) (tb_b T.isf .tup) (v_ 1)) (nomark _)) (w1or_ (tcm_ (o_ne hr) (isi_ T.f_isinstance (isc_b .lst T.f_list) (tb_b T.isf .lst) (v_ 0)) (isi_ T.f_isinstance (isc_b .lst T.f_list) (tb_b T.isf .lst) (v_ 1)) (nomark _))))) (sone_ (ret_ cb_)) snil_)
    (sone_ (ret_ (and_ (cm_ (o_eq hr) (bf_ b_len T.f_len (by decide +kernel) (cons_ (v_ 0) nil_)) (bf_ b_len T.f_len (by decide +kernel) (cons_ (v_ 1) nil_)) (nomark _)) (one_ (bf_ (b_all rfl) T.f_all (by decide +kernel) (cons_ (lc_ (own := [((Str.ofString "_law_k"), 2)]) false (.n 2) rfl nd (irng1_ T.f_range (cons_ (bf_ b_len T.f_len (by decide +kernel) (cons_ (v_ 1) nil_)) nil_)) (blkOk_by (N := N__law_is) (sc := (defScope s__law_is)) (by decide +kernel)) (by decide) (fun _ _ _ _ _ => (tg1_ 2 nd)) (fun _ _ _ _ _ => no_if) (fun _ _ _ _ _ => (call_ ih hr (by omega) takes_none5 (cons_ (ix_ (v_ 0) (v_ 2) (fun _ _ => rfl)) (cons_ (ix_ (v_ 1) (v_ 2) (fun _ _ => rfl)) nil_))))) nil_))))))) snil_)
    (scons_ (sif_ (tv_ (isi_ T.f_isinstance (isc_b .dic T.f_dict) (tb_b T.isf .dic) (v_ 1))) (sone_ (ret_ (and_ (isi_ T.f_isinstance (isc_b .dic T.f_dict) (tb_b T.isf .dic) (v_ 0)) (and_ (cm_ (o_eq hr) (v_ 0) (v_ 1) (nomark _)) (one_ (bf_ (b_all rfl) T.f_all (by decide +kernel) (cons_ (lc_ (own := [((Str.ofString "_law_key"), 3)]) false (.n 3) rfl nd (iseq_ (v_ 1)) (blkOk_by (N := N__law_is) (sc := (defScope s__law_is)) (by decide +kernel)) (by decide) (fun _ _ _ _ _ => (tg1_ 3 nd)) (fun _ _ _ _ _ => no_if) (fun _ _ _ _ _ => (call_ ih hr (by omega) takes_none5 (cons_ (ix_ (v_ 0) (v_ 3) (fun _ _ => rfl)) (cons_ (ix_ (v_ 1) (v_ 3) (fun _ _ => rfl)) nil_))))) nil_))))))) snil_)
    (sone_ (ret_ (and_ (cm_ (o_eq hr) (isi_ T.f_isinstance (isc_b .bl T.f_bool) (tb_b T.isf .bl) (v_ 0)) (isi_ T.f_isinstance (isc_b .bl T.f_bool) (tb_b T.isf .bl) (v_ 1)) (nomark _)) (one_ (cm_ (o_eq hr) (v_ 0) (v_ 1) (nomark _))))))))
set_option maxHeartbeats 4000000 in
theorem sc__law_nested : FnScope N__law_nested [(Str.ofString "_law_hand_here"), (Str.ofString "_law_most")] (defScope s__law_nested) := ⟨rfl, rfl, rfl, by decide +kernel, rfl, by decide +kernel, by decide +kernel⟩
theorem F__law_nested (T : Tx w K mg) : Fn3 P w K mg base (Str.ofString "_law_nested") 3 sp__law_nested := by
  obtain ⟨fd, F⟩ := T.d__law_nested
  refine fn3 T.g__law_nested F sc__law_nested (FunD.bindsN F fun _ _ _ _ _ _ us hl => match us, hl with | [_, _], _ => rfl) (fun ds G Q E h => by unfold sp__law_nested at h; split at h <;> first | rfl | exact h.elim) ⟨t__law_nested, fun cdv A outer s H E hr => ?_, vc__law_nested⟩
  have nd := (sc__law_nested).nd
  have tk := tk_of (P := P) (w := w) (K := K) (mg := mg) (base := base) (N := N__law_nested) (qual := (Str.ofString "_law_nested")) (scope := defScope s__law_nested) (f := (He.fAd K ((Str.ofString "_law_nested"), none))) (cdv := cdv) (A := A) (outer := outer) (s := s) (H := H) (E := E)
  have pas := pas_of (P := P) (w := w) (K := K) (mg := mg) (base := base) (N := N__law_nested) (qual := (Str.ofString "_law_nested")) (scope := defScope s__law_nested) (f := (He.fAd K ((Str.ofString "_law_nested"), none))) (cdv := cdv) (A := A) (outer := outer) (s := s) (H := H) (E := E)
  exact (scons_ (set_ 2 (call_ (F__law_some T) hr (by decide) tk (cons_ (v_ 0) (cons_ (lst_ false (cons_ (tup_ nil_) (cons_ (tup_ nil_) (cons_ ci_ (cons_ cs_ (cons_ cn_ nil_)))))) nil_))) nd)
    (scons_ (for_ (.n 3) pas rfl (irng1_ T.f_range (cons_ (op_ o_sub (op_ o_sub (v_ 1) ci_) (call_ (F__law_draw T) hr (by decide) tk (cons_ (v_ 0) (cons_ ci_ nil_)))) nil_)) (tg1_ 3 nd) (sone_ (set_ 2 (call_ (F__law_some T) hr (by decide) tk (cons_ (v_ 0) (cons_ (lst_ false (cons_ (tup_ (cons_ (v_ 2) nil_)) (cons_ (tup_ (cons_ (v_ 2) (cons_ ci_ nil_))) (cons_ (tup_ (cons_ cn_ (cons_ (v_ 2) nil_))) nil_)))) nil_))) nd)))
    (sone_ (ret_ (v_ 2)))))
set_option maxHeartbeats 4000000 in
theorem sc__law_item : FnScope N__law_item [(Str.ofString "_law_word")] (defScope s__law_item) := ⟨rfl, rfl, rfl, by decide +kernel, rfl, by decide +kernel, by decide +kernel⟩
theorem F__law_item (T : Tx w K mg) : Fn3 P w K mg base (Str.ofString "_law_item") 1 sp__law_item := by
  obtain ⟨fd, F⟩ := T.d__law_item
  refine fn3 T.g__law_item F sc__law_item (FunD.bindsN F fun _ _ _ _ _ _ us hl => match us, hl with | [_], _ => rfl) (fun ds G Q E h => by unfold sp__law_item at h; split at h <;> first | rfl | exact h.elim) ⟨t__law_item, fun cdv A outer s H E hr => ?_, vc__law_item⟩
  have nd := (sc__law_item).nd
  exact (scons_ (sif_ (tcm_ o_in (v_ 0) (tup_ (cons_ cs_ (cons_ cs_ (cons_ cs_ nil_)))) rfl) (sone_ (ret_ (cdixC_ [((Str.ofString "-"), .non), ((Str.ofString "yes"), .bl true), ((Str.ofString "no"), .bl false)] hr (pps_cons pe_str pe_non (pps_cons pe_str pe_bl (pps_cons pe_str pe_bl pps_nil))) (v_ 0) (fun _ _ => rfl)))) snil_)
    (sone_ (ret_ (if_ (tcm_ o_inA (ix_ (v_ 0) ci_ (fun _ _ => rfl)) cs_ rfl) (bt_ b_intS T.f_int (by decide +kernel) (cons_ (v_ 0) nil_)) (v_ 0)))))
set_option maxHeartbeats 4000000 in
theorem sc__law_token : FnScope N__law_token [(Str.ofString "_law_text"), (Str.ofString "_law_at")] (defScope s__law_token) := ⟨rfl, rfl, rfl, by decide +kernel, rfl, by decide +kernel, by decide +kernel⟩
theorem F__law_token (T : Tx w K mg) : Fn3 P w K mg base (Str.ofString "_law_token") 1 sp__law_token := by
  obtain ⟨fd, F⟩ := T.d__law_token
  refine fn3 T.g__law_token F sc__law_token (FunD.bindsN F fun _ _ _ _ _ _ us hl => match us, hl with | [_, _], _ => rfl) (fun ds G Q E h => by unfold sp__law_token at h; split at h <;> first | rfl | exact h.elim) ⟨t__law_token, fun cdv A outer s H E hr => ?_, vc__law_token⟩
  have nd := (sc__law_token).nd
  have pas := pas_of (P := P) (w := w) (K := K) (mg := mg) (base := base) (N := N__law_token) (qual := (Str.ofString "_law_token")) (scope := defScope s__law_token) (f := (He.fAd K ((Str.ofString "_law_token"), none))) (cdv := cdv) (A := A) (outer := outer) (s := s) (H := H) (E := E)
  exact (scons_ (unp_ [5, 6] (tup_ (cons_ cs_ (cons_ cs_ nil_))) (tgt_ rfl (pgs_cons (tg1_ 5 nd) (pgs_cons (tg1_ 6 nd) pgs_nil))))
    (scons_ (sif_ (tcm_ o_inA (ix_ (v_ 0) (v_ 1) (fun _ _ => rfl)) (v_ 6) rfl) (scons_ (set_ 3 ci_ nd)
    (scons_ (for_ (.n 4) pas rfl (istr_ (sl_ false (v_ 0) (os_ (v_ 1)) (os_ (op_ (o_add false) (v_ 1) ci_)))) (tg1_ 4 nd) (sone_ (set_ 3 (if_ (tw_ (wand_ (tcm_ o_inA (v_ 4) (v_ 6) rfl) (w1and_ (tcm_ o_ge (v_ 3) ci_ (nomark _))))) (op_ (o_add false) (v_ 3) ci_) (neg_ (bf_ b_abs T.f_abs (by decide +kernel) (cons_ (v_ 3) nil_)))) nd)))
    (sone_ (ret_ (bf_ b_abs T.f_abs (by decide +kernel) (cons_ (v_ 3) nil_)))))) snil_)
    (scons_ (sif_ (tcm_ (o_eq hr) (ix_ (v_ 0) (v_ 1) (fun _ _ => rfl)) cs_ (nomark _)) (sone_ (ret_ ci_)) snil_)
    (scons_ (set_ 2 (bt_ b_int T.f_int (by decide +kernel) (cons_ (cm_ (o_eq hr) (ix_ (v_ 0) (v_ 1) (fun _ _ => rfl)) cs_ (nomark _)) nil_)) nd)
    (scons_ (sif_ (tcm_ o_notin (sl_ false (v_ 0) (os_ (op_ (o_add false) (v_ 1) (v_ 2))) (os_ (op_ (o_add false) (op_ (o_add false) (v_ 1) (v_ 2)) ci_))) (bt_ b_tup T.f_tuple (by decide +kernel) (cons_ (bt_ (b_listS false rfl) T.f_list (by decide +kernel) (cons_ (sl_ false (v_ 5) (os_ ci_) on_) nil_)) nil_)) rfl) (sone_ (ret_ (v_ 2))) snil_)
    (scons_ (set_ 3 ci_ nd)
    (scons_ (for_ (.n 4) pas rfl (istr_ (sl_ false (v_ 0) (os_ (op_ (o_add false) (v_ 1) (v_ 2))) (os_ (op_ (o_add false) (op_ (o_add false) (v_ 1) (v_ 2)) ci_)))) (tg1_ 4 nd) (sone_ (set_ 3 (if_ (tw_ (wand_ (tcm_ o_inA (v_ 4) (v_ 5) rfl) (w1and_ (tcm_ o_ge (v_ 3) ci_ (nomark _))))) (op_ (o_add false) (v_ 3) ci_) (neg_ (bf_ b_abs T.f_abs (by decide +kernel) (cons_ (v_ 3) nil_)))) nd)))
    (sone_ (ret_ (op_ (o_add false) (v_ 2) (bf_ b_abs T.f_abs (by decide +kernel) (cons_ (v_ 3) nil_))))))))))))
set_option maxHeartbeats 4000000 in
theorem sc__law_read : FnScope N__law_read [(Str.ofString "_law_text")] (defScope s__law_read) := ⟨rfl, rfl, rfl, by decide +kernel, rfl, by decide +kernel, by decide +kernel⟩
theorem F__law_read (T : Tx w K mg) : Fn3 P w K mg base (Str.ofString "_law_read") 2 sp__law_read := by
  obtain ⟨fd, F⟩ := T.d__law_read
  refine fn3 T.g__law_read F sc__law_read (FunD.bindsN F fun _ _ _ _ _ _ us hl => match us, hl with | [_], _ => rfl) (fun ds G Q E h => by unfold sp__law_read at h; split at h <;> first | rfl | exact h.elim) ⟨t__law_read, fun cdv A outer s H E hr => ?_, vc__law_read⟩
  have nd := (sc__law_read).nd
  have tk := tk_of (P := P) (w := w) (K := K) (mg := mg) (base := base) (N := N__law_read) (qual := (Str.ofString "_law_read")) (scope := defScope s__law_read) (f := (He.fAd K ((Str.ofString "_law_read"), none))) (cdv := cdv) (A := A) (outer := outer) (s := s) (H := H) (E := E)
  have pas := pas_of (P := P) (w := w) (K := K) (mg := mg) (base := base) (N := N__law_read) (qual := (Str.ofString "_law_read")) (scope := defScope s__law_read) (f := (He.fAd K ((Str.ofString "_law_read"), none))) (cdv := cdv) (A := A) (outer := outer) (s := s) (H := H) (E := E)
  exact (scons_ (sif_ (tnot_ (tv_ (isi_ T.f_isinstance (isc_b .str T.f_str) (tb_b T.isf .str) (v_ 0)))) (sone_ (ret_ (tup_ (cons_ cs_ (cons_ (neg_ ci_) nil_))))) snil_)
    (scons_ (par3_ 2 3 4 rfl nd (cons_ ci_ (cons_ (lst_ true (cons_ (lst_ true nil_) nil_)) (cons_ cs_ nil_))))
    (scons_ (for_ (.n 1) pas rfl (irng1_ T.f_range (cons_ (bf_ b_len T.f_len (by decide +kernel) (cons_ (v_ 0) nil_)) nil_)) (tg1_ 1 nd) (sone_ (sif_ (tcm_ o_lt (v_ 2) (bf_ b_len T.f_len (by decide +kernel) (cons_ (v_ 0) nil_)) (nomark _)) (scons_ (par_ 5 6 rfl nd (cons_ (ix_ (v_ 0) (v_ 2) (fun _ _ => rfl)) (cons_ (cm_ o_gt (bf_ b_len T.f_len (by decide +kernel) (cons_ (v_ 3) nil_)) ci_ (nomark _)) nil_)))
    (sone_ (sif_ (tw_ (wand_ (tcm_ (o_eq hr) (v_ 5) cs_ (nomark _)) (wand_ (tv_ (v_ 6)) (w1and_ (tcm_ (o_ne hr) (v_ 4) cs_ (nomark _)))))) (scons_ (set_ 7 (bt_ b_tup T.f_tuple (by decide +kernel) (cons_ (m0_ PySem.F.plainAttrs_list PySem.F.slot_list_pop PySem.F.type_list_pop ty_list me_pop (v_ 3)) nil_)) nd)
    (scons_ (expr_ (m_ PySem.F.plainAttrs_list PySem.F.slot_list_append PySem.F.type_list_append ty_list me_append (ix_ (v_ 3) (neg_ ci_) (fun _ _ => rfl)) (cons_ (v_ 7) nil_)))
    (sone_ (par_ 2 4 rfl nd (cons_ (op_ (o_add false) (v_ 2) ci_) (cons_ cs_ nil_)))))) (sone_ (sif_ (tw_ (wand_ (tcm_ (o_eq hr) (v_ 5) cs_ (nomark _)) (wand_ (tv_ (v_ 6)) (w1and_ (tcm_ (o_eq hr) (v_ 4) cs_ (nomark _)))))) (sone_ (par_ 2 4 rfl nd (cons_ (op_ (o_add false) (v_ 2) ci_) (cons_ cs_ nil_)))) (sone_ (sif_ (tw_ (wand_ (tcm_ (o_eq hr) (v_ 5) cs_ (nomark _)) (wand_ (tcm_ (o_ne hr) (v_ 4) cs_ (nomark _)) (w1and_ (tcm_ o_le (bf_ b_len T.f_len (by decide +kernel) (cons_ (v_ 3) nil_)) ci_ (nomark _)))))) (scons_ (expr_ (m_ PySem.F.plainAttrs_list PySem.F.slot_list_append PySem.F.type_list_append ty_list me_append (v_ 3) (cons_ (lst_ true nil_) nil_)))
    (sone_ (par_ 2 4 rfl nd (cons_ (op_ (o_add false) (v_ 2) ci_) (cons_ cs_ nil_))))) (scons_ (set_ 8 (if_ (tcm_ (o_ne hr) (v_ 4) cs_ (nomark _)) (call_ (F__law_token T) hr (by decide) tk (cons_ (v_ 0) (cons_ (v_ 2) nil_))) ci_) nd)
    (scons_ (sif_ (tcm_ (o_eq hr) (v_ 8) ci_ (nomark _)) (sone_ (ret_ (tup_ (cons_ cs_ (cons_ (v_ 2) nil_))))) snil_)
    (scons_ (expr_ (m_ PySem.F.plainAttrs_list PySem.F.slot_list_append PySem.F.type_list_append ty_list me_append (ix_ (v_ 3) (neg_ ci_) (fun _ _ => rfl)) (cons_ (call_ (F__law_item T) hr (by decide) tk (cons_ (sl_ false (v_ 0) (os_ (v_ 2)) (os_ (op_ (o_add false) (v_ 2) (v_ 8)))) nil_)) nil_)))
    (sone_ (par_ 2 4 rfl nd (cons_ (op_ (o_add false) (v_ 2) (v_ 8)) (cons_ cs_ nil_)))))))))))))) snil_)))
    (sone_ (ret_ (if_ (tw_ (wand_ (tcm_ (o_eq hr) (v_ 4) cs_ (nomark _)) (w1and_ (tcm_ (o_eq hr) (bf_ b_len T.f_len (by decide +kernel) (cons_ (v_ 3) nil_)) ci_ (nomark _))))) (tup_ (cons_ cs_ (cons_ (ix_ (ix_ (v_ 3) ci_ (fun _ _ => rfl)) ci_ (fun _ _ => rfl)) nil_))) (tup_ (cons_ cs_ (cons_ (bf_ b_len T.f_len (by decide +kernel) (cons_ (v_ 0) nil_)) nil_)))))))))
set_option maxHeartbeats 4000000 in
theorem sc__law_spoilt : FnScope N__law_spoilt [(Str.ofString "_law_hand_here"), (Str.ofString "_law_text")] (defScope s__law_spoilt) := ⟨rfl, rfl, rfl, by decide +kernel, rfl, by decide +kernel, by decide +kernel⟩
theorem F__law_spoilt (T : Tx w K mg) : Fn3 P w K mg base (Str.ofString "_law_spoilt") 3 sp__law_spoilt := by
  obtain ⟨fd, F⟩ := T.d__law_spoilt
  refine fn3 T.g__law_spoilt F sc__law_spoilt (FunD.bindsN F fun _ _ _ _ _ _ us hl => match us, hl with | [_, _], _ => rfl) (fun ds G Q E h => by unfold sp__law_spoilt at h; split at h <;> first | rfl | exact h.elim) ⟨t__law_spoilt, fun cdv A outer s H E hr => ?_, vc__law_spoilt⟩
  have nd := (sc__law_spoilt).nd
  have tk := tk_of (P := P) (w := w) (K := K) (mg := mg) (base := base) (N := N__law_spoilt) (qual := (Str.ofString "_law_spoilt")) (scope := defScope s__law_spoilt) (f := (He.fAd K ((Str.ofString "_law_spoilt"), none))) (cdv := cdv) (A := A) (outer := outer) (s := s) (H := H) (E := E)
  exact (scons_ (par_ 4 5 rfl nd (cons_ (call_ (F__law_draw T) hr (by decide) tk (cons_ (v_ 0) (cons_ (op_ (o_add false) (bf_ b_len T.f_len (by decide +kernel) (cons_ (v_ 1) nil_)) ci_) nil_))) (cons_ (call_ (F__law_draw T) hr (by decide) tk (cons_ (v_ 0) (cons_ ci_ nil_))) nil_)))
    (scons_ (set_ 2 (lst_ false (cons_ cs_ (cons_ cs_ (cons_ cs_ (cons_ cs_ (cons_ cs_ (cons_ cs_ (cons_ cs_ (cons_ cs_ (cons_ cs_ (cons_ cs_ (cons_ cs_ (cons_ cs_ (cons_ cs_ (cons_ cs_ (cons_ cs_ (cons_ cs_ (cons_ (op_ o_mulS cs_ ci_) (cons_ (op_ o_mulS cs_ ci_) nil_))))))))))))))))))) nd)
    (scons_ (set_ 3 (call_ (F__law_some T) hr (by decide) tk (cons_ (v_ 0) (cons_ (v_ 2) nil_))) nd)
    (scons_ (sif_ (tcm_ o_lt (v_ 5) ci_ (nomark _)) (sone_ (ret_ (op_ (o_add false) (op_ (o_add false) (sl_ false (v_ 1) on_ (os_ (v_ 4))) (v_ 3)) (sl_ false (v_ 1) (os_ (v_ 4)) on_)))) snil_)
    (scons_ (sif_ (tcm_ o_lt (v_ 5) ci_ (nomark _)) (sone_ (ret_ (op_ (o_add false) (sl_ false (v_ 1) on_ (os_ (v_ 4))) (sl_ false (v_ 1) (os_ (op_ (o_add false) (v_ 4) ci_)) on_)))) snil_)
    (sone_ (ret_ (if_ (tcm_ (o_eq hr) (v_ 5) ci_ (nomark _)) (op_ (o_add false) (op_ (o_add false) (sl_ false (v_ 1) on_ (os_ (v_ 4))) (v_ 3)) (sl_ false (v_ 1) (os_ (op_ (o_add false) (v_ 4) ci_)) on_)) (sl_ false (v_ 1) on_ (os_ (v_ 4)))))))))))
set_option maxHeartbeats 4000000 in
theorem sc_ThingReader___init__ : FnScope N_ThingReader___init__ [(Str.ofString "self"), (Str.ofString "text")] (defScope s_ThingReader___init__) := ⟨rfl, rfl, rfl, by decide +kernel, rfl, by decide +kernel, by decide +kernel⟩
theorem F_ThingReader___init__ (T : Tx w K mg) : Mn3 P w K mg base (He.fAd K ((Str.ofString "ThingReader"), some (Str.ofString "__init__"))) 1 sp_ThingReader___init__ := by
  obtain ⟨fd, F⟩ := T.d_ThingReader___init__
  refine ⟨fd, _, (FunD.bindsN F fun _ _ _ _ _ _ us hl => match us, hl with | [_, _], _ => rfl), fn3_of F sc_ThingReader___init__ (fun ds G Q E h => by unfold sp_ThingReader___init__ at h; split at h <;> first | rfl | exact h.elim) ⟨t_ThingReader___init__, fun cdv A outer s H E hr => ?_, vc_ThingReader___init__⟩⟩
  have nd := (sc_ThingReader___init__).nd
  exact (scons_ (sfld_ (Str.ofString "ThingReader") T.c_ThingReader T.n_ThingReader_signs (v_ 0) (v_ 1))
    (sone_ (sfld_ (Str.ofString "ThingReader") T.c_ThingReader T.n_ThingReader_at (v_ 0) ci_)))
set_option maxHeartbeats 4000000 in
theorem sc_ThingReader_refuse : FnScope N_ThingReader_refuse [(Str.ofString "self")] (defScope s_ThingReader_refuse) := ⟨rfl, rfl, rfl, by decide +kernel, rfl, by decide +kernel, by decide +kernel⟩
theorem F_ThingReader_refuse (T : Tx w K mg) : Mn3 P w K mg base (He.fAd K ((Str.ofString "ThingReader"), some (Str.ofString "refuse"))) 3 sp_ThingReader_refuse := by
  obtain ⟨fd, F⟩ := T.d_ThingReader_refuse
  refine ⟨fd, _, (FunD.bindsN F fun _ _ _ _ _ _ us hl => match us, hl with | [_], _ => rfl), fn3_of F sc_ThingReader_refuse (fun ds G Q E h => by unfold sp_ThingReader_refuse at h; split at h <;> first | rfl | exact h.elim) ⟨t_ThingReader_refuse, fun cdv A outer s H E hr => ?_, vc_ThingReader_refuse⟩⟩
  have nd := (sc_ThingReader_refuse).nd
  have tk := tk_of (P := P) (w := w) (K := K) (mg := mg) (base := base) (N := N_ThingReader_refuse) (qual := (Str.ofString "ThingReader.refuse")) (scope := defScope s_ThingReader_refuse) (f := (He.fAd K ((Str.ofString "ThingReader"), some (Str.ofString "refuse")))) (cdv := cdv) (A := A) (outer := outer) (s := s) (H := H) (E := E)
  obtain ⟨_, _, bx_BadThing, fx_BadThing⟩ := FX_BadThing (P := P) (w := w) (mg := mg) (base := base) T
  exact (sone_ (raisef_ rfl tk T.xf_BadThing fx_BadThing bx_BadThing hr (by decide) T.g_BadThing (fld_ (Str.ofString "ThingReader") T.c_ThingReader T.n_ThingReader_at (v_ 0))))
set_option maxHeartbeats 4000000 in
theorem sc_ThingReader_next_sign : FnScope N_ThingReader_next_sign [(Str.ofString "self")] (defScope s_ThingReader_next_sign) := ⟨rfl, rfl, rfl, by decide +kernel, rfl, by decide +kernel, by decide +kernel⟩
theorem F_ThingReader_next_sign (T : Tx w K mg) : Mn3 P w K mg base (He.fAd K ((Str.ofString "ThingReader"), some (Str.ofString "next_sign"))) 1 sp_ThingReader_next_sign := by
  obtain ⟨fd, F⟩ := T.d_ThingReader_next_sign
  refine ⟨fd, _, (FunD.bindsN F fun _ _ _ _ _ _ us hl => match us, hl with | [_], _ => rfl), fn3_of F sc_ThingReader_next_sign (fun ds G Q E h => by unfold sp_ThingReader_next_sign at h; split at h <;> first | rfl | exact h.elim) ⟨t_ThingReader_next_sign, fun cdv A outer s H E hr => ?_, vc_ThingReader_next_sign⟩⟩
  have nd := (sc_ThingReader_next_sign).nd
  exact (sone_ (ret_ (sl_ false (fld_ (Str.ofString "ThingReader") T.c_ThingReader T.n_ThingReader_signs (v_ 0)) (os_ (fld_ (Str.ofString "ThingReader") T.c_ThingReader T.n_ThingReader_at (v_ 0))) (os_ (op_ (o_add false) (fld_ (Str.ofString "ThingReader") T.c_ThingReader T.n_ThingReader_at (v_ 0)) ci_)))))
set_option maxHeartbeats 4000000 in
theorem sc_ThingReader_is_next : FnScope N_ThingReader_is_next [(Str.ofString "self"), (Str.ofString "some")] (defScope s_ThingReader_is_next) := ⟨rfl, rfl, rfl, by decide +kernel, rfl, by decide +kernel, by decide +kernel⟩
theorem F_ThingReader_is_next (T : Tx w K mg) : Mn3 P w K mg base (He.fAd K ((Str.ofString "ThingReader"), some (Str.ofString "is_next"))) 3 sp_ThingReader_is_next := by
  obtain ⟨fd, F⟩ := T.d_ThingReader_is_next
  refine ⟨fd, _, (FunD.bindsN F fun _ _ _ _ _ _ us hl => match us, hl with | [_, _], _ => rfl), fn3_of F sc_ThingReader_is_next (fun ds G Q E h => by unfold sp_ThingReader_is_next at h; split at h <;> first | rfl | exact h.elim) ⟨t_ThingReader_is_next, fun cdv A outer s H E hr => ?_, vc_ThingReader_is_next⟩⟩
  have nd := (sc_ThingReader_is_next).nd
  have tk := tk_of (P := P) (w := w) (K := K) (mg := mg) (base := base) (N := N_ThingReader_is_next) (qual := (Str.ofString "ThingReader.is_next")) (scope := defScope s_ThingReader_is_next) (f := (He.fAd K ((Str.ofString "ThingReader"), some (Str.ofString "is_next")))) (cdv := cdv) (A := A) (outer := outer) (s := s) (H := H) (E := E)
  exact (sone_ (ret_ (and_ (cm_ (o_ne hr) (mth0_ (Str.ofString "ThingReader") (F_ThingReader_next_sign T) T.c_ThingReader T.mt_ThingReader_next_sign hr (by decide) tk (v_ 0)) cs_ (nomark _)) (one_ (cm_ o_inA (mth0_ (Str.ofString "ThingReader") (F_ThingReader_next_sign T) T.c_ThingReader T.mt_ThingReader_next_sign hr (by decide) tk (v_ 0)) (v_ 1) rfl)))))
set_option maxHeartbeats 4000000 in
theorem sc_ThingReader_pass_by : FnScope N_ThingReader_pass_by [(Str.ofString "self"), (Str.ofString "sign")] (defScope s_ThingReader_pass_by) := ⟨rfl, rfl, rfl, by decide +kernel, rfl, by decide +kernel, by decide +kernel⟩
theorem F_ThingReader_pass_by (T : Tx w K mg) : Mn3 P w K mg base (He.fAd K ((Str.ofString "ThingReader"), some (Str.ofString "pass_by"))) 5 sp_ThingReader_pass_by := by
  obtain ⟨fd, F⟩ := T.d_ThingReader_pass_by
  refine ⟨fd, _, (FunD.bindsN F fun _ _ _ _ _ _ us hl => match us, hl with | [_, _], _ => rfl), fn3_of F sc_ThingReader_pass_by (fun ds G Q E h => by unfold sp_ThingReader_pass_by at h; split at h <;> first | rfl | exact h.elim) ⟨t_ThingReader_pass_by, fun cdv A outer s H E hr => ?_, vc_ThingReader_pass_by⟩⟩
  have nd := (sc_ThingReader_pass_by).nd
  have tk := tk_of (P := P) (w := w) (K := K) (mg := mg) (base := base) (N := N_ThingReader_pass_by) (qual := (Str.ofString "ThingReader.pass_by")) (scope := defScope s_ThingReader_pass_by) (f := (He.fAd K ((Str.ofString "ThingReader"), some (Str.ofString "pass_by")))) (cdv := cdv) (A := A) (outer := outer) (s := s) (H := H) (E := E)
  exact (scons_ (sif_ (tcm_ (o_ne hr) (mth0_ (Str.ofString "ThingReader") (F_ThingReader_next_sign T) T.c_ThingReader T.mt_ThingReader_next_sign hr (by decide) tk (v_ 0)) (v_ 1) (nomark _)) (sone_ (expr_ (mth0_ (Str.ofString "ThingReader") (F_ThingReader_refuse T) T.c_ThingReader T.mt_ThingReader_refuse hr (by decide) tk (v_ 0)))) snil_)
    (sone_ (augF_ (Str.ofString "ThingReader") (i_of iadd_) T.c_ThingReader T.n_ThingReader_at (v_ 0) ci_)))
set_option maxHeartbeats 4000000 in
theorem sc_ThingReader_take_all : FnScope N_ThingReader_take_all [(Str.ofString "self"), (Str.ofString "some"), (Str.ofString "most")] (defScope s_ThingReader_take_all) := ⟨rfl, rfl, rfl, by decide +kernel, rfl, by decide +kernel, by decide +kernel⟩
theorem F_ThingReader_take_all (T : Tx w K mg) : Mn3 P w K mg base (He.fAd K ((Str.ofString "ThingReader"), some (Str.ofString "take_all"))) 5 sp_ThingReader_take_all := by
  obtain ⟨fd, F⟩ := T.d_ThingReader_take_all
  refine ⟨fd, _, (FunD.bindsN F fun _ _ _ _ _ _ us hl => match us, hl with | [_, _, _], _ => rfl), fn3_of F sc_ThingReader_take_all (fun ds G Q E h => by unfold sp_ThingReader_take_all at h; split at h <;> first | rfl | exact h.elim) ⟨t_ThingReader_take_all, fun cdv A outer s H E hr => ?_, vc_ThingReader_take_all⟩⟩
  have nd := (sc_ThingReader_take_all).nd
  have tk := tk_of (P := P) (w := w) (K := K) (mg := mg) (base := base) (N := N_ThingReader_take_all) (qual := (Str.ofString "ThingReader.take_all")) (scope := defScope s_ThingReader_take_all) (f := (He.fAd K ((Str.ofString "ThingReader"), some (Str.ofString "take_all")))) (cdv := cdv) (A := A) (outer := outer) (s := s) (H := H) (E := E)
  have pas := pas_of (P := P) (w := w) (K := K) (mg := mg) (base := base) (N := N_ThingReader_take_all) (qual := (Str.ofString "ThingReader.take_all")) (scope := defScope s_ThingReader_take_all) (f := (He.fAd K ((Str.ofString "ThingReader"), some (Str.ofString "take_all")))) (cdv := cdv) (A := A) (outer := outer) (s := s) (H := H) (E := E)
  exact (scons_ (set_ 3 (fld_ (Str.ofString "ThingReader") T.c_ThingReader T.n_ThingReader_at (v_ 0)) nd)
    (scons_ (while_ pas (tw_ (wand_ (tv_ (mth_ (Str.ofString "ThingReader") (F_ThingReader_is_next T) T.c_ThingReader T.mt_ThingReader_is_next hr (by decide) tk (v_ 0) (cons_ (v_ 1) nil_))) (w1and_ (tcm_ o_lt (op_ o_sub (fld_ (Str.ofString "ThingReader") T.c_ThingReader T.n_ThingReader_at (v_ 0)) (v_ 3)) (v_ 2) (nomark _))))) (sone_ (augF_ (Str.ofString "ThingReader") (i_of iadd_) T.c_ThingReader T.n_ThingReader_at (v_ 0) ci_)))
    (sone_ (ret_ (sl_ false (fld_ (Str.ofString "ThingReader") T.c_ThingReader T.n_ThingReader_signs (v_ 0)) (os_ (v_ 3)) (os_ (fld_ (Str.ofString "ThingReader") T.c_ThingReader T.n_ThingReader_at (v_ 0))))))))
set_option maxHeartbeats 4000000 in
theorem sc_ThingReader_number : FnScope N_ThingReader_number [(Str.ofString "self"), (Str.ofString "is_zero_let")] (defScope s_ThingReader_number) := ⟨rfl, rfl, rfl, by decide +kernel, rfl, by decide +kernel, by decide +kernel⟩
theorem F_ThingReader_number (T : Tx w K mg) : Mn3 P w K mg base (He.fAd K ((Str.ofString "ThingReader"), some (Str.ofString "number"))) 7 sp_ThingReader_number := by
  obtain ⟨fd, F⟩ := T.d_ThingReader_number
  refine ⟨fd, _, (FunD.bindsN F fun _ _ _ _ _ _ us hl => match us, hl with | [_, _], _ => rfl), fn3_of F sc_ThingReader_number (fun ds G Q E h => by unfold sp_ThingReader_number at h; split at h <;> first | rfl | exact h.elim) ⟨t_ThingReader_number, fun cdv A outer s H E hr => ?_, vc_ThingReader_number⟩⟩
  have nd := (sc_ThingReader_number).nd
  have tk := tk_of (P := P) (w := w) (K := K) (mg := mg) (base := base) (N := N_ThingReader_number) (qual := (Str.ofString "ThingReader.number")) (scope := defScope s_ThingReader_number) (f := (He.fAd K ((Str.ofString "ThingReader"), some (Str.ofString "number")))) (cdv := cdv) (A := A) (outer := outer) (s := s) (H := H) (E := E)
  exact (scons_ (sif_ (tw_ (wor_ (tnot_ (tv_ (mth_ (Str.ofString "ThingReader") (F_ThingReader_is_next T) T.c_ThingReader T.mt_ThingReader_is_next hr (by decide) tk (v_ 0) (cons_ (cgs_ T.s_FIGURES) nil_)))) (w1or_ (tw_ (wand_ (tcm_ (o_eq hr) (mth0_ (Str.ofString "ThingReader") (F_ThingReader_next_sign T) T.c_ThingReader T.mt_ThingReader_next_sign hr (by decide) tk (v_ 0)) cs_ (nomark _)) (w1and_ (tnot_ (tv_ (v_ 1))))))))) (sone_ (expr_ (mth0_ (Str.ofString "ThingReader") (F_ThingReader_refuse T) T.c_ThingReader T.mt_ThingReader_refuse hr (by decide) tk (v_ 0)))) snil_)
    (scons_ (sif_ (tcm_ (o_eq hr) (mth0_ (Str.ofString "ThingReader") (F_ThingReader_next_sign T) T.c_ThingReader T.mt_ThingReader_next_sign hr (by decide) tk (v_ 0)) cs_ (nomark _)) (scons_ (expr_ (mth_ (Str.ofString "ThingReader") (F_ThingReader_pass_by T) T.c_ThingReader T.mt_ThingReader_pass_by hr (by decide) tk (v_ 0) (cons_ cs_ nil_)))
    (sone_ (ret_ ci_))) snil_)
    (sone_ (ret_ (bt_ b_intS T.f_int (by decide +kernel) (cons_ (mth_ (Str.ofString "ThingReader") (F_ThingReader_take_all T) T.c_ThingReader T.mt_ThingReader_take_all hr (by decide) tk (v_ 0) (cons_ (cgs_ T.s_FIGURES) (cons_ (cgi_ T.i_MOST_FIGURES) nil_))) nil_))))))
set_option maxHeartbeats 4000000 in
theorem sc_ThingReader_below_or_none : FnScope N_ThingReader_below_or_none [(Str.ofString "self")] (defScope s_ThingReader_below_or_none) := ⟨rfl, rfl, rfl, by decide +kernel, rfl, by decide +kernel, by decide +kernel⟩
theorem F_ThingReader_below_or_none (T : Tx w K mg) : Mn3 P w K mg base (He.fAd K ((Str.ofString "ThingReader"), some (Str.ofString "below_or_none"))) 9 sp_ThingReader_below_or_none := by
  obtain ⟨fd, F⟩ := T.d_ThingReader_below_or_none
  refine ⟨fd, _, (FunD.bindsN F fun _ _ _ _ _ _ us hl => match us, hl with | [_], _ => rfl), fn3_of F sc_ThingReader_below_or_none (fun ds G Q E h => by unfold sp_ThingReader_below_or_none at h; split at h <;> first | rfl | exact h.elim) ⟨t_ThingReader_below_or_none, fun cdv A outer s H E hr => ?_, vc_ThingReader_below_or_none⟩⟩
  have nd := (sc_ThingReader_below_or_none).nd
  have tk := tk_of (P := P) (w := w) (K := K) (mg := mg) (base := base) (N := N_ThingReader_below_or_none) (qual := (Str.ofString "ThingReader.below_or_none")) (scope := defScope s_ThingReader_below_or_none) (f := (He.fAd K ((Str.ofString "ThingReader"), some (Str.ofString "below_or_none")))) (cdv := cdv) (A := A) (outer := outer) (s := s) (H := H) (E := E)
  exact (scons_ (expr_ (mth_ (Str.ofString "ThingReader") (F_ThingReader_pass_by T) T.c_ThingReader T.mt_ThingReader_pass_by hr (by decide) tk (v_ 0) (cons_ (cgs_ T.s_MINUS) nil_)))
    (sone_ (ret_ (if_ (tv_ (mth_ (Str.ofString "ThingReader") (F_ThingReader_is_next T) T.c_ThingReader T.mt_ThingReader_is_next hr (by decide) tk (v_ 0) (cons_ (cgs_ T.s_FIGURES) nil_))) (neg_ (mth_ (Str.ofString "ThingReader") (F_ThingReader_number T) T.c_ThingReader T.mt_ThingReader_number hr (by decide) tk (v_ 0) (cons_ cb_ nil_))) cn_))))
set_option maxHeartbeats 4000000 in
theorem sc_ThingReader_word : FnScope N_ThingReader_word [(Str.ofString "self")] (defScope s_ThingReader_word) := ⟨rfl, rfl, rfl, by decide +kernel, rfl, by decide +kernel, by decide +kernel⟩
theorem F_ThingReader_word (T : Tx w K mg) : Mn3 P w K mg base (He.fAd K ((Str.ofString "ThingReader"), some (Str.ofString "word"))) 7 sp_ThingReader_word := by
  obtain ⟨fd, F⟩ := T.d_ThingReader_word
  refine ⟨fd, _, (FunD.bindsN F fun _ _ _ _ _ _ us hl => match us, hl with | [_], _ => rfl), fn3_of F sc_ThingReader_word (fun ds G Q E h => by unfold sp_ThingReader_word at h; split at h <;> first | rfl | exact h.elim) ⟨t_ThingReader_word, fun cdv A outer s H E hr => ?_, vc_ThingReader_word⟩⟩
  have nd := (sc_ThingReader_word).nd
  have tk := tk_of (P := P) (w := w) (K := K) (mg := mg) (base := base) (N := N_ThingReader_word) (qual := (Str.ofString "ThingReader.word")) (scope := defScope s_ThingReader_word) (f := (He.fAd K ((Str.ofString "ThingReader"), some (Str.ofString "word")))) (cdv := cdv) (A := A) (outer := outer) (s := s) (H := H) (E := E)
  exact (scons_ (set_ 1 (mth_ (Str.ofString "ThingReader") (F_ThingReader_take_all T) T.c_ThingReader T.mt_ThingReader_take_all hr (by decide) tk (v_ 0) (cons_ (cgs_ T.s_LETTERS) (cons_ (cgi_ T.i_MOST_LETTERS) nil_))) nd)
    (sone_ (ret_ (if_ (tcm_ o_in (v_ 1) (tup_ (cons_ (cgs_ T.s_YES) (cons_ (cgs_ T.s_NO) nil_))) rfl) (cm_ (o_eq hr) (v_ 1) (cgs_ T.s_YES) (nomark _)) (v_ 1)))))
set_option maxHeartbeats 4000000 in
theorem sc_ThingReader_several : FnScope N_ThingReader_several [(Str.ofString "self"), (Str.ofString "left")] (defScope s_ThingReader_several) := ⟨rfl, rfl, rfl, by decide +kernel, rfl, by decide +kernel, by decide +kernel⟩
set_option maxHeartbeats 4000000 in
theorem sc_ThingReader_thing : FnScope N_ThingReader_thing [(Str.ofString "self"), (Str.ofString "left")] (defScope s_ThingReader_thing) := ⟨rfl, rfl, rfl, by decide +kernel, rfl, by decide +kernel, by decide +kernel⟩
theorem Fr_ThingReader_thing (T : Tx w K mg) : ∀ n : Nat, Mn3 P w K mg base (He.fAd K ((Str.ofString "ThingReader"), some (Str.ofString "thing"))) (2 * n + 11) (sp_ThingReader_thing n) ∧ Mn3 P w K mg base (He.fAd K ((Str.ofString "ThingReader"), some (Str.ofString "several"))) (2 * n + 11) (sp_ThingReader_several n) := by
  obtain ⟨fdThingReader_thing, FThingReader_thing⟩ := T.d_ThingReader_thing
  obtain ⟨fdThingReader_several, FThingReader_several⟩ := T.d_ThingReader_several
  intro n
  induction n with
  | zero =>
    refine ⟨?_, ?_⟩
    · exact ⟨fdThingReader_thing, _, (FunD.bindsN FThingReader_thing fun _ _ _ _ _ _ us hl => match us, hl with | [_, _], _ => rfl), fn3_of FThingReader_thing sc_ThingReader_thing (fun ds G Q E h => h.elim) ⟨sdead, fun cdv A outer s H E hr => ssdead_, fun ds G Q E h => h.elim⟩⟩
    · exact ⟨fdThingReader_several, _, (FunD.bindsN FThingReader_several fun _ _ _ _ _ _ us hl => match us, hl with | [_, _], _ => rfl), fn3_of FThingReader_several sc_ThingReader_several (fun ds G Q E h => h.elim) ⟨sdead, fun cdv A outer s H E hr => ssdead_, fun ds G Q E h => h.elim⟩⟩
  | succ n ih0 =>
    rw [show 2 * (n + 1) + 11 = (2 * n + 11) + 2 by omega]
    refine ⟨?_, ?_⟩
    · have ih := ih0.2
      refine ⟨fdThingReader_thing, _, (FunD.bindsN FThingReader_thing fun _ _ _ _ _ _ us hl => match us, hl with | [_, _], _ => rfl), fn3_of FThingReader_thing sc_ThingReader_thing (fun ds G Q E h => by unfold sp_ThingReader_thing at h; split at h <;> first | rfl | exact h.elim) ⟨t_ThingReader_thing (sp_ThingReader_several n), fun cdv A outer s H E hr => ?_, vc_ThingReader_thing n⟩⟩
      have nd := (sc_ThingReader_thing).nd
      have tk := tk_of (P := P) (w := w) (K := K) (mg := mg) (base := base) (N := N_ThingReader_thing) (qual := (Str.ofString "ThingReader.thing")) (scope := defScope s_ThingReader_thing) (f := (He.fAd K ((Str.ofString "ThingReader"), some (Str.ofString "thing")))) (cdv := cdv) (A := A) (outer := outer) (s := s) (H := H) (E := E)
      exact (scons_ (sif_ (tcm_ (o_eq hr) (mth0_ (Str.ofString "ThingReader") (F_ThingReader_next_sign T) T.c_ThingReader T.mt_ThingReader_next_sign hr (by omega) tk (v_ 0)) cs_ (nomark _)) (sone_ (ret_ (mth_ (Str.ofString "ThingReader") ih T.c_ThingReader T.mt_ThingReader_several hr (by omega) tk (v_ 0) (cons_ (v_ 1) nil_)))) snil_)
    (scons_ (sif_ (tcm_ (o_eq hr) (mth0_ (Str.ofString "ThingReader") (F_ThingReader_next_sign T) T.c_ThingReader T.mt_ThingReader_next_sign hr (by omega) tk (v_ 0)) (cgs_ T.s_MINUS) (nomark _)) (sone_ (ret_ (mth0_ (Str.ofString "ThingReader") (F_ThingReader_below_or_none T) T.c_ThingReader T.mt_ThingReader_below_or_none hr (by omega) tk (v_ 0)))) snil_)
    (sone_ (ret_ (if_ (tv_ (mth_ (Str.ofString "ThingReader") (F_ThingReader_is_next T) T.c_ThingReader T.mt_ThingReader_is_next hr (by omega) tk (v_ 0) (cons_ (cgs_ T.s_LETTERS) nil_))) (mth0_ (Str.ofString "ThingReader") (F_ThingReader_word T) T.c_ThingReader T.mt_ThingReader_word hr (by omega) tk (v_ 0)) (mth_ (Str.ofString "ThingReader") (F_ThingReader_number T) T.c_ThingReader T.mt_ThingReader_number hr (by omega) tk (v_ 0) (cons_ cb_ nil_)))))))
    · have ih := ih0.1
      refine ⟨fdThingReader_several, _, (FunD.bindsN FThingReader_several fun _ _ _ _ _ _ us hl => match us, hl with | [_, _], _ => rfl), fn3_of FThingReader_several sc_ThingReader_several (fun ds G Q E h => by unfold sp_ThingReader_several at h; split at h <;> first | rfl | exact h.elim) ⟨t_ThingReader_several (sp_ThingReader_thing n), fun cdv A outer s H E hr => ?_, vc_ThingReader_several n⟩⟩
      have nd := (sc_ThingReader_several).nd
      have tk := tk_of (P := P) (w := w) (K := K) (mg := mg) (base := base) (N := N_ThingReader_several) (qual := (Str.ofString "ThingReader.several")) (scope := defScope s_ThingReader_several) (f := (He.fAd K ((Str.ofString "ThingReader"), some (Str.ofString "several")))) (cdv := cdv) (A := A) (outer := outer) (s := s) (H := H) (E := E)
      have pas := pas_of (P := P) (w := w) (K := K) (mg := mg) (base := base) (N := N_ThingReader_several) (qual := (Str.ofString "ThingReader.several")) (scope := defScope s_ThingReader_several) (f := (He.fAd K ((Str.ofString "ThingReader"), some (Str.ofString "several")))) (cdv := cdv) (A := A) (outer := outer) (s := s) (H := H) (E := E)
      exact (scons_ (sif_ (tcm_ (o_eq hr) (v_ 1) ci_ (nomark _)) (sone_ (expr_ (mth0_ (Str.ofString "ThingReader") (F_ThingReader_refuse T) T.c_ThingReader T.mt_ThingReader_refuse hr (by omega) tk (v_ 0)))) snil_)
    (scons_ (expr_ (mth_ (Str.ofString "ThingReader") (F_ThingReader_pass_by T) T.c_ThingReader T.mt_ThingReader_pass_by hr (by omega) tk (v_ 0) (cons_ cs_ nil_)))
    (scons_ (set_ 2 (lst_ true nil_) nd)
    (scons_ (sif_ (tcm_ (o_eq hr) (mth0_ (Str.ofString "ThingReader") (F_ThingReader_next_sign T) T.c_ThingReader T.mt_ThingReader_next_sign hr (by omega) tk (v_ 0)) cs_ (nomark _)) (scons_ (expr_ (mth_ (Str.ofString "ThingReader") (F_ThingReader_pass_by T) T.c_ThingReader T.mt_ThingReader_pass_by hr (by omega) tk (v_ 0) (cons_ cs_ nil_)))
    (sone_ (ret_ (tup_ nil_)))) snil_)
    (scons_ (expr_ (m_ PySem.F.plainAttrs_list PySem.F.slot_list_append PySem.F.type_list_append ty_list me_append (v_ 2) (cons_ (mth_ (Str.ofString "ThingReader") ih T.c_ThingReader T.mt_ThingReader_thing hr (by omega) tk (v_ 0) (cons_ (op_ o_sub (v_ 1) ci_) nil_)) nil_)))
    (scons_ (while_ pas (tcm_ (o_eq hr) (mth0_ (Str.ofString "ThingReader") (F_ThingReader_next_sign T) T.c_ThingReader T.mt_ThingReader_next_sign hr (by omega) tk (v_ 0)) cs_ (nomark _)) (scons_ (expr_ (mth_ (Str.ofString "ThingReader") (F_ThingReader_pass_by T) T.c_ThingReader T.mt_ThingReader_pass_by hr (by omega) tk (v_ 0) (cons_ cs_ nil_)))
    (sone_ (expr_ (m_ PySem.F.plainAttrs_list PySem.F.slot_list_append PySem.F.type_list_append ty_list me_append (v_ 2) (cons_ (mth_ (Str.ofString "ThingReader") ih T.c_ThingReader T.mt_ThingReader_thing hr (by omega) tk (v_ 0) (cons_ (op_ o_sub (v_ 1) ci_) nil_)) nil_))))))
    (scons_ (expr_ (mth_ (Str.ofString "ThingReader") (F_ThingReader_pass_by T) T.c_ThingReader T.mt_ThingReader_pass_by hr (by omega) tk (v_ 0) (cons_ cs_ nil_)))
    (sone_ (ret_ (bt_ b_tup T.f_tuple (by decide +kernel) (cons_ (v_ 2) nil_)))))))))))
theorem F_ThingReader_thing (T : Tx w K mg) (n : Nat) : Mn3 P w K mg base (He.fAd K ((Str.ofString "ThingReader"), some (Str.ofString "thing"))) (2 * n + 11) (sp_ThingReader_thing n) := (Fr_ThingReader_thing T n).1
theorem F_ThingReader_several (T : Tx w K mg) (n : Nat) : Mn3 P w K mg base (He.fAd K ((Str.ofString "ThingReader"), some (Str.ofString "several"))) (2 * n + 11) (sp_ThingReader_several n) := (Fr_ThingReader_thing T n).2
set_option maxHeartbeats 4000000 in
theorem sc_read_thing : FnScope N_read_thing [(Str.ofString "text")] (defScope s_read_thing) := ⟨rfl, rfl, rfl, by decide +kernel, rfl, by decide +kernel, by decide +kernel⟩
theorem F_read_thing (T : Tx w K mg) : Fn3 P w K mg base (Str.ofString "read_thing") 101 sp_read_thing := by
  obtain ⟨fd, F⟩ := T.d_read_thing
  refine fn3 T.g_read_thing F sc_read_thing (FunD.bindsN F fun _ _ _ _ _ _ us hl => match us, hl with | [_], _ => rfl) (fun ds G Q E h => by unfold sp_read_thing at h; split at h <;> first | rfl | exact h.elim) ⟨t_read_thing, fun cdv A outer s H E hr => ?_, vc_read_thing⟩
  have nd := (sc_read_thing).nd
  have tk := tk_of (P := P) (w := w) (K := K) (mg := mg) (base := base) (N := N_read_thing) (qual := (Str.ofString "read_thing")) (scope := defScope s_read_thing) (f := (He.fAd K ((Str.ofString "read_thing"), none))) (cdv := cdv) (A := A) (outer := outer) (s := s) (H := H) (E := E)
  obtain ⟨_, _, bx_BadThing, fx_BadThing⟩ := FX_BadThing (P := P) (w := w) (mg := mg) (base := base) T
  exact (scons_ (sif_ (tnot_ (tv_ (isi_ T.f_isinstance (isc_b .str T.f_str) (tb_b T.isf .str) (v_ 0)))) (sone_ (raisef_ rfl tk T.xf_BadThing fx_BadThing bx_BadThing hr (by decide) T.g_BadThing (neg_ ci_))) snil_)
    (scons_ (set_ 1 (mk_ T.m_ThingReader (F_ThingReader___init__ T) T.g_ThingReader hr (by decide) tk (cons_ (v_ 0) nil_)) nd)
    (scons_ (set_ 2 (mth_ (Str.ofString "ThingReader") (F_ThingReader_thing T 44) T.c_ThingReader T.mt_ThingReader_thing hr (by omega) tk (v_ 1) (cons_ (cgi_ T.i_MOST_DEEP) nil_)) nd)
    (scons_ (sif_ (tcm_ o_lt (fld_ (Str.ofString "ThingReader") T.c_ThingReader T.n_ThingReader_at (v_ 1)) (bf_ b_len T.f_len (by decide +kernel) (cons_ (v_ 0) nil_)) (nomark _)) (sone_ (expr_ (mth0_ (Str.ofString "ThingReader") (F_ThingReader_refuse T) T.c_ThingReader T.mt_ThingReader_refuse hr (by decide) tk (v_ 1)))) snil_)
    (sone_ (ret_ (v_ 2)))))))
set_option maxHeartbeats 4000000 in
theorem sc__law_told : FnScope N__law_told [(Str.ofString "_law_text")] (defScope s__law_told) := ⟨rfl, rfl, rfl, by decide +kernel, rfl, by decide +kernel, by decide +kernel⟩
theorem F__law_told (T : Tx w K mg) : Fn3 P w K mg base (Str.ofString "_law_told") 102 sp__law_told := by
  obtain ⟨fd, F⟩ := T.d__law_told
  refine fn3 T.g__law_told F sc__law_told (FunD.bindsN F fun _ _ _ _ _ _ us hl => match us, hl with | [_], _ => rfl) (fun ds G Q E h => by unfold sp__law_told at h; split at h <;> first | rfl | exact h.elim) ⟨t__law_told, fun cdv A outer s H E hr => ?_, vc__law_told⟩
  have nd := (sc__law_told).nd
  have tk := tk_of (P := P) (w := w) (K := K) (mg := mg) (base := base) (N := N__law_told) (qual := (Str.ofString "_law_told")) (scope := defScope s__law_told) (f := (He.fAd K ((Str.ofString "_law_told"), none))) (cdv := cdv) (A := A) (outer := outer) (s := s) (H := H) (E := E)
  have pas := pas_of (P := P) (w := w) (K := K) (mg := mg) (base := base) (N := N__law_told) (qual := (Str.ofString "_law_told")) (scope := defScope s__law_told) (f := (He.fAd K ((Str.ofString "_law_told"), none))) (cdv := cdv) (A := A) (outer := outer) (s := s) (H := H) (E := E)
  exact (scons_ (set_ 1 (tup_ (cons_ cs_ (cons_ cn_ nil_))) nd)
    (scons_ (try_ rfl rfl nd tk T.exm (fun _ _ _ tk pas => (sone_ (set_ 1 (tup_ (cons_ cs_ (cons_ (call_ (F_read_thing T) hr (by decide) tk (cons_ (v_ 0) nil_)) nil_))) nd))) (.consA 2 ⟨rfl, by decide +kernel, .inl T.g_BadThing⟩ rfl rfl (fun _ _ _ _ _ hz hf => (sone_ (set_ 1 (if_ (tw_ (wand_ (tv_ (isieF_ T.exi hz hf T.f_isinstance (isc_oe T.g_ForestError) (v_ 2))) (w1and_ (tv_ (isieF_ T.exi hz hf T.f_isinstance (isc_ve T.f_ValueError) (v_ 2)))))) (tup_ (cons_ cs_ (cons_ (xf_ T.xf_BadThing hz hf (v_ 2)) nil_))) (v_ 1)) nd))) .nil))
    (sone_ (ret_ (v_ 1)))))
set_option maxHeartbeats 4000000 in
theorem sc__law_written : FnScope N__law_written [(Str.ofString "_law_thing")] (defScope s__law_written) := ⟨rfl, rfl, rfl, by decide +kernel, rfl, by decide +kernel, by decide +kernel⟩
theorem F__law_written (T : Tx w K mg) : ∀ n : Nat, Fn3 P w K mg base (Str.ofString "_law_written") (n + 1) (sp__law_written n) := by
  obtain ⟨fd, F⟩ := T.d__law_written
  have B := (FunD.bindsN (ps := [(Str.ofString "_law_thing")]) F fun _ _ _ _ _ _ us hl => match us, hl with | [_], _ => rfl)
  intro n
  induction n with
  | zero => exact fn3 T.g__law_written F sc__law_written B (fun ds G Q E h => h.elim) ⟨sdead, fun cdv A outer s H E hr => ssdead_, fun ds G Q E h => h.elim⟩
  | succ n ih =>
    rw [show n + 1 + 1 = (n + 1) + 1 by omega]
    refine fn3 T.g__law_written F sc__law_written B (fun ds G Q E h => by unfold sp__law_written at h; split at h <;> first | rfl | exact h.elim) ⟨t__law_written (sp__law_written n), fun cdv A outer s H E hr => ?_, vc__law_written n⟩
    have nd := (sc__law_written).nd
    have tk := tk_of (P := P) (w := w) (K := K) (mg := mg) (base := base) (N := N__law_written) (qual := (Str.ofString "_law_written")) (scope := defScope s__law_written) (f := (He.fAd K ((Str.ofString "_law_written"), none))) (cdv := cdv) (A := A) (outer := outer) (s := s) (H := H) (E := E)
    exact (scons_ (sif_ (tcm_ o_is (v_ 0) cn_ (nomark _)) (sone_ (ret_ cs_)) snil_)
    (scons_ (sif_ (tv_ (isi_ T.f_isinstance (isc_b .bl T.f_bool) (tb_b T.isf .bl) (v_ 0))) (sone_ (ret_ (if_ (tv_ (v_ 0)) cs_ cs_))) snil_)
    (scons_ (sif_ (tv_ (isi_ T.f_isinstance (isc_b .tup T.f_tuple) (tb_b T.isf .tup) (v_ 0))) (sone_ (ret_ (op_ (o_add false) (op_ (o_add false) cs_ (m_ PySem.F.plainAttrs_str PySem.F.slot_str_join PySem.F.type_str_join ty_str me_join cs_ (cons_ (lc_ (own := [((Str.ofString "_law_one"), 1)]) false (.n 1) rfl nd (iseq_ (v_ 0)) (blkOk_by (N := N__law_written) (sc := (defScope s__law_written)) (by decide +kernel)) (by decide) (fun _ _ _ _ _ => (tg1_ 1 nd)) (fun _ _ _ _ _ => no_if) (fun _ _ _ _ _ => (call_ ih hr (by omega) takes_none5 (cons_ (v_ 1) nil_)))) nil_))) cs_))) snil_)
    (sone_ (ret_ (bt_ b_strA T.f_str (by decide +kernel) (cons_ (v_ 0) nil_)))))))
set_option maxHeartbeats 4000000 in
theorem sc_law : FnScope N_law [(Str.ofString "_law_script")] (defScope s_law) := ⟨rfl, rfl, rfl, by decide +kernel, rfl, by decide +kernel, by decide +kernel⟩
theorem F_law (T : Tx w K mg) : ∃ fd, (∀ (s : Shared) (u : Value), BindsTo s fd ⟨[u], []⟩ [((Str.ofString "_law_script"), u)]) ∧ ∀ base : Heap, FnOk P w K mg base (L2.CX P w) 103 (ga K (Str.ofString "law")) fd [(Str.ofString "_law_script")] (liftSp ⟨K, Z0⟩ sp_law) := by
  obtain ⟨fd, F⟩ := T.d_law
  refine ⟨fd, fun s u => (FunD.bindsA (ps := [(Str.ofString "_law_script")]) F fun _ _ _ _ _ _ us hl => match us, hl with | [_], _ => rfl) s [u] rfl, fun base => fn3_of F sc_law (fun ds G Q E h => by unfold sp_law at h; split at h <;> first | rfl | exact h.elim) ⟨t_law, fun cdv A outer s H E hr => ?_, vc_law⟩⟩
  have nd := (sc_law).nd
  have tk := tk_of (P := P) (w := w) (K := K) (mg := mg) (base := base) (N := N_law) (qual := (Str.ofString "law")) (scope := defScope s_law) (f := (He.fAd K ((Str.ofString "law"), none))) (cdv := cdv) (A := A) (outer := outer) (s := s) (H := H) (E := E)
  have pas := pas_of (P := P) (w := w) (K := K) (mg := mg) (base := base) (N := N_law) (qual := (Str.ofString "law")) (scope := defScope s_law) (f := (He.fAd K ((Str.ofString "law"), none))) (cdv := cdv) (A := A) (outer := outer) (s := s) (H := H) (E := E)
  exact (scons_ (set_ 1 (call_ (F__law_hand T) hr (by decide) tk (cons_ (v_ 0) nil_)) nd)
    (scons_ (set_ 2 (lst_ false (cons_ (lst_ false nil_) (cons_ (lst_ false (cons_ ci_ nil_)) (cons_ emp_ (cons_ cs_ (cons_ cs_ (cons_ cs_ (cons_ cs_ (cons_ cs_ (cons_ (op_ o_mulS cs_ ci_) (cons_ cs_ (cons_ cs_ (cons_ (tup_ (cons_ ci_ (cons_ (lst_ false nil_) nil_))) (cons_ (tup_ (cons_ cs_ nil_)) (cons_ (tup_ (cons_ (tup_ nil_) (cons_ (tup_ (cons_ cs_ (cons_ cs_ nil_))) nil_))) nil_))))))))))))))) nd)
    (scons_ (for_ (.n 3) pas rfl (irng1_ T.f_range (cons_ ci_ nil_)) (tg1_ 3 nd) (scons_ (set_ 4 (call_ (F__law_drawn_thing T 8) hr (by decide) tk (cons_ (v_ 1) (cons_ ci_ nil_))) nd)
    (scons_ (sif_ (tcm_ (o_eq hr) (call_ (F__law_draw T) hr (by decide) tk (cons_ (v_ 1) (cons_ ci_ nil_))) ci_ (nomark _)) (sone_ (set_ 4 (call_ (F__law_nested T) hr (by decide) tk (cons_ (v_ 1) (cons_ ci_ nil_))) nd)) (sone_ (sif_ (tcm_ (o_eq hr) (call_ (F__law_draw T) hr (by decide) tk (cons_ (v_ 1) (cons_ ci_ nil_))) ci_ (nomark _)) (sone_ (set_ 4 (call_ (F__law_some T) hr (by decide) tk (cons_ (v_ 1) (cons_ (op_ (o_add false) (v_ 2) (lst_ false (cons_ (call_ (F__law_deep T) hr (by decide) tk (cons_ ci_ nil_)) (cons_ (call_ (F__law_deep T) hr (by decide) tk (cons_ ci_ nil_)) (cons_ (fz_ (mk_ T.m_Forest (F_Forest___init__ T) T.g_Forest hr (by decide) tk (cons_ (tup_ (cons_ cn_ nil_)) (cons_ (tup_ (cons_ ci_ nil_)) nil_)))) (cons_ (tup_ (cons_ (fz_ (mk_ T.m_Forest (F_Forest___init__ T) T.g_Forest hr (by decide) tk (cons_ (tup_ (cons_ cn_ nil_)) (cons_ (tup_ (cons_ ci_ nil_)) nil_)))) nil_)) nil_)))))) nil_))) nd)) snil_)))
    (scons_ (set_ 5 (call_ (F__law_can_be T 24) hr (by decide) tk (cons_ (v_ 4) (cons_ ci_ nil_))) nd)
    (scons_ (sif_ (tcm_ (o_ne hr) (call_ (F__law_given T) hr (by decide) tk (cons_ (v_ 4) nil_)) (if_ (tv_ (v_ 5)) (call_ (F__law_written T 24) hr (by decide) tk (cons_ (v_ 4) nil_)) cs_) (nomark _)) (sone_ (ret_ cb_)) snil_)
    (scons_ (set_ 6 (if_ (tv_ (v_ 5)) (call_ (F__law_written T 24) hr (by decide) tk (cons_ (v_ 4) nil_)) cs_) nd)
    (scons_ (sif_ (tw_ (wand_ (tv_ (v_ 5)) (w1and_ (tnot_ (tv_ (call_ (F__law_is T 26) hr (by decide) tk (cons_ (call_ (F__law_told T) hr (by decide) tk (cons_ (v_ 6) nil_)) (cons_ (tup_ (cons_ cs_ (cons_ (v_ 4) nil_))) nil_)))))))) (sone_ (ret_ cb_)) snil_)
    (scons_ (for_ (.n 7) pas rfl (irng1_ T.f_range (cons_ ci_ nil_)) (tg1_ 7 nd) (scons_ (set_ 6 (call_ (F__law_spoilt T) hr (by decide) tk (cons_ (v_ 1) (cons_ (v_ 6) nil_))) nd)
    (sone_ (sif_ (tnot_ (tv_ (call_ (F__law_is T 26) hr (by decide) tk (cons_ (call_ (F__law_told T) hr (by decide) tk (cons_ (v_ 6) nil_)) (cons_ (call_ (F__law_read T) hr (by decide) tk (cons_ (v_ 6) nil_)) nil_))))) (sone_ (ret_ cb_)) snil_))))
    (scons_ (set_ 8 (call_ (F__law_some T) hr (by decide) tk (cons_ (v_ 1) (cons_ (lst_ false (cons_ cn_ (cons_ ci_ (cons_ (lst_ false (cons_ cs_ nil_)) (cons_ (tup_ (cons_ cs_ nil_)) (cons_ emp_ (cons_ cb_ (cons_ (call_ (F__law_deep T) hr (by decide) tk (cons_ ci_ nil_)) (cons_ (call_ (F__law_deep T) hr (by decide) tk (cons_ ci_ nil_)) (cons_ (fz_ (mk_ T.m_Forest (F_Forest___init__ T) T.g_Forest hr (by decide) tk (cons_ (tup_ (cons_ cn_ nil_)) (cons_ (tup_ (cons_ ci_ nil_)) nil_)))) nil_)))))))))) nil_))) nd)
    (sone_ (sif_ (tnot_ (tv_ (call_ (F__law_is T 26) hr (by decide) tk (cons_ (call_ (F__law_told T) hr (by decide) tk (cons_ (v_ 8) nil_)) (cons_ (tup_ (cons_ cs_ (cons_ (neg_ ci_) nil_))) nil_))))) (sone_ (ret_ cb_)) snil_)))))))))))
    (sone_ (ret_ cb_)))))
end
theorem law_start (ns : List Int) (Q : QK) (E : EK) (l : ns.length ≤ 63) (h : ∀ G, Q (.bl true) G) : sp_law [.sl (ns.map D.int)] (fun _ => none) Q E :=
  ⟨fun x hx => by obtain ⟨i, _, e⟩ := List.mem_map.mp hx; exact ⟨i, e.symm⟩, by simpa using l, h⟩
theorem tx_of {w : World} {K : PySem.W.Frag} {h : Heap} {mg : Str → Option Value} (X : K.In h) (G : h.Ns mainGlobals mg) (c : He.SaysX fa fn ts tf exAll w h K) : Tx w K mg where
  f_isinstance := He.free_ok X G (c.t.d.fact 0 (f := .free (Str.ofString "isinstance")) rfl)
  f_int := He.free_ok X G (c.t.d.fact 1 (f := .free (Str.ofString "int")) rfl)
  isf := isf_ok (He.ba c.more).1
  f_bool := He.free_ok X G (c.t.d.fact 2 (f := .free (Str.ofString "bool")) rfl)
  g_is_integer := He.glo_ok X G (c.t.d.fact 3 (f := .glo (Str.ofString "is_integer")) rfl)
  g_is_within := He.glo_ok X G (c.t.d.fact 4 (f := .glo (Str.ofString "is_within")) rfl)
  f_tuple := He.free_ok X G (c.t.d.fact 5 (f := .free (Str.ofString "tuple")) rfl)
  f_len := He.free_ok X G (c.t.d.fact 6 (f := .free (Str.ofString "len")) rfl)
  f_range := He.free_ok X G (c.t.d.fact 7 (f := .free (Str.ofString "range")) rfl)
  i_MOST_HOUSES := He.int_ok X G (c.t.d.fact 8 (f := .int (Str.ofString "MOST_HOUSES") 64) rfl)
  g_is_sized := He.glo_ok X G (c.t.d.fact 9 (f := .glo (Str.ofString "is_sized")) rfl)
  g_is_below := He.glo_ok X G (c.t.d.fact 10 (f := .glo (Str.ofString "is_below")) rfl)
  f_all := He.free_ok X G (c.t.d.fact 11 (f := .free (Str.ofString "all")) rfl)
  g_comes_to_none := He.glo_ok X G (c.t.d.fact 12 (f := .glo (Str.ofString "comes_to_none")) rfl)
  g_are_parents := He.glo_ok X G (c.t.d.fact 13 (f := .glo (Str.ofString "are_parents")) rfl)
  xf_BadForest := exfF_ok (He.ba (He.ba c.more).2).1
  g_BadForest := He.glo_ok X G (c.t.d.fact 14 (f := .glo (Str.ofString "BadForest")) rfl)
  c_Forest := He.cls_ok (c.t.d.fact 15 (f := .cls (Str.ofString "Forest")) rfl)
  n_Forest_parents := He.noat_ok (c.t.d.fact 16 (f := .noat (Str.ofString "Forest") (Str.ofString "parents")) rfl)
  n_Forest_worths := He.noat_ok (c.t.d.fact 17 (f := .noat (Str.ofString "Forest") (Str.ofString "worths")) rfl)
  g_Forest := He.glo_ok X G (c.t.d.fact 18 (f := .glo (Str.ofString "Forest")) rfl)
  f_str := He.free_ok X G (c.t.d.fact 19 (f := .free (Str.ofString "str")) rfl)
  s_NO := He.str_ok X G (c.t.d.fact 20 (f := .str (Str.ofString "NO") (Str.ofString "no")) rfl)
  s_YES := He.str_ok X G (c.t.d.fact 21 (f := .str (Str.ofString "YES") (Str.ofString "yes")) rfl)
  i_MOST_LETTERS := He.int_ok X G (c.t.d.fact 22 (f := .int (Str.ofString "MOST_LETTERS") 20) rfl)
  s_LETTERS := He.str_ok X G (c.t.d.fact 23 (f := .str (Str.ofString "LETTERS") (Str.ofString "abcdefghijklmnopqrstuvwxyz")) rfl)
  g_can_be_written := He.glo_ok X G (c.t.d.fact 24 (f := .glo (Str.ofString "can_be_written")) rfl)
  g_is_word := He.glo_ok X G (c.t.d.fact 25 (f := .glo (Str.ofString "is_word")) rfl)
  s_NOTHING := He.str_ok X G (c.t.d.fact 26 (f := .str (Str.ofString "NOTHING") (Str.ofString "-")) rfl)
  g_raw_written := He.glo_ok X G (c.t.d.fact 27 (f := .glo (Str.ofString "raw_written")) rfl)
  i_MOST_DEEP := He.int_ok X G (c.t.d.fact 28 (f := .int (Str.ofString "MOST_DEEP") 20) rfl)
  x_NoThing := excF_ok (c.t.d.fact 29 (f := .exc (Str.ofString "NoThing")) rfl)
  g_NoThing := He.glo_ok X G (c.t.d.fact 30 (f := .glo (Str.ofString "NoThing")) rfl)
  c_ThingReader := He.cls_ok (c.t.d.fact 31 (f := .cls (Str.ofString "ThingReader")) rfl)
  n_ThingReader_signs := He.noat_ok (c.t.d.fact 32 (f := .noat (Str.ofString "ThingReader") (Str.ofString "signs")) rfl)
  n_ThingReader_at := He.noat_ok (c.t.d.fact 33 (f := .noat (Str.ofString "ThingReader") (Str.ofString "at")) rfl)
  xf_BadThing := exfF_ok (He.ba (He.ba (He.ba c.more).2).2).1
  g_BadThing := He.glo_ok X G (c.t.d.fact 34 (f := .glo (Str.ofString "BadThing")) rfl)
  mt_ThingReader_next_sign := He.meth_ok (c.t.d.fact 35 (f := .meth (Str.ofString "ThingReader") (Str.ofString "next_sign")) rfl)
  mt_ThingReader_refuse := He.meth_ok (c.t.d.fact 36 (f := .meth (Str.ofString "ThingReader") (Str.ofString "refuse")) rfl)
  mt_ThingReader_is_next := He.meth_ok (c.t.d.fact 37 (f := .meth (Str.ofString "ThingReader") (Str.ofString "is_next")) rfl)
  s_FIGURES := He.str_ok X G (c.t.d.fact 38 (f := .str (Str.ofString "FIGURES") (Str.ofString "0123456789")) rfl)
  mt_ThingReader_pass_by := He.meth_ok (c.t.d.fact 39 (f := .meth (Str.ofString "ThingReader") (Str.ofString "pass_by")) rfl)
  mt_ThingReader_take_all := He.meth_ok (c.t.d.fact 40 (f := .meth (Str.ofString "ThingReader") (Str.ofString "take_all")) rfl)
  i_MOST_FIGURES := He.int_ok X G (c.t.d.fact 41 (f := .int (Str.ofString "MOST_FIGURES") 20) rfl)
  s_MINUS := He.str_ok X G (c.t.d.fact 42 (f := .str (Str.ofString "MINUS") (Str.ofString "-")) rfl)
  mt_ThingReader_number := He.meth_ok (c.t.d.fact 43 (f := .meth (Str.ofString "ThingReader") (Str.ofString "number")) rfl)
  mt_ThingReader_thing := He.meth_ok (c.t.d.fact 44 (f := .meth (Str.ofString "ThingReader") (Str.ofString "thing")) rfl)
  mt_ThingReader_several := He.meth_ok (c.t.d.fact 45 (f := .meth (Str.ofString "ThingReader") (Str.ofString "several")) rfl)
  mt_ThingReader_below_or_none := He.meth_ok (c.t.d.fact 46 (f := .meth (Str.ofString "ThingReader") (Str.ofString "below_or_none")) rfl)
  mt_ThingReader_word := He.meth_ok (c.t.d.fact 47 (f := .meth (Str.ofString "ThingReader") (Str.ofString "word")) rfl)
  g_ThingReader := He.glo_ok X G (c.t.d.fact 48 (f := .glo (Str.ofString "ThingReader")) rfl)
  m_ThingReader := He.mkr_ok (c.t.d.fact 49 (f := .mkr (Str.ofString "ThingReader")) rfl)
  f_abs := He.free_ok X G (c.t.d.fact 50 (f := .free (Str.ofString "abs")) rfl)
  g__law_draw := He.glo_ok X G (c.t.d.fact 51 (f := .glo (Str.ofString "_law_draw")) rfl)
  f_list := He.free_ok X G (c.t.d.fact 52 (f := .free (Str.ofString "list")) rfl)
  g__law_is := He.glo_ok X G (c.t.d.fact 53 (f := .glo (Str.ofString "_law_is")) rfl)
  f_dict := He.free_ok X G (c.t.d.fact 54 (f := .free (Str.ofString "dict")) rfl)
  g__law_written := He.glo_ok X G (c.t.d.fact 55 (f := .glo (Str.ofString "_law_written")) rfl)
  g__law_token := He.glo_ok X G (c.t.d.fact 56 (f := .glo (Str.ofString "_law_token")) rfl)
  g__law_item := He.glo_ok X G (c.t.d.fact 57 (f := .glo (Str.ofString "_law_item")) rfl)
  g__law_drawn_thing := He.glo_ok X G (c.t.d.fact 58 (f := .glo (Str.ofString "_law_drawn_thing")) rfl)
  g__law_some := He.glo_ok X G (c.t.d.fact 59 (f := .glo (Str.ofString "_law_some")) rfl)
  g__law_can_be := He.glo_ok X G (c.t.d.fact 60 (f := .glo (Str.ofString "_law_can_be")) rfl)
  g_read_thing := He.glo_ok X G (c.t.d.fact 61 (f := .glo (Str.ofString "read_thing")) rfl)
  exi := exiF_ok (He.ba (He.ba (He.ba (He.ba c.more).2).2).2).1
  g_ForestError := He.glo_ok X G (c.t.d.fact 62 (f := .glo (Str.ofString "ForestError")) rfl)
  f_ValueError := He.free_ok X G (c.t.d.fact 63 (f := .free (Str.ofString "ValueError")) rfl)
  exm := exmF_ok (He.ba (He.ba (He.ba (He.ba (He.ba c.more).2).2).2).2).1
  g_written := He.glo_ok X G (c.t.d.fact 64 (f := .glo (Str.ofString "written")) rfl)
  g__law_hand := He.glo_ok X G (c.t.d.fact 65 (f := .glo (Str.ofString "_law_hand")) rfl)
  g__law_nested := He.glo_ok X G (c.t.d.fact 66 (f := .glo (Str.ofString "_law_nested")) rfl)
  m_Forest := He.mkr_ok (c.t.d.fact 67 (f := .mkr (Str.ofString "Forest")) rfl)
  g__law_deep := He.glo_ok X G (c.t.d.fact 68 (f := .glo (Str.ofString "_law_deep")) rfl)
  g__law_given := He.glo_ok X G (c.t.d.fact 69 (f := .glo (Str.ofString "_law_given")) rfl)
  g__law_told := He.glo_ok X G (c.t.d.fact 70 (f := .glo (Str.ofString "_law_told")) rfl)
  g__law_spoilt := He.glo_ok X G (c.t.d.fact 71 (f := .glo (Str.ofString "_law_spoilt")) rfl)
  g__law_read := He.glo_ok X G (c.t.d.fact 72 (f := .glo (Str.ofString "_law_read")) rfl)
  g_law := He.glo_ok X G (c.t.d.fact 73 (f := .glo (Str.ofString "law")) rfl)
  d_comes_to_none := by obtain ⟨fd, F⟩ := c.t.d.def_ 0 (d := dd_comes_to_none) rfl; exact ⟨fd, F⟩
  d_is_integer := by obtain ⟨fd, F⟩ := c.t.d.def_ 1 (d := dd_is_integer) rfl; exact ⟨fd, F⟩
  d_is_within := by obtain ⟨fd, F⟩ := c.t.d.def_ 2 (d := dd_is_within) rfl; exact ⟨fd, F⟩
  d_is_below := by obtain ⟨fd, F⟩ := c.t.d.def_ 3 (d := dd_is_below) rfl; exact ⟨fd, F⟩
  d_is_sized := by obtain ⟨fd, F⟩ := c.t.d.def_ 4 (d := dd_is_sized) rfl; exact ⟨fd, F⟩
  d_are_parents := by obtain ⟨fd, F⟩ := c.t.d.def_ 5 (d := dd_are_parents) rfl; exact ⟨fd, F⟩
  d_Forest___init__ := by obtain ⟨fd, F⟩ := c.t.d.def_ 6 (d := dd_Forest___init__) rfl; exact ⟨fd, F⟩
  d__law_can_be := by obtain ⟨fd, F⟩ := c.t.d.def_ 7 (d := dd__law_can_be) rfl; exact ⟨fd, F⟩
  d__law_deep := by obtain ⟨fd, F⟩ := c.t.d.def_ 8 (d := dd__law_deep) rfl; exact ⟨fd, F⟩
  d__law_draw := by obtain ⟨fd, F⟩ := c.t.d.def_ 9 (d := dd__law_draw) rfl; exact ⟨fd, F⟩
  d__law_some := by obtain ⟨fd, F⟩ := c.t.d.def_ 10 (d := dd__law_some) rfl; exact ⟨fd, F⟩
  d__law_drawn_thing := by obtain ⟨fd, F⟩ := c.t.d.def_ 11 (d := dd__law_drawn_thing) rfl; exact ⟨fd, F⟩
  d_is_word := by obtain ⟨fd, F⟩ := c.t.d.def_ 12 (d := dd_is_word) rfl; exact ⟨fd, F⟩
  d_can_be_written := by obtain ⟨fd, F⟩ := c.t.d.def_ 13 (d := dd_can_be_written) rfl; exact ⟨fd, F⟩
  d_raw_written := by obtain ⟨fd, F⟩ := c.t.d.def_ 14 (d := dd_raw_written) rfl; exact ⟨fd, F⟩
  d_written := by obtain ⟨fd, F⟩ := c.t.d.def_ 15 (d := dd_written) rfl; exact ⟨fd, F⟩
  d__law_given := by obtain ⟨fd, F⟩ := c.t.d.def_ 16 (d := dd__law_given) rfl; exact ⟨fd, F⟩
  d__law_hand := by obtain ⟨fd, F⟩ := c.t.d.def_ 17 (d := dd__law_hand) rfl; exact ⟨fd, F⟩
  d__law_is := by obtain ⟨fd, F⟩ := c.t.d.def_ 18 (d := dd__law_is) rfl; exact ⟨fd, F⟩
  d__law_nested := by obtain ⟨fd, F⟩ := c.t.d.def_ 19 (d := dd__law_nested) rfl; exact ⟨fd, F⟩
  d__law_item := by obtain ⟨fd, F⟩ := c.t.d.def_ 20 (d := dd__law_item) rfl; exact ⟨fd, F⟩
  d__law_token := by obtain ⟨fd, F⟩ := c.t.d.def_ 21 (d := dd__law_token) rfl; exact ⟨fd, F⟩
  d__law_read := by obtain ⟨fd, F⟩ := c.t.d.def_ 22 (d := dd__law_read) rfl; exact ⟨fd, F⟩
  d__law_spoilt := by obtain ⟨fd, F⟩ := c.t.d.def_ 23 (d := dd__law_spoilt) rfl; exact ⟨fd, F⟩
  d_ThingReader___init__ := by obtain ⟨fd, F⟩ := c.t.d.def_ 24 (d := dd_ThingReader___init__) rfl; exact ⟨fd, F⟩
  d_ThingReader_refuse := by obtain ⟨fd, F⟩ := c.t.d.def_ 25 (d := dd_ThingReader_refuse) rfl; exact ⟨fd, F⟩
  d_ThingReader_next_sign := by obtain ⟨fd, F⟩ := c.t.d.def_ 26 (d := dd_ThingReader_next_sign) rfl; exact ⟨fd, F⟩
  d_ThingReader_is_next := by obtain ⟨fd, F⟩ := c.t.d.def_ 27 (d := dd_ThingReader_is_next) rfl; exact ⟨fd, F⟩
  d_ThingReader_pass_by := by obtain ⟨fd, F⟩ := c.t.d.def_ 28 (d := dd_ThingReader_pass_by) rfl; exact ⟨fd, F⟩
  d_ThingReader_take_all := by obtain ⟨fd, F⟩ := c.t.d.def_ 29 (d := dd_ThingReader_take_all) rfl; exact ⟨fd, F⟩
  d_ThingReader_number := by obtain ⟨fd, F⟩ := c.t.d.def_ 30 (d := dd_ThingReader_number) rfl; exact ⟨fd, F⟩
  d_ThingReader_below_or_none := by obtain ⟨fd, F⟩ := c.t.d.def_ 31 (d := dd_ThingReader_below_or_none) rfl; exact ⟨fd, F⟩
  d_ThingReader_word := by obtain ⟨fd, F⟩ := c.t.d.def_ 32 (d := dd_ThingReader_word) rfl; exact ⟨fd, F⟩
  d_ThingReader_several := by obtain ⟨fd, F⟩ := c.t.d.def_ 33 (d := dd_ThingReader_several) rfl; exact ⟨fd, F⟩
  d_ThingReader_thing := by obtain ⟨fd, F⟩ := c.t.d.def_ 34 (d := dd_ThingReader_thing) rfl; exact ⟨fd, F⟩
  d_read_thing := by obtain ⟨fd, F⟩ := c.t.d.def_ 35 (d := dd_read_thing) rfl; exact ⟨fd, F⟩
  d__law_told := by obtain ⟨fd, F⟩ := c.t.d.def_ 36 (d := dd__law_told) rfl; exact ⟨fd, F⟩
  d__law_written := by obtain ⟨fd, F⟩ := c.t.d.def_ 37 (d := dd__law_written) rfl; exact ⟨fd, F⟩
  d_law := by obtain ⟨fd, F⟩ := c.t.d.def_ 38 (d := dd_law) rfl; exact ⟨fd, F⟩
  d_BadForest___init__ := by obtain ⟨fd, F⟩ := c.t.d.def_ 39 (d := dd_BadForest___init__) rfl; exact ⟨fd, F⟩
  d_BadThing___init__ := by obtain ⟨fd, F⟩ := c.t.d.def_ 40 (d := dd_BadThing___init__) rfl; exact ⟨fd, F⟩
end C3
open PySem PySem.W PySem.Calls PyProof.Rows
set_option maxRecDepth 100000 in
set_option maxHeartbeats 0 in
theorem PySem.Challenge.cw_cutlinked_k35_whole_things_written_and_r_holds : PySem.Challenge.rw_cutlinked_k35_whole_things_written_and_r.Holds := by
  w_on; o_law
  refine HandSHeadRun.head_any (r := OpenLaw.row PySem.Challenge.rw_cutlinked_k35_whole_things_written_and_r) (q := view (OpenLaw.row PySem.Challenge.rw_cutlinked_k35_whole_things_written_and_r).prog [47]) (H := C3.hk) (ob := C3.ob) (M := 6000) (loose := C3.names) (d := HandSHeadRun.topDef (OpenLaw.row PySem.Challenge.rw_cutlinked_k35_whole_things_written_and_r).prog 47) (kwd := []) C3.ob_eq
    (by kernel_rfl) (fun s => by kernel_rfl) C3.run (by kernel_rfl) (by kernel_rfl) (by kernel_rfl) (by rfl) (by first | assumption | decide +kernel) (by decide +kernel) ⟨rfl, rfl, rfl, rfl, rfl, by decide +kernel⟩ ?hw ?hc
  case hw => w_witness2
  case hc =>
    refine L3.walk3 (l := PySem.Challenge.rw_cutlinked_k35_whole_things_written_and_r) (n := 63) (k := 103) (x := (Str.ofString "_law_script")) (sp := C3.sp_law) rfl (by decide) (by kernel_rfl) ⟨rfl, by decide, by decide⟩ ?F C3.law_start
    intro w mg fa h Y G hmg0
    obtain ⟨K, KX, c⟩ := Y
    have T := C3.tx_of KX G c
    have hmg : mg (Str.ofString "law") = some (.ref fa) := by
      have e : (HandSHeadRun.topDef (OpenLaw.row PySem.Challenge.rw_cutlinked_k35_whole_things_written_and_r).prog 47).name = Str.ofString "law" := by kernel_rfl
      rw [← e]
      exact hmg0
    have e := hmg.symm.trans T.g_law
    cases e
    obtain ⟨fd, hb, hF⟩ := C3.F_law (P := (PySem.Challenge.rw_cutlinked_k35_whole_things_written_and_r).prog) (w := w) T
    exact ⟨K, fd, KX, hb, fun base _ _ => hF base⟩
