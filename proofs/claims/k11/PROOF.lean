import PyProof.Rows.All
import Wide.All
import OpenK.AllK
import Wide.FinOn
import HandS.ForMost
import HandS.ForExc
import HandS.Lambda
import HandS.EndTab
import HandS.HotCalls
import HandS.ExcIs
import HandS.TupAny
import HandS.TupMul
import HandS.TupLe
import HandS.Deep
import HandS.Wide
import HandS.IsInst
import HandS.Style
import PyProof.StrBlock2
import HandS.RaiseMore
import HandS.Defaults
import HandS.Codes
import HandS.SortInts
import HandS.Zip
import HandS.Nested
import HandS.Head0
import HandS.Head1
import HandS.Head2
import HandS.HeadEnd
import HandS.HeadHook4
import HandS.HeadWalk
import PyProof.StrLawsChain
import PySem.Challenge.RW_figuresteps_k11_texts_of_chains
section
set_option Elab.async false
set_option linter.all false
set_option maxRecDepth 100000
set_option maxHeartbeats 4000000
namespace Fs
open PySem PySem.Spec PyProof.Rows L2 LamX

/-- a lambda's text -/
structure Lam where
  qual : Str
  args : Arguments
  body : Expr
  scope : Scope

/-- data, without addresses: what the program's values mean -/
inductive D where
  | non | bl (b : Bool) | int (i : Int) | str (x : Str)
  | tup (xs : List D) | lst (xs : List D)
  | ref (a : Addr) | ty (n : String) | loc (n : Nat) | lam (l : Lam) | scr (xs : List Int)
instance : Inhabited D := ⟨.non⟩

/-- a mutable object -/
inductive Cell where
  | lst (xs : List D)
  | ins (C : Addr) (fs : List (Str × D))
  | dct (kvs : List (Key × D))
abbrev Store := List Cell
/-- what a name holds: data, or a closure -/
inductive Va where
  | d (x : D)
  | clo (l : Lam) (caps : List (Str × Va))
abbrev En := List (Option Va)
abbrev Exn := Value

/-- the mutable objects: those that a store tells, by number; all that may change -/
structure Ad where
  c : List Addr
  m : List Addr
  b : Addr → Option Obj
/-- the tables of code objects, and the heap that the law begins with -/
structure TB where
  t : List (Addr × Str)
  b : Addr → Option Obj
def lamO (l : Lam) (cl : List (Str × Addr)) (pm : Value) (c' : Addr) (ctv : Value) : Obj := PySem.W.kla_obj "<lambda>" l.qual l.args l.body l.scope cl pm c' ctv

/-- the written part's tuple -/
def KTup (K : PySem.W.Frag) (a : Addr) (xs : List V) : Prop :=
  ∃ (o : Obj) (its : Array Value) (n : Nat), K.lookup a = some o ∧ o.cls = .type "tuple" ∧ o.data = .seq its n ∧ its.size ≤ sizeLine ∧ Vals xs its.toList
def STup (K : PySem.W.Frag) (A : Ad) (H : Hp) (a : Addr) (xs : List V) : Prop := (a ∉ A.m ∧ H a = some (.tup xs)) ∨ KTup K a xs
def KLst (K : PySem.W.Frag) (a : Addr) (xs : List V) : Prop :=
  ∃ (o : Obj) (its : Array Value) (n : Nat), K.lookup a = some o ∧ o.cls = .type "list" ∧ o.dict = none ∧ o.data = .seq its n ∧ its.size ≤ sizeLine ∧ Vals xs its.toList
def SFrz (K : PySem.W.Frag) (A : Ad) (H : Hp) (a : Addr) (xs : List V) : Prop := (a ∉ A.m ∧ ((∃ o, H a = some (.frz o (.lst xs))) ∨ H a = some (.lst xs))) ∨ KLst K a xs
theorem STup.sq {K : PySem.W.Frag} {A : Ad} {H : Hp} {a : Addr} {xs : List V} (h : STup K A H a xs) : SqT K H a xs := by
  rcases h with h | h
  · exact .inl (.inl h.2)
  · exact .inr h

mutual
def Rep (K : PySem.W.Frag) (A : Ad) (H : Hp) : D → V → Prop
  | .non, v => v = .non
  | .bl b, v => v = .bl b
  | .int i, v => v = .int i
  | .str x, v => v = .str x
  | .ref a, v => v = .ref a
  | .ty n, v => v = .ty n
  | .loc n, v => ∃ a, A.c[n]? = some a ∧ v = .ref a
  | .tup ds, v => ∃ a vs, v = .ref a ∧ STup K A H a vs ∧ Reps K A H ds vs
  | .lst ds, v => ∃ a vs, v = .ref a ∧ a ∉ A.m ∧ H a = some (.lst vs) ∧ Reps K A H ds vs
  | .lam l, v => ∃ f pm c' ctv, v = .ref f ∧ f ∉ A.m ∧ c' ∉ A.m ∧ H f = some (.frz (lamO l [] pm c' ctv) (.own f)) ∧ H c' = some (CodeO c' l.qual)
  | .scr ns, v => ∃ a, v = .ref a ∧ SFrz K A H a (ns.map V.int)
def Reps (K : PySem.W.Frag) (A : Ad) (H : Hp) : List D → List V → Prop
  | [], vs => vs = []
  | d :: ds, vs => ∃ x xs, vs = x :: xs ∧ Rep K A H d x ∧ Reps K A H ds xs
end
/-- a part of what is tracked is told no more -/
def cutH (H : Hp) (Z : List Addr) : Hp := fun b => if b ∈ Z then none else H b
theorem cut_in {H : Hp} {Z : List Addr} {b : Addr} (h : b ∈ Z) : cutH H Z b = none := by unfold cutH; rw [if_pos h]
theorem cut_out {H : Hp} {Z : List Addr} {b : Addr} (h : b ∉ Z) : cutH H Z b = H b := by unfold cutH; rw [if_neg h]
theorem cut_some {H : Hp} {Z : List Addr} {b : Addr} {o : HO} (h : cutH H Z b = some o) : b ∉ Z ∧ H b = some o := by
  by_cases hb : b ∈ Z
  · rw [cut_in hb] at h; cases h
  · rw [cut_out hb] at h; exact ⟨hb, h⟩
/-- the captured cells -/
structure ClOk (l : Lam) (A : Ad) (H : Hp) (cl : List (Str × Addr)) : Prop where
  all : ∀ p ∈ cl, ∃ oc v, ((p.2 ∉ A.m ∧ H p.2 = some (.frz oc (.own p.2))) ∨ A.b p.2 = some oc) ∧ oc.data = .cell v
  inj : ∀ y z c, cl.lookup y = some c → cl.lookup z = some c → y = z
  has : ∀ y ∈ l.scope.names, y.2 = .free → ∃ c, cl.lookup y.1 = some c
mutual
def RepV (K : PySem.W.Frag) (A : Ad) (H : Hp) : Va → V → Prop
  | .d x, v => Rep K A H x v
  | .clo l caps, v => ∃ f pm c' ctv cl, v = .ref f ∧ f ∉ A.m ∧ c' ∉ A.m ∧ H f = some (.frz (lamO l cl pm c' ctv) (.own f)) ∧ H c' = some (CodeO c' l.qual) ∧ ClOk l A H cl ∧ f ∉ cl.map (·.2) ∧ RepCs K A H cl caps
def RepCs (K : PySem.W.Frag) (A : Ad) (H : Hp) (cl : List (Str × Addr)) : List (Str × Va) → Prop
  | [] => True
  | (y, d) :: r => (∃ c oc u x, cl.lookup y = some c ∧ ((c ∉ A.m ∧ H c = some (.frz oc (.own c))) ∨ A.b c = some oc) ∧ oc.data = .cell (some u) ∧ L2.RelV x u ∧ RepV K A (cutH H (cl.map (·.2))) d x) ∧ RepCs K A H cl r
end

/-- the heap has grown; what may change may have changed -/
structure Lw (A : Ad) (H : Hp) (A' : Ad) (H' : Hp) : Prop where
  pre : ∀ (i : Nat) (a : Addr), A.c[i]? = some a → A'.c[i]? = some a
  new : ∀ a o, a ∈ A'.m → a ∉ A.m → H a = some o → ∃ ps, o = .tbl ps
  ext : ∀ b o, H b = some o → b ∉ A.m → (∀ ps, o ≠ .tbl ps) → H' b = some o
  som : ∀ b o, H b = some o → (∀ ps, o ≠ .tbl ps) → ∃ o', H' b = some o' ∧ ∀ ps, o' ≠ .tbl ps
  msub : ∀ a, a ∈ A.m → a ∈ A'.m
  cnew : ∀ a o, a ∈ A'.c → a ∉ A.c → H a = some o → ∃ ps, o = .tbl ps
  bsm : A'.b = A.b
theorem Lw.refl (A : Ad) (H : Hp) : Lw A H A H := ⟨fun _ _ h => h, fun _ _ h n => absurd h n, fun _ _ h _ _ => h, fun _ o h n => ⟨o, h, n⟩, fun _ h => h, fun _ _ h n => absurd h n, rfl⟩
theorem isT_or (o : HO) : (∃ ps, o = .tbl ps) ∨ ∀ ps, o ≠ .tbl ps := by
  cases o with
  | tbl ps => exact .inl ⟨ps, rfl⟩
  | _ => exact .inr fun ps z => by cases z
theorem Lw.trans {A A1 A2 : Ad} {H H1 H2 : Hp} (a : Lw A H A1 H1) (b : Lw A1 H1 A2 H2) : Lw A H A2 H2 := by
  refine ⟨fun i x h => b.pre i x (a.pre i x h), fun x o h n e => ?_, fun c o h n m => ?_, fun c o h m => ?_, fun x h => b.msub x (a.msub x h), fun x o h n e => ?_, b.bsm.trans a.bsm⟩
  · rcases isT_or o with t | t
    · exact t
    · by_cases hx : x ∈ A1.m
      · exact a.new x o hx n e
      · obtain ⟨o', e', t'⟩ := a.som x o e t
        obtain ⟨ps, z⟩ := b.new x o' h hx e'
        exact absurd z (t' ps)
  · refine b.ext c o (a.ext c o h n m) ?_ m
    intro hc
    obtain ⟨ps, z⟩ := a.new c o hc n h
    exact absurd z (m ps)
  · obtain ⟨o1, h1, m1⟩ := a.som c o h m
    exact b.som c o1 h1 m1
  · rcases isT_or o with t | t
    · exact t
    · by_cases hx : x ∈ A1.c
      · exact a.cnew x o hx n e
      · obtain ⟨o', e', t'⟩ := a.som x o e t
        obtain ⟨ps, z⟩ := b.cnew x o' h hx e'
        exact absurd z (t' ps)
/-- the heap has grown; what a store tells may have changed -/
structure Le (A : Ad) (H : Hp) (A' : Ad) (H' : Hp) : Prop where
  w : Lw A H A' H'
  exs : ∀ b o, H b = some o → b ∉ A.c → (∀ ps, o ≠ .tbl ps) → H' b = some o
theorem Le.refl (A : Ad) (H : Hp) : Le A H A H := ⟨Lw.refl A H, fun _ _ h _ _ => h⟩
theorem Le.trans {A A1 A2 : Ad} {H H1 H2 : Hp} (a : Le A H A1 H1) (b : Le A1 H1 A2 H2) : Le A H A2 H2 := by
  refine ⟨a.w.trans b.w, fun c o h n m => b.exs c o (a.exs c o h n m) (fun hc => ?_) m⟩
  obtain ⟨ps, z⟩ := a.w.cnew c o hc n h
  exact absurd z (m ps)
/-- all that is tracked stays, but for tables -/
theorem Le.sameT {A : Ad} {H H' : Hp} (h : ExtN H H') : Le A H A H' := ⟨⟨fun _ _ h => h, fun _ _ h n => absurd h n, fun b o e _ m => h b o e m, fun b o e m => ⟨o, h b o e m, m⟩, fun _ h => h, fun _ _ h n => absurd h n, rfl⟩, fun b o e _ m => h b o e m⟩
/-- all that is tracked stays -/
theorem Le.same {A : Ad} {H H' : Hp} (h : ∀ b o, H b = some o → H' b = some o) : Le A H A H' := Le.sameT fun b o e _ => h b o e
theorem Le.upd {A : Ad} {H : Hp} {p : Addr} {o : HO} (h : H p = none) : Le A H A (upd H p o) := Le.same fun b u e => by
  rw [upd_ne (ne_of_none e h)]; exact e
theorem Lw.out {A A' : Ad} {H H' : Hp} (l : Lw A H A' H') {a : Addr} {o : HO} (h : H a = some o) (n : a ∉ A.m) (m : ∀ ps, o ≠ .tbl ps) : a ∉ A'.m := fun z => by
  obtain ⟨ps, e⟩ := l.new a o z n h
  exact m ps e
theorem Lw.cut {A A' : Ad} {H H' : Hp} (l : Lw A H A' H') (Z : List Addr) : Lw A (cutH H Z) A' (cutH H' Z) := by
  refine ⟨l.pre, fun a o h n e => l.new a o h n (cut_some e).2, fun b o e n m => ?_, fun b o e m => ?_, l.msub, fun a o h n e => l.cnew a o h n (cut_some e).2, l.bsm⟩
  · obtain ⟨hb, e⟩ := cut_some e
    rw [cut_out hb]; exact l.ext b o e n m
  · obtain ⟨hb, e⟩ := cut_some e
    rw [cut_out hb]; exact l.som b o e m

section
variable {K : PySem.W.Frag} {A A' : Ad} {H H' : Hp}
theorem STup.mono (l : Lw A H A' H') {a : Addr} {xs : List V} (h : STup K A H a xs) : STup K A' H' a xs := by
  rcases h with ⟨n, h⟩ | h
  · exact .inl ⟨l.out h n (fun ps z => by cases z), l.ext _ _ h n fun ps z => by cases z⟩
  · exact .inr h
theorem SFrz.mono (l : Lw A H A' H') {a : Addr} {xs : List V} (h : SFrz K A H a xs) : SFrz K A' H' a xs := by
  rcases h with ⟨n, ⟨o, h⟩ | h⟩ | h
  · exact .inl ⟨l.out h n (fun ps z => by cases z), .inl ⟨o, l.ext _ _ h n fun ps z => by cases z⟩⟩
  · exact .inl ⟨l.out h n (fun ps z => by cases z), .inr (l.ext _ _ h n fun ps z => by cases z)⟩
  · exact .inr h
theorem SFrz.sq {a : Addr} {xs : List V} (h : SFrz K A H a xs) : SqL K H a xs := by
  rcases h with ⟨_, h | h⟩ | h
  · exact .inl (.inr h)
  · exact .inl (.inl h)
  · exact .inr h
mutual
theorem Rep.monoW (l : Lw A H A' H') : ∀ (d : D) (v : V), Rep K A H d v → Rep K A' H' d v
  | .non, v, h => h
  | .bl b, v, h => h
  | .int i, v, h => h
  | .str x, v, h => h
  | .ref a, v, h => h
  | .ty n, v, h => h
  | .loc n, v, h => by
    obtain ⟨a, h1, h2⟩ := h
    exact ⟨a, l.pre _ _ h1, h2⟩
  | .tup ds, v, h => by
    obtain ⟨a, vs, h1, h2, h3⟩ := h
    exact ⟨a, vs, h1, h2.mono l, Reps.monoW l ds vs h3⟩
  | .lst ds, v, h => by
    obtain ⟨a, vs, h1, n, h2, h3⟩ := h
    exact ⟨a, vs, h1, l.out h2 n (fun ps z => by cases z), l.ext _ _ h2 n (fun ps z => by cases z), Reps.monoW l ds vs h3⟩
  | .lam m, v, h => by
    obtain ⟨f, pm, c', ctv, h1, n, n', h2, h3⟩ := h
    exact ⟨f, pm, c', ctv, h1, l.out h2 n (fun ps z => by cases z), l.out h3 n' codeO_ne, l.ext _ _ h2 n (fun ps z => by cases z), l.ext _ _ h3 n' (fun ps z => by unfold CodeO at z; cases z)⟩
  | .scr ns, v, h => by
    obtain ⟨a, h1, h2⟩ := h
    exact ⟨a, h1, h2.mono l⟩
theorem Reps.monoW (l : Lw A H A' H') : ∀ (ds : List D) (vs : List V), Reps K A H ds vs → Reps K A' H' ds vs
  | [], vs, h => h
  | d :: ds, vs, h => by
    obtain ⟨x, xs, h1, h2, h3⟩ := h
    exact ⟨x, xs, h1, Rep.monoW l d x h2, Reps.monoW l ds xs h3⟩
end
mutual
theorem RepV.monoW : ∀ (d : Va) (v : V) {A A' : Ad} {H H' : Hp}, Lw A H A' H' → RepV K A H d v → RepV K A' H' d v
  | .d x, v, _, _, _, _, l, h => Rep.monoW l x v h
  | .clo m caps, v, _, _, _, _, l, h => by
    obtain ⟨f, pm, c', ctv, cl, h1, n, n', h2, h3, h4, h5, h6⟩ := h
    refine ⟨f, pm, c', ctv, cl, h1, l.out h2 n (fun ps z => by cases z), l.out h3 n' codeO_ne, l.ext _ _ h2 n (fun ps z => by cases z), l.ext _ _ h3 n' codeO_ne, ⟨fun p hp => ?_, h4.inj, h4.has⟩, h5, RepCs.monoW cl caps l h6⟩
    obtain ⟨oc, v, k2, k3⟩ := h4.all p hp
    rcases k2 with ⟨k1, k2⟩ | k2
    · exact ⟨oc, v, .inl ⟨l.out k2 k1 (fun ps z => by cases z), l.ext _ _ k2 k1 (fun ps z => by cases z)⟩, k3⟩
    · exact ⟨oc, v, .inr (by rw [l.bsm]; exact k2), k3⟩
theorem RepCs.monoW (cl : List (Str × Addr)) : ∀ (ds : List (Str × Va)) {A A' : Ad} {H H' : Hp}, Lw A H A' H' → RepCs K A H cl ds → RepCs K A' H' cl ds
  | [], _, _, _, _, l, h => h
  | (y, d) :: r, _, _, _, _, l, h => by
    obtain ⟨⟨c, oc, u, x, h1, h2, h3, h4, h5⟩, h6⟩ := h
    refine ⟨⟨c, oc, u, x, h1, ?_, h3, h4, RepV.monoW d x (l.cut _) h5⟩, RepCs.monoW cl r l h6⟩
    rcases h2 with ⟨k1, k2⟩ | k2
    · exact .inl ⟨l.out k2 k1 (fun ps z => by cases z), l.ext _ _ k2 k1 (fun ps z => by cases z)⟩
    · exact .inr (by rw [l.bsm]; exact k2)
end
mutual
theorem Rep.weak (hc : A'.c = A.c) (hm : ∀ a, a ∈ A'.m → a ∈ A.m) : ∀ (d : D) (v : V), Rep K A H d v → Rep K A' H d v
  | .non, v, h => h
  | .bl b, v, h => h
  | .int i, v, h => h
  | .str x, v, h => h
  | .ref a, v, h => h
  | .ty n, v, h => h
  | .loc n, v, h => by
    obtain ⟨a, h1, h2⟩ := h
    exact ⟨a, by rw [hc]; exact h1, h2⟩
  | .tup ds, v, h => by
    obtain ⟨a, vs, h1, h2, h3⟩ := h
    refine ⟨a, vs, h1, ?_, Reps.weak hc hm ds vs h3⟩
    rcases h2 with ⟨n, h2⟩ | h2
    · exact .inl ⟨fun z => n (hm a z), h2⟩
    · exact .inr h2
  | .lst ds, v, h => by
    obtain ⟨a, vs, h1, n, h2, h3⟩ := h
    exact ⟨a, vs, h1, fun z => n (hm a z), h2, Reps.weak hc hm ds vs h3⟩
  | .lam m, v, h => by
    obtain ⟨f, pm, c', ctv, h1, n, n', h2, h3⟩ := h
    exact ⟨f, pm, c', ctv, h1, fun z => n (hm f z), fun z => n' (hm c' z), h2, h3⟩
  | .scr ns, v, h => by
    obtain ⟨a, h1, h2⟩ := h
    refine ⟨a, h1, ?_⟩
    rcases h2 with ⟨n, h2⟩ | h2
    · exact .inl ⟨fun z => n (hm a z), h2⟩
    · exact .inr h2
theorem Reps.weak (hc : A'.c = A.c) (hm : ∀ a, a ∈ A'.m → a ∈ A.m) : ∀ (ds : List D) (vs : List V), Reps K A H ds vs → Reps K A' H ds vs
  | [], vs, h => h
  | d :: ds, vs, h => by
    obtain ⟨x, xs, h1, h2, h3⟩ := h
    exact ⟨x, xs, h1, Rep.weak hc hm d x h2, Reps.weak hc hm ds xs h3⟩
end
theorem Rep.mono (l : Le A H A' H') (d : D) (v : V) (h : Rep K A H d v) : Rep K A' H' d v := Rep.monoW l.w d v h
theorem Reps.mono (l : Le A H A' H') (d : List D) (v : List V) (h : Reps K A H d v) : Reps K A' H' d v := Reps.monoW l.w d v h
theorem RepV.mono (l : Le A H A' H') (d : Va) (v : V) (h : RepV K A H d v) : RepV K A' H' d v := RepV.monoW d v l.w h
theorem Reps.length : ∀ {ds : List D} {vs : List V}, Reps K A H ds vs → ds.length = vs.length
  | [], vs, h => by
    have e : vs = [] := h
    subst e; rfl
  | d :: ds, vs, h => by
    obtain ⟨x, xs, h1, h2, h3⟩ := h
    rw [h1, List.length_cons, List.length_cons, Reps.length h3]
theorem Reps.get : ∀ {ds : List D} {vs : List V} {i : Nat} {d : D}, Reps K A H ds vs → ds[i]? = some d → ∃ v, vs[i]? = some v ∧ Rep K A H d v
  | [], vs, i, d, h, e => by simp at e
  | d0 :: ds, vs, i, d, h, e => by
    obtain ⟨x, xs, h1, h2, h3⟩ := h
    subst h1
    cases i with
    | zero => simp at e; subst e; exact ⟨x, rfl, h2⟩
    | succ i =>
      obtain ⟨v, h4, h5⟩ := Reps.get (i := i) h3 (by simpa using e)
      exact ⟨v, by simpa using h4, h5⟩
theorem Reps.append : ∀ {ds es : List D} {vs ws : List V}, Reps K A H ds vs → Reps K A H es ws → Reps K A H (ds ++ es) (vs ++ ws)
  | [], es, vs, ws, h, h' => by
    have e : vs = [] := h
    subst e; exact h'
  | d :: ds, es, vs, ws, h, h' => by
    obtain ⟨x, xs, h1, h2, h3⟩ := h
    subst h1
    exact ⟨x, xs ++ ws, rfl, h2, Reps.append h3 h'⟩
theorem Reps.drop : ∀ {ds : List D} {vs : List V} (n : Nat), Reps K A H ds vs → Reps K A H (ds.drop n) (vs.drop n)
  | ds, vs, 0, h => h
  | [], vs, n + 1, h => by
    have e : vs = [] := h
    subst e; exact rfl
  | d :: ds, vs, n + 1, h => by
    obtain ⟨x, xs, h1, h2, h3⟩ := h
    subst h1
    exact Reps.drop n h3
theorem Reps.take : ∀ {ds : List D} {vs : List V} (n : Nat), Reps K A H ds vs → Reps K A H (ds.take n) (vs.take n)
  | ds, vs, 0, h => by rw [List.take_zero, List.take_zero]; exact rfl
  | [], vs, n + 1, h => by
    have e : vs = [] := h
    subst e; exact rfl
  | d :: ds, vs, n + 1, h => by
    obtain ⟨x, xs, h1, h2, h3⟩ := h
    subst h1
    exact ⟨x, xs.take n, rfl, h2, Reps.take n h3⟩
theorem Reps.reverse : ∀ {ds : List D} {vs : List V}, Reps K A H ds vs → Reps K A H ds.reverse vs.reverse
  | [], vs, h => by
    have e : vs = [] := h
    subst e; exact rfl
  | d :: ds, vs, h => by
    obtain ⟨x, xs, h1, h2, h3⟩ := h
    subst h1
    rw [List.reverse_cons, List.reverse_cons]
    exact Reps.append (Reps.reverse h3) ⟨x, [], rfl, h2, rfl⟩
end

/-- what stands at a mutable object -/
def CellOk (K : PySem.W.Frag) (A : Ad) (H : Hp) (a : Addr) : Cell → Prop
  | .lst xs => ∃ vs, H a = some (.lst vs) ∧ Reps K A H xs vs
  | .ins C fs => ∃ dx vfs, H a = some (.ins C dx vfs) ∧ fs.map (·.1) = vfs.map (·.1) ∧ Reps K A H (fs.map (·.2)) (vfs.map (·.2))
  | .dct kvs => ∃ vkvs, H a = some (.dK vkvs) ∧ kvs.map (·.1) = vkvs.map (·.1) ∧ Reps K A H (kvs.map (·.2)) (vkvs.map (·.2))
/-- what may change -/
def plainO : HO → Prop
  | .lst _ | .ins _ _ _ | .dK _ => True
  | _ => False
theorem plainO_tbl {o : HO} (h : plainO o) : (∀ ps, o ≠ .tbl ps) := fun ps z => by subst z; exact h
theorem plainO_code {o : HO} {c : Addr} {q : Str} (h : plainO o) : o ≠ CodeO c q := fun z => by subst z; unfold CodeO at h; exact h
structure Stt (K : PySem.W.Frag) (T : TB) (A : Ad) (S : Store) (H : Hp) : Prop where
  nd : A.c.Nodup
  len : A.c.length = S.length
  cell : ∀ (i : Nat) (c : Cell), S[i]? = some c → ∃ a, A.c[i]? = some a ∧ CellOk K A H a c
  sub : ∀ a, a ∈ A.c → a ∈ A.m
  tr : ∀ a, a ∈ A.m → ∃ o, H a = some o ∧ plainO o
  tabs : Tabs T.t H
  bas : A.b = T.b
theorem Stt.fresh {K : PySem.W.Frag} {T : TB} {A : Ad} {S : Store} {H : Hp} (st : Stt K T A S H) {p : Addr} (h : H p = none) : p ∉ A.m := fun z => by
  obtain ⟨o, e, _⟩ := st.tr p z
  rw [h] at e; cases e
theorem CellOk.same {K : PySem.W.Frag} {A : Ad} {H H' : Hp} (h : ∀ b o, H b = some o → H' b = some o) {a : Addr} : ∀ {c : Cell}, CellOk K A H a c → CellOk K A H' a c
  | .lst xs, ⟨vs, h1, h2⟩ => ⟨vs, h _ _ h1, Reps.monoW (Le.same h).w _ _ h2⟩
  | .ins C fs, ⟨dx, vfs, h1, h2, h3⟩ => ⟨dx, vfs, h _ _ h1, h2, Reps.monoW (Le.same h).w _ _ h3⟩
  | .dct kvs, ⟨vkvs, h1, h2, h3⟩ => ⟨vkvs, h _ _ h1, h2, Reps.monoW (Le.same h).w _ _ h3⟩
theorem CellOk.leW {K : PySem.W.Frag} {A A' : Ad} {H H' : Hp} (l : Lw A H A' H') {a : Addr} (h : ∀ o, H a = some o → H' a = some o) : ∀ {c : Cell}, CellOk K A H a c → CellOk K A' H' a c
  | .lst xs, ⟨vs, h1, h2⟩ => ⟨vs, h _ h1, Reps.monoW l _ _ h2⟩
  | .ins C fs, ⟨dx, vfs, h1, h2, h3⟩ => ⟨dx, vfs, h _ h1, h2, Reps.monoW l _ _ h3⟩
  | .dct kvs, ⟨vkvs, h1, h2, h3⟩ => ⟨vkvs, h _ h1, h2, Reps.monoW l _ _ h3⟩
theorem CellOk.weak {K : PySem.W.Frag} {A A' : Ad} {H : Hp} (hc : A'.c = A.c) (hm : ∀ a, a ∈ A'.m → a ∈ A.m) {a : Addr} : ∀ {c : Cell}, CellOk K A H a c → CellOk K A' H a c
  | .lst xs, ⟨vs, h1, h2⟩ => ⟨vs, h1, Reps.weak hc hm _ _ h2⟩
  | .ins C fs, ⟨dx, vfs, h1, h2, h3⟩ => ⟨dx, vfs, h1, h2, Reps.weak hc hm _ _ h3⟩
  | .dct kvs, ⟨vkvs, h1, h2, h3⟩ => ⟨vkvs, h1, h2, Reps.weak hc hm _ _ h3⟩
/-- a list that no store tells is changed -/
theorem tabs_upd {T : List (Addr × Str)} {H : Hp} {D : Addr} {o o' : HO} (h : H D = some o) (n1 : ∀ ps, o ≠ .tbl ps) (n2 : ∀ q, o ≠ CodeO D q) (t : Tabs T H) : Tabs T (L2.upd H D o') := fun p hp => by
  obtain ⟨ps, h1, h2, h3⟩ := t p hp
  have ne : p.1 ≠ D := fun z => by
    rw [z, h] at h1
    exact n1 ps (Option.some.inj h1)
  refine ⟨ps, by rw [upd_ne ne]; exact h1, h2, fun pos cv e => ?_⟩
  obtain ⟨c, e1, e2⟩ := h3 pos cv e
  refine ⟨c, e1, ?_⟩
  have nc : c ≠ D := fun z => by
    rw [z, h] at e2
    exact n2 _ (Option.some.inj e2)
  rw [upd_ne nc]; exact e2
theorem Stt.same {K : PySem.W.Frag} {T : TB} {A : Ad} {S : Store} {H H' : Hp} (st : Stt K T A S H) (h : ∀ b o, H b = some o → H' b = some o) : Stt K T A S H' :=
  ⟨st.nd, st.len, fun i c e => let ⟨a, h1, h2⟩ := st.cell i c e; ⟨a, h1, h2.same h⟩, st.sub, fun a ha => let ⟨o, e, q⟩ := st.tr a ha; ⟨o, h a o e, q⟩, st.tabs.ext h, st.bas⟩
theorem Stt.upd {K : PySem.W.Frag} {T : TB} {A : Ad} {S : Store} {H : Hp} {p : Addr} {o : HO} (st : Stt K T A S H) (h : H p = none) : Stt K T A S (upd H p o) :=
  st.same fun b u e => by rw [upd_ne (ne_of_none e h)]; exact e

/-! ### what is wanted, lifted -/
section
variable (K : PySem.W.Frag) (T : TB) (A : Ad) (H : Hp)
def Bk (Q : VK) : D → Store → Prop := fun d S' => ∀ A' H' v, Le A H A' H' → Stt K T A' S' H' → Rep K A' H' d v → Q v H'
def BkX (R : Exn → Option Addr → Hp → Prop) : Exn → Store → Prop := fun x S' => ∀ A' H', Le A H A' H' → Stt K T A' S' H' → R x none H'
structure EnOk (σ : L2.St) (env : En) : Prop where
  len : env.length = σ.length
  at_ : ∀ (i : Nat) (x : Va), env[i]? = some (some x) → ∃ v, σ[i]? = some (some v) ∧ RepV K A H x v
end
section
variable {K : PySem.W.Frag} {T : TB} {A A' : Ad} {H H' : Hp}
theorem Bk.mono (l : Le A H A' H') {Q Q' : VK} (hq : ∀ v H, Q v H → Q' v H) {d : D} {S : Store} (h : Bk K T A H Q d S) : Bk K T A' H' Q' d S := fun A2 H2 v l2 st r => hq _ _ (h A2 H2 v (l.trans l2) st r)
theorem BkX.mono (l : Le A H A' H') {R R' : Exn → Option Addr → Hp → Prop} (hq : ∀ x d H, R x d H → R' x d H) {x : Exn} {S : Store} (h : BkX K T A H R x S) : BkX K T A' H' R' x S := fun A2 H2 l2 st => hq _ _ _ (h A2 H2 (l.trans l2) st)
theorem EnOk.mono (l : Le A H A' H') {σ : L2.St} {env : En} (e : EnOk K A H σ env) : EnOk K A' H' σ env :=
  ⟨e.len, fun i x hx => let ⟨v, h1, h2⟩ := e.at_ i x hx; ⟨v, h1, RepV.mono l x v h2⟩⟩
theorem EnOk.set {σ : L2.St} {env : En} (e : EnOk K A H σ env) (i : Nat) {x : Va} {v : V} (r : RepV K A H x v) : EnOk K A H (σ.set i (some v)) (env.set i (some x)) := by
  refine ⟨by rw [List.length_set, List.length_set]; exact e.len, fun j y hy => ?_⟩
  by_cases hj : i = j
  · subst hj
    by_cases hl : i < env.length
    · rw [List.getElem?_set_self hl] at hy
      have ex : x = y := by injection (Option.some.inj hy)
      subst ex
      exact ⟨v, List.getElem?_set_self (by rw [← e.len]; exact hl), r⟩
    · rw [List.getElem?_eq_none (by rw [List.length_set]; omega)] at hy; cases hy
  · rw [List.getElem?_set_ne hj] at hy ⊢
    exact e.at_ j y hy
end

/-! ### readings over data -/
abbrev QD := D → Store → Prop
abbrev EX := Exn → Store → Prop
abbrev TED := En → Store → QD → EX → Prop
abbrev TTD := En → Store → (Bool → Store → Prop) → EX → Prop
abbrev TAD := En → Store → (List D → Store → Prop) → EX → Prop
structure DE where
  nx : En → Store → Prop
  rt : D → Store → Prop
  bk : En → Store → Prop
  ct : En → Store → Prop
  ex : Exn → En → Store → Prop
abbrev TSD := DE → En → Store → Prop
def MonoE (t : TED) : Prop := ∀ env S Q Q' E E', (∀ d S, Q d S → Q' d S) → (∀ x S, E x S → E' x S) → t env S Q E → t env S Q' E'
def MonoT (t : TTD) : Prop := ∀ env S Q Q' E E', (∀ d S, Q d S → Q' d S) → (∀ x S, E x S → E' x S) → t env S Q E → t env S Q' E'
def MonoA (t : TAD) : Prop := ∀ env S Q Q' E E', (∀ d S, Q d S → Q' d S) → (∀ x S, E x S → E' x S) → t env S Q E → t env S Q' E'
structure DE.Le (D D' : DE) : Prop where
  nx : ∀ env S, D.nx env S → D'.nx env S
  rt : ∀ d S, D.rt d S → D'.rt d S
  bk : ∀ env S, D.bk env S → D'.bk env S
  ct : ∀ env S, D.ct env S → D'.ct env S
  ex : ∀ x env S, D.ex x env S → D'.ex x env S
def MonoS (t : TSD) : Prop := ∀ D D' env S, DE.Le D D' → t D env S → t D' env S

section
variable (K : PySem.W.Frag) (T : TB) (W : WX)
def upE (t : TED) : TE := fun σ H Q => ∃ A S env, EnOk K A H σ env ∧ Stt K T A S H ∧ t env S (Bk K T A H Q) (BkX K T A H fun x d H' => W x d σ H')
def upT (t : TTD) : TT := fun σ H Q => ∃ A S env, EnOk K A H σ env ∧ Stt K T A S H ∧ t env S (fun b S' => ∀ A' H', Le A H A' H' → Stt K T A' S' H' → Q b H') (BkX K T A H fun x d H' => W x d σ H')
def upA (t : TAD) : TA := fun σ H Q => ∃ A S env, EnOk K A H σ env ∧ Stt K T A S H ∧ t env S (fun ds S' => ∀ A' H' vs, Le A H A' H' → Stt K T A' S' H' → Reps K A' H' ds vs → Q vs H') (BkX K T A H fun x d H' => W x d σ H')
def upD (A : Ad) (H : Hp) (D : Ends) : DE where
  nx := fun env S' => ∀ A' H' σ', Le A H A' H' → Stt K T A' S' H' → EnOk K A' H' σ' env → D.nx σ' H'
  rt := fun d S' => ∀ A' H' v, Le A H A' H' → Stt K T A' S' H' → Rep K A' H' d v → D.rt v H'
  bk := fun env S' => ∀ A' H' σ', Le A H A' H' → Stt K T A' S' H' → EnOk K A' H' σ' env → D.bk σ' H'
  ct := fun env S' => ∀ A' H' σ', Le A H A' H' → Stt K T A' S' H' → EnOk K A' H' σ' env → D.ct σ' H'
  ex := fun x env S' => ∀ A' H' σ', Le A H A' H' → Stt K T A' S' H' → EnOk K A' H' σ' env → W x none σ' H'
def upS (t : TSD) : TS := fun D σ H => ∃ A S env, EnOk K A H σ env ∧ Stt K T A S H ∧ t (upD K T W A H D) env S
end
theorem upD.le {K : PySem.W.Frag} {T : TB} {W : WX} {A A' : Ad} {H H' : Hp} {D : Ends} (l : Le A H A' H') : DE.Le (upD K T W A H D) (upD K T W A' H' D) :=
  ⟨fun env S h A2 H2 σ2 l2 => h A2 H2 σ2 (l.trans l2), fun d S h A2 H2 v l2 => h A2 H2 v (l.trans l2), fun env S h A2 H2 σ2 l2 => h A2 H2 σ2 (l.trans l2), fun env S h A2 H2 σ2 l2 => h A2 H2 σ2 (l.trans l2), fun x env S h A2 H2 σ2 l2 => h A2 H2 σ2 (l.trans l2)⟩
theorem PE.imp {X : Cx} {e : Expr} {t t' : TE} (h : PE X e t) (i : ∀ σ H Q, t' σ H Q → t σ H Q) : PE X e t' := ⟨fun pins s σ H Q I q => h.run pins s σ H Q I (i σ H Q q)⟩
theorem PT.imp {X : Cx} {e : Expr} {t t' : TT} (h : PT X e t) (i : ∀ σ H Q, t' σ H Q → t σ H Q) : PT X e t' := ⟨fun pins s σ H Q I q => h.run pins s σ H Q I (i σ H Q q)⟩
theorem PW.imp {X : Cx} {e : Expr} {t t' : TT} (h : PW X e t) (i : ∀ σ H Q, t' σ H Q → t σ H Q) : PW X e t' := ⟨fun wh pins s σ H Q I q => h.run wh pins s σ H Q I (i σ H Q q)⟩
theorem PA.imp {X : Cx} {e : List Expr} {t t' : TA} (h : PA X e t) (i : ∀ σ H Q, t' σ H Q → t σ H Q) : PA X e t' := ⟨fun pos pins s σ H Q I q => h.run pos pins s σ H Q I (i σ H Q q)⟩
theorem PS.imp {X : Cx} {e : Stmt} {t t' : TS} (h : PS X e t) (i : ∀ D σ H, t' D σ H → t D σ H) : PS X e t' := ⟨fun pins s σ H D I q => h.run pins s σ H D I (i D σ H q)⟩
theorem PSs.imp {X : Cx} {e : List Stmt} {t t' : TS} (h : PSs X e t) (i : ∀ D σ H, t' D σ H → t D σ H) : PSs X e t' := ⟨fun pins s σ H D I q => h.run pins s σ H D I (i D σ H q)⟩
end Fs
end
section
set_option Elab.async false
set_option linter.all false
set_option maxRecDepth 100000
set_option maxHeartbeats 4000000
namespace Fs
open PySem PySem.Spec PyProof.Rows L2 LamX

structure PD (X : Cx) (T : TB) (W : WX) (e : Expr) (t : TED) : Prop where
  pe : PE X e (upE X.K T W t)
  mo : MonoE t
structure PTD (X : Cx) (T : TB) (W : WX) (e : Expr) (t : TTD) : Prop where
  pt : PT X e (upT X.K T W t)
  mo : MonoT t
structure PAD (X : Cx) (T : TB) (W : WX) (es : List Expr) (t : TAD) : Prop where
  pa : PA X es (upA X.K T W t)
  mo : MonoA t

/-! ### plain data and equality -/
mutual
def D.py : D → PyData
  | .non => .none | .bl b => .bool b | .int i => .int i | .str x => .str x
  | .tup xs => .tuple (D.pys xs) | .lst xs => .list (D.pys xs) | _ => .dict []
def D.pys : List D → List PyData
  | [] => []
  | x :: xs => D.py x :: D.pys xs
end
def D.fit (d : D) : Prop := SeqAt.shaped d.py = true
def D.eqb (x y : D) : Bool := PyData.eqv x.py y.py
def D.flat : D → Bool
  | .non | .bl _ | .int _ | .str _ => true
  | _ => false
section
variable {K : PySem.W.Frag} {A : Ad} {H : Hp}
mutual
theorem Rep.dp : ∀ (d : D) (v : V), Rep K A H d v → d.py.canLay0 = true → Dp K H v d.py
  | .non, v, h, _ => by have e : v = .non := h; subst e; exact .non
  | .bl b, v, h, _ => by have e : v = .bl b := h; subst e; exact .bl b
  | .int i, v, h, _ => by have e : v = .int i := h; subst e; exact .int i
  | .str x, v, h, _ => by have e : v = .str x := h; subst e; exact .str x
  | .tup xs, v, h, c => by
    obtain ⟨a, vs, rfl, h2, h3⟩ := h
    exact .tup h2.sq (Reps.dp xs vs h3 (by simpa [D.py, PyData.canLay0] using c))
  | .lst xs, v, h, c => by
    obtain ⟨a, vs, rfl, n, h2, h3⟩ := h
    exact .lst (SqL.of h2) (Reps.dp xs vs h3 (by simpa [D.py, PyData.canLay0] using c))
  | .ref a, v, h, c => by simp [D.py, PyData.canLay0] at c
  | .ty n, v, h, c => by simp [D.py, PyData.canLay0] at c
  | .loc n, v, h, c => by simp [D.py, PyData.canLay0] at c
  | .lam l, v, h, c => by simp [D.py, PyData.canLay0] at c
  | .scr l, v, h, c => by simp [D.py, PyData.canLay0] at c
theorem Reps.dp : ∀ (ds : List D) (vs : List V), Reps K A H ds vs → PyData.canLayAll0 (D.pys ds) = true → DpAll K H vs (D.pys ds)
  | [], vs, h, _ => by have e : vs = [] := h; subst e; exact .nil
  | d :: ds, vs, h, c => by
    obtain ⟨x, xs, rfl, h2, h3⟩ := h
    have c2 : d.py.canLay0 = true ∧ PyData.canLayAll0 (D.pys ds) = true := by simpa [D.pys, PyData.canLayAll0] using c
    exact .cons (Rep.dp d x h2 c2.1) (Reps.dp ds xs h3 c2.2)
end
theorem Rep.dpf {d : D} {v : V} (h : Rep K A H d v) (f : d.fit) : Dp K H v d.py := Rep.dp d v h (SeqAt.canLay_of_shaped f)
end

/-! ### names, constants -/
section
variable {X : Cx} {T : TB} {W : WX}
def dVar (i : Nat) : TED := fun env S Q _ => match env[i]? with
  | some (some (.d x)) => Q x S
  | _ => False
theorem dVar_mono (i : Nat) : MonoE (dVar i) := by
  intro env S Q Q' E E' hq _ h
  unfold dVar at h ⊢
  split at h
  · exact hq _ _ h
  · exact h.elim
theorem pd_var {i : Nat} {x : Str} {pos : Pos} (hN : X.N[i]? = some x) (hv : Vis X.env.scope x) (hd : (x == ("__debug__" : Str)) = false) (hcd : (x == ("__classdict__" : Str)) = false) : PD X T W (.Name x pos) (dVar i) := by
  refine ⟨PE.imp (pe_var hN hv hd hcd) fun σ H Q h => ?_, dVar_mono i⟩
  obtain ⟨A, S, env, eo, st, h⟩ := h
  unfold dVar at h
  split at h
  · rename_i x hx
    obtain ⟨v, h1, h2⟩ := eo.at_ i _ hx
    exact ⟨v, h1, h A H v (Le.refl A H) st h2⟩
  · exact h.elim
def dC (d : D) : TED := fun _ S Q _ => Q d S
theorem dC_mono (d : D) : MonoE (dC d) := fun env S Q Q' E E' hq _ h => hq _ _ h
theorem pd_c {e : Expr} {v : V} {d : D} (h : PE X e (tC v)) (r : ∀ A H, Rep X.K A H d v) : PD X T W e (dC d) := by
  refine ⟨PE.imp h fun σ H Q h => ?_, dC_mono d⟩
  obtain ⟨A, S, env, eo, st, h⟩ := h
  exact h A H v (Le.refl A H) st (r A H)

/-! ### binary operators -/
abbrev OpD := D → D → Store → (D → Prop) → Prop
def MonoOp (f : OpD) : Prop := ∀ x y S k k', (∀ d, k d → k' d) → f x y S k → f x y S k'
def OpL (K : PySem.W.Frag) (T : TB) (f : OpD) (r : R2) : Prop :=
  ∀ A S H x y vx vy (Q : VK), Stt K T A S H → Rep K A H x vx → Rep K A H y vy → f x y S (fun d => Bk K T A H Q d S) → r vx vy H Q
def dBin (f : OpD) (ta tb : TED) : TED := fun env S Q E => ta env S (fun x S1 => tb env S1 (fun y S2 => f x y S2 fun d => Q d S2) E) E
theorem dBin_mono {f : OpD} {ta tb : TED} (hf : MonoOp f) (ha : MonoE ta) (hb : MonoE tb) : MonoE (dBin f ta tb) := fun env S Q Q' E E' hq he h =>
  ha _ _ _ _ _ _ (fun x S1 h1 => hb _ _ _ _ _ _ (fun y S2 h2 => hf _ _ _ _ _ (fun d hd => hq _ _ hd) h2) he h1) he h
theorem up_bin {K : PySem.W.Frag} {f : OpD} {r : R2} {ta tb : TED} (hl : OpL K T f r) (hf : MonoOp f) (ha : MonoE ta) (hb : MonoE tb) {σ : L2.St} {H : Hp} {Q : VK} (h : upE K T W (dBin f ta tb) σ H Q) : tOp r (upE K T W ta) (upE K T W tb) σ H Q := by
  obtain ⟨A, S, env, eo, st, h⟩ := h
  refine ⟨A, S, env, eo, st, ha _ _ _ _ _ _ (fun x S1 h1 => ?_) (fun _ _ e => e) h⟩
  intro A1 H1 vx l1 st1 rx
  refine ⟨A1, S1, env, eo.mono l1, st1, hb _ _ _ _ _ _ (fun y S2 h2 => ?_) (fun x S e => BkX.mono l1 (fun _ _ _ z => z) e) h1⟩
  intro A2 H2 vy l2 st2 ry
  exact hl A2 S2 H2 x y vx vy Q st2 (Rep.mono l2 _ _ rx) ry (hf _ _ _ _ _ (fun d hd => Bk.mono (l1.trans l2) (fun _ _ z => z) hd) h2)
theorem pd_bin {op : Operator} {r : R2} {f : OpD} {a b : Expr} {ta tb : TED} {pos : Pos} (ho : OpR X (binaryOp op) r) (hl : OpL X.K T f r) (hf : MonoOp f) (ha : PD X T W a ta) (hb : PD X T W b tb) : PD X T W (.BinOp a op b pos) (dBin f ta tb) :=
  ⟨PE.imp (pe_op ho ha.pe hb.pe) fun _ _ _ h => up_bin hl hf ha.mo hb.mo h, dBin_mono hf ha.mo hb.mo⟩
theorem pd_cmp {op : CmpOp} {r : R2} {f : OpD} {a b : Expr} {ta tb : TED} {pos : Pos} (ho : OpR X (compareOp op) r) (hl : OpL X.K T f r) (hf : MonoOp f) (ha : PD X T W a ta) (hb : PD X T W b tb) (hm : behindInMarks op b = false) : PD X T W (.Compare a [op] [b] pos) (dBin f ta tb) :=
  ⟨PE.imp (pe_cmpR ho ha.pe hb.pe hm) fun _ _ _ h => up_bin hl hf ha.mo hb.mo h, dBin_mono hf ha.mo hb.mo⟩
/-- a truth value, and two ways -/
def onB (x : D) (k : Bool → Prop) : Prop := match x with
  | .bl b => k b
  | _ => False
def condB (x : D) (p q : Prop) : Prop := match x with
  | .bl b => if b = true then p else q
  | _ => False
theorem onB_get {x : D} {k : Bool → Prop} (h : onB x k) : ∃ b, x = .bl b ∧ k b := by
  cases x <;> first | exact ⟨_, rfl, h⟩ | exact h.elim
theorem onB_mono {x : D} {k k' : Bool → Prop} (hk : ∀ b, k b → k' b) (h : onB x k) : onB x k' := by
  obtain ⟨b, rfl, h⟩ := onB_get h
  exact hk b h
theorem condB_get {x : D} {p q : Prop} (h : condB x p q) : (x = .bl true ∧ p) ∨ (x = .bl false ∧ q) := by
  cases x with
  | bl b =>
    cases b with
    | true => exact .inl ⟨rfl, by simpa [condB] using h⟩
    | false => exact .inr ⟨rfl, by simpa [condB] using h⟩
  | _ => exact h.elim
theorem condB_true {p q : Prop} (h : p) : condB (.bl true) p q := by
  show (if true = true then p else q)
  rw [if_pos rfl]; exact h
theorem condB_false {p q : Prop} (h : q) : condB (.bl false) p q := by
  show (if false = true then p else q)
  rw [if_neg (by decide)]; exact h
theorem condB_mono {x : D} {p q p' q' : Prop} (hp : p → p') (hq : q → q') (h : condB x p q) : condB x p' q' := by
  rcases condB_get h with ⟨rfl, h⟩ | ⟨rfl, h⟩
  · exact condB_true (hp h)
  · exact condB_false (hq h)
@[simp] theorem onB_bl (b : Bool) (k : Bool → Prop) : onB (.bl b) k = k b := rfl
@[simp] theorem condB_bl (b : Bool) (p q : Prop) : condB (.bl b) p q = if b = true then p else q := rfl
/-- a comparison as a test -/
def dTest (t : TED) : TTD := fun env S Q E => t env S (fun x S1 => onB x fun b => Q b S1) E
theorem dTest_mono {t : TED} (h : MonoE t) : MonoT (dTest t) := fun env S Q Q' E E' hq he q => h _ _ _ _ _ _ (fun x S1 h1 => onB_mono (fun b => hq b S1) h1) he q
theorem up_test {K : PySem.W.Frag} {t : TED} (hm : MonoE t) {σ : L2.St} {H : Hp} {Q : Bool → Hp → Prop} (h : upT K T W (dTest t) σ H Q) : upE K T W t σ H fun x H' => ∃ k, x = .bl k ∧ Q k H' := by
  obtain ⟨A, S, env, eo, st, h⟩ := h
  refine ⟨A, S, env, eo, st, hm _ _ _ _ _ _ (fun x S1 h1 => ?_) (fun _ _ e => e) h⟩
  intro A1 H1 v l1 st1 r
  obtain ⟨b, rfl, h1⟩ := onB_get h1
  exact ⟨b, r, h1 A1 H1 l1 st1⟩
theorem ptd_cmp {op : CmpOp} {r : R2} {f : OpD} {a b : Expr} {ta tb : TED} {pos : Pos} (ho : OpR X (compareOp op) r) (hl : OpL X.K T f r) (hf : MonoOp f) (ha : PD X T W a ta) (hb : PD X T W b tb) (hm : behindInMarks op b = false) : PTD X T W (.Compare a [op] [b] pos) (dTest (dBin f ta tb)) := by
  refine ⟨PT.imp (pt_cmpR ho ha.pe hb.pe hm) fun σ H Q h => ?_, dTest_mono (dBin_mono hf ha.mo hb.mo)⟩
  exact up_bin hl hf ha.mo hb.mo (up_test (dBin_mono hf ha.mo hb.mo) h)
/-- a <= b <= c -/
def dChain (f g : OpD) (ta tb tc : TED) : TED := fun env S Q E => ta env S (fun x S1 => tb env S1 (fun y S2 => f x y S2 fun z => condB z (tc env S2 (fun w S3 => g y w S3 fun d => Q d S3) E) (Q (.bl false) S2)) E) E
theorem dChain_mono {f g : OpD} {ta tb tc : TED} (hf : MonoOp f) (hg : MonoOp g) (ha : MonoE ta) (hb : MonoE tb) (hc : MonoE tc) : MonoE (dChain f g ta tb tc) := fun env S Q Q' E E' hq he h =>
  ha _ _ _ _ _ _ (fun x S1 h1 => hb _ _ _ _ _ _ (fun y S2 h2 => hf _ _ _ _ _ (fun d hd => condB_mono (fun hd => hc _ _ _ _ _ _ (fun w S3 h3 => hg _ _ _ _ _ (fun d hd => hq _ _ hd) h3) he hd) (fun hd => hq _ _ hd) hd) h2) he h1) he h
theorem up_chain {K : PySem.W.Frag} {f g : OpD} {r r' : R2} {ta tb tc : TED} (hl : OpL K T f r) (hl' : OpL K T g r') (hf : MonoOp f) (hg : MonoOp g) (ha : MonoE ta) (hb : MonoE tb) (hc : MonoE tc) {σ : L2.St} {H : Hp} {Q : VK}
    (h : upE K T W (dChain f g ta tb tc) σ H Q) : tChain r r' (upE K T W ta) (upE K T W tb) (upE K T W tc) σ H Q := by
  obtain ⟨A, S, env, eo, st, h⟩ := h
  refine ⟨A, S, env, eo, st, ha _ _ _ _ _ _ (fun x S1 h1 => ?_) (fun _ _ e => e) h⟩
  intro A1 H1 vx l1 st1 rx
  refine ⟨A1, S1, env, eo.mono l1, st1, hb _ _ _ _ _ _ (fun y S2 h2 => ?_) (fun x S e => BkX.mono l1 (fun _ _ _ z => z) e) h1⟩
  intro A2 H2 vy l2 st2 ry
  refine hl A2 S2 H2 x y vx vy _ st2 (Rep.mono l2 _ _ rx) ry (hf _ _ _ _ _ (fun d hd => ?_) h2)
  intro A3 H3 vz l3 st3 rz
  rcases condB_get hd with ⟨rfl, hd⟩ | ⟨rfl, hd⟩
  · refine ⟨true, rz, ?_⟩
    rw [if_pos rfl]
    refine ⟨A3, S2, env, ((eo.mono l1).mono l2).mono l3, st3, hc _ _ _ _ _ _ (fun w S3 h3 => ?_) (fun x S e => BkX.mono ((l1.trans l2).trans l3) (fun _ _ _ z => z) e) hd⟩
    intro A4 H4 vw l4 st4 rw'
    exact hl' A4 S3 H4 y w vy vw Q st4 (Rep.mono l4 _ _ (Rep.mono l3 _ _ ry)) rw' (hg _ _ _ _ _ (fun d hd => Bk.mono (((l1.trans l2).trans l3).trans l4) (fun _ _ z => z) hd) h3)
  · refine ⟨false, rz, ?_⟩
    rw [if_neg (by decide)]
    exact hd A3 H3 _ ((l1.trans l2).trans l3) st3 rfl
theorem pd_chain {op op' : CmpOp} {r r' : R2} {f g : OpD} {a b c : Expr} {ta tb tc : TED} {pos : Pos} (ho : OpR X (compareOp op) r) (ho' : OpR X (compareOp op') r') (hl : OpL X.K T f r) (hl' : OpL X.K T g r') (hf : MonoOp f) (hg : MonoOp g)
    (ha : PD X T W a ta) (hb : PD X T W b tb) (hc : PD X T W c tc) (hm : lastMarks [op, op'] [b, c] = false) : PD X T W (.Compare a [op, op'] [b, c] pos) (dChain f g ta tb tc) :=
  ⟨PE.imp (pe_chain ho ho' ha.pe hb.pe hc.pe hm) fun _ _ _ h => up_chain hl hl' hf hg ha.mo hb.mo hc.mo h, dChain_mono hf hg ha.mo hb.mo hc.mo⟩
theorem ptd_chain {op op' : CmpOp} {r r' : R2} {f g : OpD} {a b c : Expr} {ta tb tc : TED} {pos : Pos} (ho : OpR X (compareOp op) r) (ho' : OpR X (compareOp op') r') (hl : OpL X.K T f r) (hl' : OpL X.K T g r') (hf : MonoOp f) (hg : MonoOp g)
    (ha : PD X T W a ta) (hb : PD X T W b tb) (hc : PD X T W c tc) (hm : lastMarks [op, op'] [b, c] = false) : PTD X T W (.Compare a [op, op'] [b, c] pos) (dTest (dChain f g ta tb tc)) :=
  ⟨PT.imp (pt_chain ho ho' ha.pe hb.pe hc.pe hm) fun _ _ _ h => up_chain hl hl' hf hg ha.mo hb.mo hc.mo (up_test (dChain_mono hf hg ha.mo hb.mo hc.mo) h), dTest_mono (dChain_mono hf hg ha.mo hb.mo hc.mo)⟩

/-! ### truth -/
def truD (S : Store) : D → (Bool → Prop) → Prop
  | .non, k => k false
  | .bl b, k => k b
  | .int i, k => k (i != 0)
  | .str y, k => y.length ≤ sizeLine ∧ k ((y.length : Int) != 0)
  | .tup xs, k => k (!xs.isEmpty)
  | .lst xs, k => k (!xs.isEmpty)
  | _, _ => False
theorem truD_mono {S : Store} {d : D} {k k' : Bool → Prop} (hk : ∀ b, k b → k' b) (h : truD S d k) : truD S d k' := by
  cases d <;> first | exact hk _ h | exact ⟨h.1, hk _ h.2⟩ | exact h
def dTru (t : TED) : TTD := fun env S Q E => t env S (fun x S1 => truD S1 x fun b => Q b S1) E
theorem dTru_mono {t : TED} (h : MonoE t) : MonoT (dTru t) := fun env S Q Q' E E' hq he q => h _ _ _ _ _ _ (fun x S1 h1 => truD_mono (fun b => hq b S1) h1) he q
theorem isEmpty_reps {K : PySem.W.Frag} {A : Ad} {H : Hp} : ∀ {ds : List D} {vs : List V}, Reps K A H ds vs → (!vs.isEmpty) = !ds.isEmpty
  | [], vs, h => by have e : vs = [] := h; subst e; rfl
  | d :: ds, vs, h => by obtain ⟨x, xs, rfl, _, _⟩ := h; rfl
theorem ptd_tru {e : Expr} {t : TED} (h : PD X T W e t) (he : ∀ whole, isTrue e X.env whole = (do let v ← whole; standAt e.pos; holding [v] (truthy v))) : PTD X T W e (dTru t) := by
  refine ⟨PT.imp (pt_truth h.pe he) fun σ H Q q => ?_, dTru_mono h.mo⟩
  obtain ⟨A, S, env, eo, st, q⟩ := q
  refine ⟨A, S, env, eo, st, h.mo _ _ _ _ _ _ (fun x S1 h1 => ?_) (fun _ _ e => e) q⟩
  intro A1 H1 v l1 st1 r
  cases x with
  | non => have e : v = .non := r; subst e; exact ⟨false, rfl, h1 A1 H1 l1 st1⟩
  | bl b => have e : v = .bl b := r; subst e; exact ⟨b, rfl, h1 A1 H1 l1 st1⟩
  | int i => have e : v = .int i := r; subst e; exact ⟨_, rfl, h1 A1 H1 l1 st1⟩
  | str y => have e : v = .str y := r; subst e; exact ⟨_, ⟨h1.1, rfl⟩, h1.2 A1 H1 l1 st1⟩
  | tup xs =>
    obtain ⟨a, vs, rfl, hs, hr⟩ := r
    exact ⟨_, .inr (.inl ⟨vs, hs.sq, (isEmpty_reps hr).symm⟩), h1 A1 H1 l1 st1⟩
  | lst xs =>
    obtain ⟨a, vs, rfl, n, hs, hr⟩ := r
    exact ⟨_, .inl ⟨vs, SqL.of hs, (isEmpty_reps hr).symm⟩, h1 A1 H1 l1 st1⟩
  | _ => exact h1.elim

/-! ### and, or, not, if -/
def dAnd (t u : TTD) : TTD := fun env S Q E => t env S (fun c S1 => if c = true then u env S1 Q E else Q false S1) E
def dOr (t u : TTD) : TTD := fun env S Q E => t env S (fun c S1 => if c = true then Q true S1 else u env S1 Q E) E
def dNot (t : TTD) : TTD := fun env S Q E => t env S (fun c S1 => Q (!c) S1) E
theorem dAnd_mono {t u : TTD} (ht : MonoT t) (hu : MonoT u) : MonoT (dAnd t u) := fun env S Q Q' E E' hq he h => ht _ _ _ _ _ _ (fun c S1 h1 => by
  cases c
  · exact hq _ _ h1
  · exact hu _ _ _ _ _ _ hq he h1) he h
theorem dOr_mono {t u : TTD} (ht : MonoT t) (hu : MonoT u) : MonoT (dOr t u) := fun env S Q Q' E E' hq he h => ht _ _ _ _ _ _ (fun c S1 h1 => by
  cases c
  · exact hu _ _ _ _ _ _ hq he h1
  · exact hq _ _ h1) he h
theorem dNot_mono {t : TTD} (ht : MonoT t) : MonoT (dNot t) := fun env S Q Q' E E' hq he h => ht _ _ _ _ _ _ (fun c S1 h1 => hq _ _ h1) he h
/-- a test whatever its 'whole' is -/
structure PWD (X : Cx) (T : TB) (W : WX) (e : Expr) (t : TTD) : Prop where
  pw : PW X e (upT X.K T W t)
  mo : MonoT t
theorem PWD.ptd {e : Expr} {t : TTD} (h : PWD X T W e t) : PTD X T W e t := ⟨h.pw.pt, h.mo⟩
variable {a b c : Expr} {rest : List Expr} {pos : Pos}
theorem pwd_and1 {t : TTD} (h : PTD X T W a t) : PWD X T W (.BoolOp .And [a] pos) t := ⟨pw_and1 h.pt, h.mo⟩
theorem pwd_or1 {t : TTD} (h : PTD X T W a t) : PWD X T W (.BoolOp .Or [a] pos) t := ⟨pw_or1 h.pt, h.mo⟩
theorem pwd_and {t u : TTD} (ha : PTD X T W a t) (hb : PWD X T W (.BoolOp .And (b :: rest) pos) u) : PWD X T W (.BoolOp .And (a :: b :: rest) pos) (dAnd t u) := by
  refine ⟨PW.imp (pw_and ha.pt hb.pw) fun σ H Q q => ?_, dAnd_mono ha.mo hb.mo⟩
  obtain ⟨A, S, env, eo, st, q⟩ := q
  refine ⟨A, S, env, eo, st, ha.mo _ _ _ _ _ _ (fun x S1 h1 => ?_) (fun _ _ e => e) q⟩
  intro A1 H1 l1 st1
  cases x with
  | false => rw [if_neg (by decide)] at h1 ⊢; exact h1 A1 H1 l1 st1
  | true =>
    rw [if_pos rfl] at h1 ⊢
    exact ⟨A1, S1, env, eo.mono l1, st1, hb.mo _ _ _ _ _ _ (fun b S2 h2 A2 H2 l2 st2 => h2 A2 H2 (l1.trans l2) st2) (fun x S e => BkX.mono l1 (fun _ _ _ z => z) e) h1⟩
theorem pwd_or {t u : TTD} (ha : PTD X T W a t) (hb : PWD X T W (.BoolOp .Or (b :: rest) pos) u) : PWD X T W (.BoolOp .Or (a :: b :: rest) pos) (dOr t u) := by
  refine ⟨PW.imp (pw_or ha.pt hb.pw) fun σ H Q q => ?_, dOr_mono ha.mo hb.mo⟩
  obtain ⟨A, S, env, eo, st, q⟩ := q
  refine ⟨A, S, env, eo, st, ha.mo _ _ _ _ _ _ (fun x S1 h1 => ?_) (fun _ _ e => e) q⟩
  intro A1 H1 l1 st1
  cases x with
  | true => rw [if_pos rfl] at h1 ⊢; exact h1 A1 H1 l1 st1
  | false =>
    rw [if_neg (by decide)] at h1 ⊢
    exact ⟨A1, S1, env, eo.mono l1, st1, hb.mo _ _ _ _ _ _ (fun b S2 h2 A2 H2 l2 st2 => h2 A2 H2 (l1.trans l2) st2) (fun x S e => BkX.mono l1 (fun _ _ _ z => z) e) h1⟩
theorem ptd_not {t : TTD} (ha : PTD X T W a t) : PTD X T W (.UnaryOp .Not a pos) (dNot t) := by
  refine ⟨PT.imp (pt_not ha.pt) fun σ H Q q => ?_, dNot_mono ha.mo⟩
  obtain ⟨A, S, env, eo, st, q⟩ := q
  exact ⟨A, S, env, eo, st, ha.mo _ _ _ _ _ _ (fun x S1 h1 A1 H1 l1 st1 => h1 A1 H1 l1 st1) (fun _ _ e => e) q⟩
/-- as values: all bools -/
def dAndV (ta tb : TED) : TED := fun env S Q E => ta env S (fun x S1 => condB x (tb env S1 Q E) (Q (.bl false) S1)) E
def dOrV (ta tb : TED) : TED := fun env S Q E => ta env S (fun x S1 => condB x (Q (.bl true) S1) (tb env S1 Q E)) E
def dNotV (ta : TED) : TED := fun env S Q E => ta env S (fun x S1 => onB x fun c => Q (.bl (!c)) S1) E
theorem dAndV_mono {t u : TED} (ht : MonoE t) (hu : MonoE u) : MonoE (dAndV t u) := fun env S Q Q' E E' hq he h => ht _ _ _ _ _ _ (fun c S1 h1 => condB_mono (fun h1 => hu _ _ _ _ _ _ hq he h1) (fun h1 => hq _ _ h1) h1) he h
theorem dOrV_mono {t u : TED} (ht : MonoE t) (hu : MonoE u) : MonoE (dOrV t u) := fun env S Q Q' E E' hq he h => ht _ _ _ _ _ _ (fun c S1 h1 => condB_mono (fun h1 => hq _ _ h1) (fun h1 => hu _ _ _ _ _ _ hq he h1) h1) he h
theorem dNotV_mono {t : TED} (ht : MonoE t) : MonoE (dNotV t) := fun env S Q Q' E E' hq he h => ht _ _ _ _ _ _ (fun c S1 h1 => onB_mono (fun b => hq _ S1) h1) he h
theorem pd_one {op : BoolOp} {t : TED} (h : PD X T W a t) : PD X T W (.BoolOp op [a] pos) t := ⟨pe_one h.pe, h.mo⟩
theorem pd_and {ta tb : TED} (ha : PD X T W a ta) (hb : PD X T W (.BoolOp .And (b :: rest) pos) tb) : PD X T W (.BoolOp .And (a :: b :: rest) pos) (dAndV ta tb) := by
  refine ⟨PE.imp (L2.pe_and ha.pe hb.pe) fun σ H Q q => ?_, dAndV_mono ha.mo hb.mo⟩
  obtain ⟨A, S, env, eo, st, q⟩ := q
  refine ⟨A, S, env, eo, st, ha.mo _ _ _ _ _ _ (fun x S1 h1 => ?_) (fun _ _ e => e) q⟩
  intro A1 H1 v l1 st1 r
  rcases condB_get h1 with ⟨rfl, h1⟩ | ⟨rfl, h1⟩
  · refine ⟨true, r, ?_⟩
    rw [if_pos rfl]
    exact ⟨A1, S1, env, eo.mono l1, st1, hb.mo _ _ _ _ _ _ (fun b S2 h2 => Bk.mono l1 (fun _ _ z => z) h2) (fun x S e => BkX.mono l1 (fun _ _ _ z => z) e) h1⟩
  · refine ⟨false, r, ?_⟩
    rw [if_neg (by decide)]
    exact h1 A1 H1 _ l1 st1 rfl
theorem pd_or {ta tb : TED} (ha : PD X T W a ta) (hb : PD X T W (.BoolOp .Or (b :: rest) pos) tb) : PD X T W (.BoolOp .Or (a :: b :: rest) pos) (dOrV ta tb) := by
  refine ⟨PE.imp (L2.pe_or ha.pe hb.pe) fun σ H Q q => ?_, dOrV_mono ha.mo hb.mo⟩
  obtain ⟨A, S, env, eo, st, q⟩ := q
  refine ⟨A, S, env, eo, st, ha.mo _ _ _ _ _ _ (fun x S1 h1 => ?_) (fun _ _ e => e) q⟩
  intro A1 H1 v l1 st1 r
  rcases condB_get h1 with ⟨rfl, h1⟩ | ⟨rfl, h1⟩
  · refine ⟨true, r, ?_⟩
    rw [if_pos rfl]
    exact h1 A1 H1 _ l1 st1 rfl
  · refine ⟨false, r, ?_⟩
    rw [if_neg (by decide)]
    exact ⟨A1, S1, env, eo.mono l1, st1, hb.mo _ _ _ _ _ _ (fun b S2 h2 => Bk.mono l1 (fun _ _ z => z) h2) (fun x S e => BkX.mono l1 (fun _ _ _ z => z) e) h1⟩
theorem pd_not {ta : TED} (ha : PD X T W a ta) : PD X T W (.UnaryOp .Not a pos) (dNotV ta) := by
  refine ⟨PE.imp (L2.pe_not ha.pe) fun σ H Q q => ?_, dNotV_mono ha.mo⟩
  obtain ⟨A, S, env, eo, st, q⟩ := q
  refine ⟨A, S, env, eo, st, ha.mo _ _ _ _ _ _ (fun x S1 h1 => ?_) (fun _ _ e => e) q⟩
  intro A1 H1 v l1 st1 r
  obtain ⟨c, rfl, h1⟩ := onB_get h1
  exact ⟨c, r, h1 A1 H1 _ l1 st1 rfl⟩
def dIf (t : TTD) (ta tb : TED) : TED := fun env S Q E => t env S (fun c S1 => if c = true then ta env S1 Q E else tb env S1 Q E) E
theorem dIf_mono {t : TTD} {ta tb : TED} (ht : MonoT t) (ha : MonoE ta) (hb : MonoE tb) : MonoE (dIf t ta tb) := fun env S Q Q' E E' hq he h => ht _ _ _ _ _ _ (fun c S1 h1 => by
  cases c
  · exact hb _ _ _ _ _ _ hq he h1
  · exact ha _ _ _ _ _ _ hq he h1) he h
theorem pd_if {t : TTD} {ta tb : TED} (hc : PTD X T W c t) (ha : PD X T W a ta) (hb : PD X T W b tb) : PD X T W (.IfExp c a b pos) (dIf t ta tb) := by
  refine ⟨PE.imp (pe_ifExp hc.pt ha.pe hb.pe) fun σ H Q q => ?_, dIf_mono hc.mo ha.mo hb.mo⟩
  obtain ⟨A, S, env, eo, st, q⟩ := q
  refine ⟨A, S, env, eo, st, hc.mo _ _ _ _ _ _ (fun x S1 h1 => ?_) (fun _ _ e => e) q⟩
  intro A1 H1 l1 st1
  cases x with
  | true =>
    rw [if_pos rfl] at h1 ⊢
    exact ⟨A1, S1, env, eo.mono l1, st1, ha.mo _ _ _ _ _ _ (fun b S2 h2 => Bk.mono l1 (fun _ _ z => z) h2) (fun x S e => BkX.mono l1 (fun _ _ _ z => z) e) h1⟩
  | false =>
    rw [if_neg (by decide)] at h1 ⊢
    exact ⟨A1, S1, env, eo.mono l1, st1, hb.mo _ _ _ _ _ _ (fun b S2 h2 => Bk.mono l1 (fun _ _ z => z) h2) (fun x S e => BkX.mono l1 (fun _ _ _ z => z) e) h1⟩

/-! ### arguments, displays -/
def dNil : TAD := fun _ S Q _ => Q [] S
def dCons (ta : TED) (t : TAD) : TAD := fun env S Q E => ta env S (fun x S1 => t env S1 (fun xs S2 => Q (x :: xs) S2) E) E
theorem pad_nil : PAD X T W [] dNil := by
  refine ⟨PA.imp pa_nil fun σ H Q q => ?_, fun _ _ _ _ _ _ hq _ h => hq _ _ h⟩
  obtain ⟨A, S, env, eo, st, q⟩ := q
  exact q A H [] (Le.refl A H) st rfl
theorem pad_cons {e : Expr} {es : List Expr} {te : TED} {t : TAD} (he : PD X T W e te) (ht : PAD X T W es t) (hs : starEach (e :: es) X.env = (false, eval e X.env) :: starEach es X.env) : PAD X T W (e :: es) (dCons te t) := by
  refine ⟨PA.imp (pa_cons he.pe ht.pa hs) fun σ H Q q => ?_, fun _ _ _ _ _ _ hq hE h => he.mo _ _ _ _ _ _ (fun x S1 h1 => ht.mo _ _ _ _ _ _ (fun _ _ h2 => hq _ _ h2) hE h1) hE h⟩
  obtain ⟨A, S, env, eo, st, q⟩ := q
  refine ⟨A, S, env, eo, st, he.mo _ _ _ _ _ _ (fun x S1 h1 => ?_) (fun _ _ e => e) q⟩
  intro A1 H1 v l1 st1 r
  refine ⟨A1, S1, env, eo.mono l1, st1, ht.mo _ _ _ _ _ _ (fun xs S2 h2 => ?_) (fun x S e => BkX.mono l1 (fun _ _ _ z => z) e) h1⟩
  intro A2 H2 vs l2 st2 rs
  exact h2 A2 H2 (v :: vs) (l1.trans l2) st2 ⟨v, vs, rfl, Rep.mono l2 _ _ r, rs⟩
def dTup (t : TAD) : TED := fun env S Q E => t env S (fun xs S1 => xs.length ≤ sizeLine ∧ Q (.tup xs) S1) E
def dLst (t : TAD) : TED := fun env S Q E => t env S (fun xs S1 => xs.length ≤ sizeLine ∧ Q (.lst xs) S1) E
theorem bk_tup {K : PySem.W.Frag} {A : Ad} {H : Hp} {S : Store} {xs : List D} {vs : List V} {Q : VK} {p : Addr} (st : Stt K T A S H) (r : Reps K A H xs vs) (hp : H p = none) (h : Bk K T A H Q (.tup xs) S) : Q (.ref p) (upd H p (.tup vs)) :=
  h A _ _ (Le.upd hp) (st.upd hp) ⟨p, vs, rfl, .inl ⟨st.fresh hp, upd_same⟩, Reps.mono (Le.upd hp) _ _ r⟩
theorem bk_lst {K : PySem.W.Frag} {A : Ad} {H : Hp} {S : Store} {xs : List D} {vs : List V} {Q : VK} {p : Addr} (st : Stt K T A S H) (r : Reps K A H xs vs) (hp : H p = none) (h : Bk K T A H Q (.lst xs) S) : Q (.ref p) (upd H p (.lst vs)) :=
  h A _ _ (Le.upd hp) (st.upd hp) ⟨p, vs, rfl, st.fresh hp, upd_same, Reps.mono (Le.upd hp) _ _ r⟩
theorem pd_tup {es : List Expr} {t : TAD} {n : Nat} (h : PAD X T W es t) : PD X T W (.Tuple es n pos) (dTup t) := by
  refine ⟨PE.imp (pe_tup h.pa) fun σ H Q q => ?_, fun _ _ _ _ _ _ hq hE h' => h.mo _ _ _ _ _ _ (fun xs S1 h1 => ⟨h1.1, hq _ _ h1.2⟩) hE h'⟩
  obtain ⟨A, S, env, eo, st, q⟩ := q
  refine ⟨A, S, env, eo, st, h.mo _ _ _ _ _ _ (fun xs S1 h1 => ?_) (fun _ _ e => e) q⟩
  intro A1 H1 vs l1 st1 rs
  exact ⟨by rw [← rs.length]; exact h1.1, fun p hp => bk_tup st1 rs hp (Bk.mono l1 (fun _ _ z => z) h1.2)⟩
theorem pd_lst {es : List Expr} {t : TAD} (h : PAD X T W es t) : PD X T W (.List es pos) (dLst t) := by
  refine ⟨PE.imp (pe_lst h.pa) fun σ H Q q => ?_, fun _ _ _ _ _ _ hq hE h' => h.mo _ _ _ _ _ _ (fun xs S1 h1 => ⟨h1.1, hq _ _ h1.2⟩) hE h'⟩
  obtain ⟨A, S, env, eo, st, q⟩ := q
  refine ⟨A, S, env, eo, st, h.mo _ _ _ _ _ _ (fun xs S1 h1 => ?_) (fun _ _ e => e) q⟩
  intro A1 H1 vs l1 st1 rs
  exact ⟨by rw [← rs.length]; exact h1.1, fun p hp => bk_lst st1 rs hp (Bk.mono l1 (fun _ _ z => z) h1.2)⟩
end
end Fs
end
section
set_option Elab.async false
set_option linter.all false
set_option maxRecDepth 100000
set_option maxHeartbeats 4000000
namespace Fs
open PySem PySem.Spec PyProof.Rows L2 LamX

/-! ### + - * // % ** -/
def addD : OpD := fun x y _ k => match x, y with
  | .int i, .int j => k (.int (i + j))
  | .str a, .str b => a.length + b.length ≤ sizeLine ∧ k (.str (a ++ b))
  | .tup xs, .tup ys => xs.length + ys.length ≤ sizeLine ∧ k (.tup (xs ++ ys))
  | .lst xs, .lst ys => xs.length + ys.length ≤ sizeLine ∧ k (.lst (xs ++ ys))
  | _, _ => False
def subD : OpD := fun x y _ k => match x, y with
  | .int i, .int j => k (.int (i - j))
  | _, _ => False
def repsD (n : Nat) (xs : List D) : List D := (List.replicate n xs).flatten
/-- a product of two factors of together less than a million bits, or of one of less than 64 -/
def CMulA (i j : Int) : Prop := CMulW i j ∨ CMul i j
def strOkMul (x : Str) (n : Int) : Prop := MulOk x n
def mulD : OpD := fun x y _ k => match x, y with
  | .int i, .int j => CMulA i j ∧ k (.int (i * j))
  | .str a, .int n => MulOk a n ∧ k (.str (Txt.mul a n))
  | .tup xs, .int n => (xs ≠ [] ∧ 2 ≤ n ∧ n ≤ 1000 ∧ xs.length ≤ 1000) ∧ k (.tup (repsD n.toNat xs))
  | .lst xs, .int n => (0 ≤ n ∧ n ≤ 1000 ∧ xs.length ≤ 1000) ∧ k (.lst (repsD n.toNat xs))
  | _, _ => False
def fdivD : OpD := fun x y _ k => match x, y with
  | .int i, .int j => CDivW i j ∧ k (.int (i / j))
  | _, _ => False
def modD : OpD := fun x y _ k => match x, y with
  | .int i, .int j => 0 < j ∧ k (.int (i % j))
  | _, _ => False
def powD : OpD := fun x y _ k => match x, y with
  | .int i, .int j => CPow i j ∧ k (.int (i ^ j.toNat))
  | _, _ => False
theorem addD_mono : MonoOp addD := by
  intro x y S k k' hk h
  cases x <;> cases y <;> first | exact hk _ h | exact ⟨h.1, hk _ h.2⟩ | exact h
theorem subD_mono : MonoOp subD := by
  intro x y S k k' hk h
  cases x <;> cases y <;> first | exact hk _ h | exact h
theorem mulD_mono : MonoOp mulD := by
  intro x y S k k' hk h
  cases x <;> cases y <;> first | exact ⟨h.1, hk _ h.2⟩ | exact h
theorem fdivD_mono : MonoOp fdivD := by
  intro x y S k k' hk h
  cases x <;> cases y <;> first | exact ⟨h.1, hk _ h.2⟩ | exact h
theorem modD_mono : MonoOp modD := by
  intro x y S k k' hk h
  cases x <;> cases y <;> first | exact ⟨h.1, hk _ h.2⟩ | exact h
theorem powD_mono : MonoOp powD := by
  intro x y S k k' hk h
  cases x <;> cases y <;> first | exact ⟨h.1, hk _ h.2⟩ | exact h
theorem Reps.rep {K : PySem.W.Frag} {A : Ad} {H : Hp} {xs : List D} {vs : List V} (h : Reps K A H xs vs) : ∀ n : Nat, Reps K A H (repsD n xs) (List.replicate n vs).flatten
  | 0 => rfl
  | n + 1 => by
    show Reps K A H (List.replicate (n + 1) xs).flatten _
    rw [List.replicate_succ, List.replicate_succ, List.flatten_cons, List.flatten_cons]
    exact Reps.append h (Reps.rep h n)
section
variable {X : Cx} {T : TB} {W : WX} {K : PySem.W.Frag}
/-- a value that is at hand goes back -/
theorem bk_here {A : Ad} {S : Store} {H : Hp} {Q : VK} {d : D} {v : V} (st : Stt K T A S H) (r : Rep K A H d v) (h : Bk K T A H Q d S) : Q v H := h A H v (Le.refl A H) st r
theorem bk_i {A : Ad} {S : Store} {H : Hp} {Q : VK} {i : Int} (st : Stt K T A S H) (h : Bk K T A H Q (.int i) S) : Q (.int i) H := h A H _ (Le.refl A H) st rfl
theorem bk_b {A : Ad} {S : Store} {H : Hp} {Q : VK} {i : Bool} (st : Stt K T A S H) (h : Bk K T A H Q (.bl i) S) : Q (.bl i) H := h A H _ (Le.refl A H) st rfl
theorem bk_s {A : Ad} {S : Store} {H : Hp} {Q : VK} {i : Str} (st : Stt K T A S H) (h : Bk K T A H Q (.str i) S) : Q (.str i) H := h A H _ (Le.refl A H) st rfl
abbrev rAddA (K : PySem.W.Frag) : R2 := fun x y H Q => ((rI0 fun i j => .int (i + j)) x y H Q ∨ (∃ i j, x = .str i ∧ y = .str j ∧ i.length + j.length ≤ sizeLine ∧ Q (.str (i ++ j)) H)) ∨ (rCatA K x y H Q ∨ rCat x y H Q)
theorem op_addA : OpR X (binaryOp .Add) (rAddA X.K) := (op_add.or op_add_str).or (op_catA.or op_cat)
theorem addD_l : OpL K T addD (rAddA K) := by
  intro A S H x y vx vy Q st rx ry h
  cases x with
  | int i =>
    cases y with
    | int j =>
      have e1 : vx = .int i := rx
      have e2 : vy = .int j := ry
      exact .inl (.inl ⟨i, j, e1, e2, bk_here st (d := .int (i + j)) rfl h⟩)
    | _ => exact h.elim
  | str a =>
    cases y with
    | str b =>
      have e1 : vx = .str a := rx
      have e2 : vy = .str b := ry
      exact .inl (.inr ⟨a, b, e1, e2, h.1, bk_here st (d := .str (a ++ b)) rfl h.2⟩)
    | _ => exact h.elim
  | tup xs =>
    cases y with
    | tup ys =>
      obtain ⟨a, vs, rfl, h1, h2⟩ := rx
      obtain ⟨b, ws, rfl, h3, h4⟩ := ry
      refine .inr (.inl ⟨a, b, vs, ws, rfl, rfl, h1.sq, h3.sq, by rw [← h2.length, ← h4.length]; exact h.1, fun e => ?_, fun n e => ?_, fun _ _ p hp => bk_tup st (h2.append h4) hp h.2⟩)
      · subst e
        have e2 : xs = [] := List.length_eq_zero_iff.mp h2.length
        subst e2
        exact bk_here st (d := .tup ys) ⟨b, ws, rfl, h3, h4⟩ h.2
      · subst e
        have e2 : ys = [] := List.length_eq_zero_iff.mp h4.length
        subst e2
        refine bk_here st (d := .tup (xs ++ [])) ⟨a, vs, rfl, h1, ?_⟩ h.2
        rw [List.append_nil]
        exact h2
    | _ => exact h.elim
  | lst xs =>
    cases y with
    | lst ys =>
      obtain ⟨a, vs, rfl, n1, h1, h2⟩ := rx
      obtain ⟨b, ws, rfl, n2, h3, h4⟩ := ry
      exact .inr (.inr ⟨a, b, vs, ws, rfl, rfl, h1, h3, by rw [← h2.length, ← h4.length]; exact h.1, fun p hp => bk_lst st (h2.append h4) hp h.2⟩)
    | _ => exact h.elim
  | _ => exact h.elim
theorem subD_l : OpL K T subD (rI0 fun i j => .int (i - j)) := by
  intro A S H x y vx vy Q st rx ry h
  cases x with
  | int i =>
    cases y with
    | int j => exact ⟨i, j, rx, ry, bk_here st (d := .int (i - j)) rfl h⟩
    | _ => exact h.elim
  | _ => exact h.elim
theorem op_mul_str : OpR X (binaryOp .Mult) (fun x y H Q => ∃ a n, x = .str a ∧ y = .int n ∧ MulOk a n ∧ Q (.str (Txt.mul a n)) H) := by
  intro pins s σ H x y v u Q I rx ry h
  obtain ⟨a, n, rfl, rfl, hm, q⟩ := h
  obtain ⟨t, rfl⟩ := rx
  obtain ⟨t', rfl⟩ := ry
  exact SB.mul hm fun t' k => ⟨.str _, H, I.tok _, ⟨_, rfl⟩, q⟩
abbrev rMulA (K : PySem.W.Frag) : R2 := fun x y H Q => ((rI CMulA fun i j => .int (i * j)) x y H Q ∨ (∃ a n, x = .str a ∧ y = .int n ∧ MulOk a n ∧ Q (.str (Txt.mul a n)) H)) ∨ (rRepT K x y H Q ∨ rRep x y H Q)
theorem op_mulA0 : OpR X (binaryOp .Mult) (rI CMulA fun i j => .int (i * j)) := opI fun _ _ _ _ _ _ _ hc q => mul_int q (hc.elim CMulW.ok CMul.ok)
theorem op_mulA : OpR X (binaryOp .Mult) (rMulA X.K) := (op_mulA0.or op_mul_str).or (op_repT.or op_rep)
theorem mulD_l : OpL K T mulD (rMulA K) := by
  intro A S H x y vx vy Q st rx ry h
  cases y with
  | int n =>
    have e2 : vy = .int n := ry
    cases x with
    | int i => exact .inl (.inl ⟨i, n, rx, e2, h.1, bk_here st (d := .int (i * n)) rfl h.2⟩)
    | str a => exact .inl (.inr ⟨a, n, rx, e2, h.1, bk_here st (d := .str (Txt.mul a n)) rfl h.2⟩)
    | tup xs =>
      obtain ⟨a, vs, rfl, h1, h2⟩ := rx
      obtain ⟨⟨c1, c2, c3, c4⟩, q⟩ := h
      have hl := h2.length
      refine .inr (.inl ⟨a, n, vs, rfl, e2, h1.sq, fun z => c1 ?_, c2, c3, by rw [← hl]; exact c4, fun p hp => bk_tup st (h2.rep _) hp q⟩)
      rw [z] at hl
      exact List.length_eq_zero_iff.mp hl
    | lst xs =>
      obtain ⟨a, vs, rfl, n1, h1, h2⟩ := rx
      obtain ⟨⟨c1, c2, c3⟩, q⟩ := h
      have hl := h2.length
      refine .inr (.inr ⟨a, n, vs, rfl, e2, h1, by omega, by omega, ?_, fun p hp => bk_lst st (h2.rep _) hp q⟩)
      have h4 : n.toNat ≤ 1000 := by omega
      have h5 : vs.length * n.toNat ≤ 1000 * 1000 := Nat.mul_le_mul (by omega) h4
      rw [sizeLine_eq]
      omega
    | _ => exact h.elim
  | _ => cases x <;> exact h.elim
theorem fdivD_l : OpL K T fdivD (rI CDivW fun i j => .int (i / j)) := by
  intro A S H x y vx vy Q st rx ry h
  cases x with
  | int i =>
    cases y with
    | int j => exact ⟨i, j, rx, ry, h.1, bk_here st (d := .int (i / j)) rfl h.2⟩
    | _ => exact h.elim
  | _ => exact h.elim
theorem modD_l : OpL K T modD (rI (fun _ j => 0 < j) fun i j => .int (i % j)) := by
  intro A S H x y vx vy Q st rx ry h
  cases x with
  | int i =>
    cases y with
    | int j => exact ⟨i, j, rx, ry, h.1, bk_here st (d := .int (i % j)) rfl h.2⟩
    | _ => exact h.elim
  | _ => exact h.elim
theorem powD_l : OpL K T powD (rI CPow fun i j => .int (i ^ j.toNat)) := by
  intro A S H x y vx vy Q st rx ry h
  cases x with
  | int i =>
    cases y with
    | int j => exact ⟨i, j, rx, ry, h.1, bk_here st (d := .int (i ^ j.toNat)) rfl h.2⟩
    | _ => exact h.elim
  | _ => exact h.elim

/-! ### comparisons -/
def cmpD (p : Int → Int → Bool) (q : List Nat → List Nat → Bool) : OpD := fun x y _ k => match x, y with
  | .int i, .int j => k (.bl (p i j))
  | .str a, .str b => k (.bl (q a.cps.toList b.cps.toList))
  | _, _ => False
theorem cmpD_mono {p q} : MonoOp (cmpD p q) := by
  intro x y S k k' hk h
  cases x <;> cases y <;> first | exact hk _ h | exact h
abbrev rCmpA (p : Int → Int → Bool) (q : List Nat → List Nat → Bool) : R2 := fun x y H Q => (rI0 fun i j => .bl (p i j)) x y H Q ∨ (∃ i j, x = .str i ∧ y = .str j ∧ Q (.bl (q i.cps.toList j.cps.toList)) H)
theorem cmpD_l {p q} : OpL K T (cmpD p q) (rCmpA p q) := by
  intro A S H x y vx vy Q st rx ry h
  cases x with
  | int i =>
    cases y with
    | int j => exact .inl ⟨i, j, rx, ry, bk_here st (d := .bl (p i j)) rfl h⟩
    | _ => exact h.elim
  | str i =>
    cases y with
    | str j => exact .inr ⟨i, j, rx, ry, bk_here st (d := .bl (q i.cps.toList j.cps.toList)) rfl h⟩
    | _ => exact h.elim
  | _ => exact h.elim
abbrev ltD : OpD := cmpD (fun i j => decide (i < j)) (fun a b => decide (a < b))
abbrev leD : OpD := cmpD (fun i j => decide (i ≤ j)) (fun a b => !decide (b < a))
abbrev gtD : OpD := cmpD (fun i j => decide (j < i)) (fun a b => decide (b < a))
abbrev geD : OpD := cmpD (fun i j => decide (j ≤ i)) (fun a b => !decide (a < b))
theorem op_ltA : OpR X (compareOp .Lt) (rCmpA (fun i j => decide (i < j)) (fun a b => decide (a < b))) := op_lt.or op_lt_str
theorem op_leA : OpR X (compareOp .LtE) (rCmpA (fun i j => decide (i ≤ j)) (fun a b => !decide (b < a))) := op_le.or op_le_str
theorem op_gtA : OpR X (compareOp .Gt) (rCmpA (fun i j => decide (j < i)) (fun a b => decide (b < a))) := op_gt.or op_gt_str
theorem op_geA : OpR X (compareOp .GtE) (rCmpA (fun i j => decide (j ≤ i)) (fun a b => !decide (a < b))) := op_ge.or op_ge_str
def eqD : OpD := fun x y _ k => x.fit ∧ y.fit ∧ k (.bl (x.eqb y))
def neD : OpD := fun x y _ k => x.fit ∧ y.fit ∧ k (.bl (!x.eqb y))
theorem eqD_mono : MonoOp eqD := fun _ _ _ _ _ hk h => ⟨h.1, h.2.1, hk _ h.2.2⟩
theorem neD_mono : MonoOp neD := fun _ _ _ _ _ hk h => ⟨h.1, h.2.1, hk _ h.2.2⟩
theorem eqD_l : OpL K T eqD (rEqD K) := fun A S H x y vx vy Q st rx ry h => ⟨x.py, y.py, rx.dpf h.1, ry.dpf h.2.1, h.1, h.2.1, bk_here st (d := .bl (x.eqb y)) rfl h.2.2⟩
theorem neD_l : OpL K T neD (rNeD K) := fun A S H x y vx vy Q st rx ry h => ⟨x.py, y.py, rx.dpf h.1, ry.dpf h.2.1, h.1, h.2.1, bk_here st (d := .bl (!x.eqb y)) rfl h.2.2⟩
/-- is, is not: None, True, False -/
def isD (neg : Bool) : OpD := fun x y _ k => match x, y with
  | .non, .non => k (.bl (!neg))
  | .bl a, .bl b => k (.bl (decide (a = b) != neg))
  | .loc _, .non | .bl _, .non | .int _, .non | .str _, .non | .tup _, .non | .lst _, .non => k (.bl neg)
  | _, _ => False
theorem isD_mono {n} : MonoOp (isD n) := by
  intro x y S k k' hk h
  cases x <;> cases y <;> first | exact hk _ h | exact h
abbrev rIsA (neg : Bool) : R2 := fun x y H Q => (y = .non ∧ Q (.bl (if neg then !decide (x = .non) else decide (x = .non))) H) ∨ (∃ a b : Bool, x = .bl a ∧ y = .bl b ∧ Q (.bl (if neg then !decide (a = b) else decide (a = b))) H)
theorem op_isA : OpR X (compareOp .Is) (rIsA false) := by
  intro pins s σ H x y v u Q I rx ry h
  rcases h with ⟨h1, h2⟩ | ⟨a, b, h1, h2, h3⟩
  · exact op_isN pins s σ H x y v u Q I rx ry ⟨h1, h2⟩
  · exact op_is_bl pins s σ H x y v u Q I rx ry ⟨a, b, h1, h2, h3⟩
theorem op_isnotA : OpR X (compareOp .IsNot) (rIsA true) := by
  intro pins s σ H x y v u Q I rx ry h
  rcases h with ⟨h1, h2⟩ | ⟨a, b, h1, h2, h3⟩
  · exact op_notN pins s σ H x y v u Q I rx ry ⟨h1, h2⟩
  · exact op_isnot_bl pins s σ H x y v u Q I rx ry ⟨a, b, h1, h2, h3⟩
theorem isD_l {neg : Bool} : OpL K T (isD neg) (rIsA neg) := by
  intro A S H x y vx vy Q st rx ry h
  cases y with
  | non =>
    have e2 : vy = .non := ry
    refine .inl ⟨e2, ?_⟩
    cases x with
    | non =>
      have e : vx = .non := rx
      subst e
      have q := bk_here st (d := .bl (!neg)) rfl h
      cases neg <;> exact q
    | bl b => have e : vx = .bl b := rx; subst e; have q := bk_here st (d := .bl neg) rfl h; cases neg <;> exact q
    | int b => have e : vx = .int b := rx; subst e; have q := bk_here st (d := .bl neg) rfl h; cases neg <;> exact q
    | str b => have e : vx = .str b := rx; subst e; have q := bk_here st (d := .bl neg) rfl h; cases neg <;> exact q
    | tup b => obtain ⟨a, vs, rfl, _⟩ := rx; have q := bk_here st (d := .bl neg) rfl h; cases neg <;> exact q
    | lst b => obtain ⟨a, vs, rfl, _⟩ := rx; have q := bk_here st (d := .bl neg) rfl h; cases neg <;> exact q
    | loc b => obtain ⟨a, _, rfl⟩ := rx; have q := bk_here st (d := .bl neg) rfl h; cases neg <;> exact q
    | _ => exact h.elim
  | bl b =>
    cases x with
    | bl a =>
      refine .inr ⟨a, b, rx, ry, ?_⟩
      have q := bk_here st (d := .bl (decide (a = b) != neg)) rfl h
      cases neg <;> cases a <;> cases b <;> exact q
    | _ => exact h.elim
  | _ => cases x <;> exact h.elim
/-- in, not in -/
theorem eqb_flat : ∀ {z x : D} {vz vx : V} {A : Ad} {H : Hp}, z.flat = true → x.flat = true → Rep K A H z vz → Rep K A H x vx → eqV vz vx = z.eqb x := by
  intro z x vz vx A H fz fx rz rx
  cases z <;> first | cases fz | skip
  all_goals (cases x <;> first | cases fx | skip)
  all_goals (cases (show vz = _ from rz); cases (show vx = _ from rx); first | rfl | (simp only [eqV, D.eqb, D.py, PyData.eqv]))
theorem flat_v : ∀ {z : D} {vz : V} {A : Ad} {H : Hp}, z.flat = true → Rep K A H z vz → flatV vz = true := by
  intro z vz A H fz rz
  cases z <;> first | cases fz | skip
  all_goals (cases (show vz = _ from rz); rfl)
theorem flat_vs : ∀ {zs : List D} {vs : List V} {A : Ad} {H : Hp}, zs.all D.flat = true → Reps K A H zs vs → vs.all flatV = true
  | [], vs, _, _, _, h => by cases (show vs = [] from h); rfl
  | z :: zs, vs, A, H, f, h => by
    obtain ⟨x, xs, rfl, h2, h3⟩ := h
    rw [List.all_cons, Bool.and_eq_true] at f ⊢
    exact ⟨flat_v f.1 h2, flat_vs f.2 h3⟩
theorem in_flat : ∀ {zs : List D} {vs : List V} {x : D} {vx : V} {A : Ad} {H : Hp}, zs.all D.flat = true → x.flat = true → Reps K A H zs vs → Rep K A H x vx → inV vx vs = zs.any fun z => z.eqb x
  | [], vs, _, _, _, _, _, _, h, _ => by cases (show vs = [] from h); rfl
  | z :: zs, vs, x, vx, A, H, f, fx, h, rx => by
    obtain ⟨y, ys, rfl, h2, h3⟩ := h
    rw [List.all_cons, Bool.and_eq_true] at f
    show (eqV y vx || inV vx ys) = (z.eqb x || zs.any fun z => z.eqb x)
    rw [eqb_flat f.1 fx h2 rx, in_flat f.2 fx h3 rx]
/-- flat values, or data of any depth -/
def inOk (x : D) (ys : List D) : Prop := (x.flat = true ∧ ys.all D.flat = true) ∨ (x.py.canLay0 = true ∧ x.py.depth ≤ 60 ∧ PyData.canLayAll0 (D.pys ys) = true)
def inD (neg : Bool) : OpD := fun x y _ k => match y with
  | .tup ys => inOk x ys ∧ k (.bl ((ys.any fun z => z.eqb x) != neg))
  | .lst ys => inOk x ys ∧ k (.bl ((ys.any fun z => z.eqb x) != neg))
  | .str b => (match x with
    | .str a => ∃ c, a = ⟨#[c]⟩ ∧ k (.bl (decide (c ∈ b.cps.toList) != neg))
    | _ => False)
  | _ => False
theorem inD_mono {n} : MonoOp (inD n) := by
  intro x y S k k' hk h
  cases y with
  | tup ys => exact ⟨h.1, hk _ h.2⟩
  | lst ys => exact ⟨h.1, hk _ h.2⟩
  | str b =>
    cases x with
    | str a => obtain ⟨c, h1, h2⟩ := h; exact ⟨c, h1, hk _ h2⟩
    | _ => exact h
  | _ => exact h
theorem pys_any {x : D} : ∀ ys : List D, ((D.pys ys).any fun z => PyData.eqv z x.py) = ys.any fun z => z.eqb x
  | [] => rfl
  | y :: ys => by
    show (PyData.eqv y.py x.py || (D.pys ys).any fun z => PyData.eqv z x.py) = (y.eqb x || ys.any fun z => z.eqb x)
    rw [pys_any ys]
    rfl
/-- x in a list or tuple, data of any depth -/
def rInDp (K : PySem.W.Frag) (neg : Bool) : R2 := fun x y H Q => ∃ d ds, Dp K H x d ∧ (Dp K H y (.list ds) ∨ Dp K H y (.tuple ds)) ∧ d.canLay0 = true ∧ d.depth ≤ 60 ∧ PyData.canLayAll0 ds = true ∧ Q (.bl (if neg then !(ds.any fun z => PyData.eqv z d) else ds.any fun z => PyData.eqv z d)) H
theorem op_inDp (hu : X.A.units + 64 < cLine) : OpR X (compareOp .In) (rInDp X.K false) := by
  intro pins s σ H x y v u Q I rx ry h
  obtain ⟨d, ds, hd, he, sd, dd, se, q⟩ := h
  obtain ⟨as, r1⟩ := Dp.reads I d x v hd rx
  have room : X.A.units + 1 + min (PyData.depthAll ds) d.depth < cLine := by omega
  rcases he with he | he
  · obtain ⟨bs, r2⟩ := Dp.reads I (.list ds) y u he ry
    exact SeqAt.in_list_reads r2 r1 se sd room ⟨.bl _, H, I, rfl, q⟩
  · obtain ⟨bs, r2⟩ := Dp.reads I (.tuple ds) y u he ry
    exact SeqAt.in_tuple_reads r2 r1 se sd room ⟨.bl _, H, I, rfl, q⟩
theorem op_notinDp (hu : X.A.units + 64 < cLine) : OpR X (compareOp .NotIn) (rInDp X.K true) := by
  intro pins s σ H x y v u Q I rx ry h
  obtain ⟨d, ds, hd, he, sd, dd, se, q⟩ := h
  obtain ⟨as, r1⟩ := Dp.reads I d x v hd rx
  have room : X.A.units + 1 + min (PyData.depthAll ds) d.depth < cLine := by omega
  rcases he with he | he
  · obtain ⟨bs, r2⟩ := Dp.reads I (.list ds) y u he ry
    exact SeqAt.notIn_list_reads r2 r1 se sd room ⟨.bl _, H, I, rfl, q⟩
  · obtain ⟨bs, r2⟩ := Dp.reads I (.tuple ds) y u he ry
    exact SeqAt.notIn_tuple_reads r2 r1 se sd room ⟨.bl _, H, I, rfl, q⟩
abbrev rInA (K : PySem.W.Frag) (neg : Bool) : R2 := fun x y H Q => (rIn K neg x y H Q ∨ rInDp K neg x y H Q) ∨ (∃ (c : Nat) (z : Str), x = .str ⟨#[c]⟩ ∧ y = .str z ∧ Q (.bl (if neg then !decide (c ∈ z.cps.toList) else decide (c ∈ z.cps.toList))) H)
theorem op_inA (hu : X.A.units + 64 < cLine) : OpR X (compareOp .In) (rInA X.K false) := by
  intro pins s σ H x y v u Q I rx ry h
  rcases h with (h | h) | h
  · exact op_in_seq pins s σ H x y v u Q I rx ry h
  · exact op_inDp hu pins s σ H x y v u Q I rx ry h
  · exact op_in_sign pins s σ H x y v u Q I rx ry h
theorem op_notinA (hu : X.A.units + 64 < cLine) : OpR X (compareOp .NotIn) (rInA X.K true) := by
  intro pins s σ H x y v u Q I rx ry h
  rcases h with (h | h) | h
  · exact op_notIn_seq pins s σ H x y v u Q I rx ry h
  · exact op_notinDp hu pins s σ H x y v u Q I rx ry h
  · exact op_notIn_sign pins s σ H x y v u Q I rx ry h
theorem neq_if {b neg : Bool} : (if neg = true then !b else b) = (b != neg) := by cases b <;> cases neg <;> rfl
theorem inD_l {neg : Bool} : OpL K T (inD neg) (rInA K neg) := by
  intro A S H x y vx vy Q st rx ry h
  cases y with
  | tup ys =>
    obtain ⟨f, q⟩ := h
    rcases f with ⟨f1, f2⟩ | ⟨f1, f2, f3⟩
    · obtain ⟨a, vs, rfl, h1, h2⟩ := ry
      refine .inl (.inl ⟨a, vs, rfl, .inr h1.sq, flat_v f1 rx, flat_vs f2 h2, ?_⟩)
      rw [in_flat f2 f1 h2 rx, neq_if]
      exact bk_b st q
    · refine .inl (.inr ⟨x.py, D.pys ys, Rep.dp _ _ rx f1, .inr (Rep.dp (.tup ys) _ ry (by simpa [D.py, PyData.canLay0] using f3)), f1, f2, f3, ?_⟩)
      rw [pys_any, neq_if]
      exact bk_b st q
  | lst ys =>
    obtain ⟨f, q⟩ := h
    rcases f with ⟨f1, f2⟩ | ⟨f1, f2, f3⟩
    · obtain ⟨a, vs, rfl, n1, h1, h2⟩ := ry
      refine .inl (.inl ⟨a, vs, rfl, .inl (SqL.of h1), flat_v f1 rx, flat_vs f2 h2, ?_⟩)
      rw [in_flat f2 f1 h2 rx, neq_if]
      exact bk_b st q
    · refine .inl (.inr ⟨x.py, D.pys ys, Rep.dp _ _ rx f1, .inl (Rep.dp (.lst ys) _ ry (by simpa [D.py, PyData.canLay0] using f3)), f1, f2, f3, ?_⟩)
      rw [pys_any, neq_if]
      exact bk_b st q
  | str b =>
    cases x with
    | str a =>
      obtain ⟨c, h1, h2⟩ := h
      subst h1
      refine .inr ⟨c, b, rx, ry, ?_⟩
      rw [neq_if]
      exact bk_b st h2
    | _ => exact h.elim
  | _ => exact h.elim

/-! ### x[i] -/
def atD (xs : List D) (i : Int) (k : D → Prop) : Prop := match atI xs i with
  | some d => k d
  | none => False
def ixD : OpD := fun x y S k => match x, y with
  | .tup xs, .int i => atD xs i k
  | .lst xs, .int i => atD xs i k
  | .scr ns, .int i => (match atI ns i with
    | some n => k (.int n)
    | none => False)
  | .loc n, .int i => (match S[n]? with
    | some (.lst xs) => atD xs i k
    | _ => False)
  | .str z, .int i => z.length ≤ sizeLine ∧ (match atI z.cps.toList i with
    | some c => k (.str ⟨#[c]⟩)
    | none => False)
  | _, _ => False
theorem atD_mono {xs : List D} {i : Int} {k k' : D → Prop} (hk : ∀ d, k d → k' d) (h : atD xs i k) : atD xs i k' := by
  unfold atD at h ⊢
  split at h
  · exact hk _ h
  · exact h.elim
theorem ixD_mono : MonoOp ixD := by
  intro x y S k k' hk h
  cases y with
  | int i =>
    cases x with
    | tup xs => exact atD_mono hk h
    | lst xs => exact atD_mono hk h
    | scr ns =>
      unfold ixD at h ⊢
      revert h
      show (match atI ns i with | some n => k (.int n) | none => False) → (match atI ns i with | some n => k' (.int n) | none => False)
      cases atI ns i with
      | none => exact fun h => h
      | some n => exact hk _
    | loc n =>
      revert h
      show (match S[n]? with | some (.lst xs) => atD xs i k | _ => False) → (match S[n]? with | some (.lst xs) => atD xs i k' | _ => False)
      cases S[n]? with
      | none => exact fun h => h
      | some c => cases c with
        | lst xs => exact atD_mono hk
        | _ => exact fun h => h
    | str z =>
      refine ⟨h.1, ?_⟩
      have h2 := h.2
      revert h2
      show (match atI z.cps.toList i with | some c => k (.str ⟨#[c]⟩) | none => False) → (match atI z.cps.toList i with | some c => k' (.str ⟨#[c]⟩) | none => False)
      cases atI z.cps.toList i with
      | none => exact fun h => h
      | some n => exact hk _
    | _ => exact h
  | _ => cases x <;> exact h
theorem Reps.atI {A : Ad} {H : Hp} {ds : List D} {vs : List V} {i : Int} {d : D} (h : Reps K A H ds vs) (e : L2.atI ds i = some d) : ∃ v, L2.atI vs i = some v ∧ Rep K A H d v := by
  unfold L2.atI at e ⊢
  rw [← h.length]
  cases hx : ixN ds.length i with
  | none => rw [hx] at e; cases e
  | some j =>
    rw [hx] at e
    exact h.get (i := j) (d := d) e
theorem atD_get {xs : List D} {i : Int} {k : D → Prop} (h : atD xs i k) : ∃ d, atI xs i = some d ∧ k d := by
  unfold atD at h
  cases e : atI xs i with
  | none => rw [e] at h; exact h.elim
  | some d => rw [e] at h; exact ⟨d, rfl, h⟩
theorem Stt.lst {A : Ad} {S : Store} {H : Hp} (st : Stt K T A S H) {n : Nat} {xs : List D} (h : S[n]? = some (.lst xs)) : ∃ a vs, A.c[n]? = some a ∧ H a = some (.lst vs) ∧ Reps K A H xs vs := by
  obtain ⟨a, h1, vs, h2, h3⟩ := st.cell n _ h
  exact ⟨a, vs, h1, h2, h3⟩
theorem atI_ints {ns : List Int} {i n : Int} (h : atI ns i = some n) : atI (ns.map V.int) i = some (V.int n) := by
  unfold atI at h ⊢
  rw [List.length_map]
  cases e : ixN ns.length i with
  | none => rw [e] at h; cases h
  | some j =>
    rw [e] at h
    have h : ns[j]? = some n := h
    show (ns.map V.int)[j]? = some (V.int n)
    rw [List.getElem?_map, h] <;> rfl
theorem ixD_l : OpL K T ixD (rIx K) := by
  intro A S H x y vx vy Q st rx ry h
  cases y with
  | int i =>
    have e2 : vy = .int i := ry
    cases x with
    | tup xs =>
      obtain ⟨a, vs, rfl, h1, h2⟩ := rx
      obtain ⟨d, e, q⟩ := atD_get h
      obtain ⟨v, ev, rv⟩ := h2.atI e
      exact .inr (.inl ⟨a, vs, i, v, rfl, e2, h1.sq, ev, bk_here st rv q⟩)
    | lst xs =>
      obtain ⟨a, vs, rfl, n1, h1, h2⟩ := rx
      obtain ⟨d, e, q⟩ := atD_get h
      obtain ⟨v, ev, rv⟩ := h2.atI e
      exact .inl ⟨a, vs, i, v, rfl, e2, SqL.of h1, ev, bk_here st rv q⟩
    | scr ns =>
      obtain ⟨a, rfl, h1⟩ := rx
      have h' : (match atI ns i with | some n => Bk K T A H Q (.int n) S | none => False) := h
      cases e : atI ns i with
      | none => rw [e] at h'; exact h'.elim
      | some n =>
        rw [e] at h'
        exact .inl ⟨a, _, i, .int n, rfl, e2, h1.sq, atI_ints e, bk_here st (d := .int n) rfl h'⟩
    | loc n =>
      obtain ⟨a, ea, rfl⟩ := rx
      have h' : (match S[n]? with | some (.lst xs) => atD xs i fun d => Bk K T A H Q d S | _ => False) := h
      cases e : S[n]? with
      | none => rw [e] at h'; exact h'.elim
      | some c =>
        rw [e] at h'
        cases c with
        | lst xs =>
          obtain ⟨a', vs, h1, h2, h3⟩ := st.lst e
          rw [ea] at h1
          cases h1
          obtain ⟨d, e3, q⟩ := atD_get h'
          obtain ⟨v, ev, rv⟩ := h3.atI e3
          exact .inl ⟨a, vs, i, v, rfl, e2, SqL.of h2, ev, bk_here st rv q⟩
        | _ => exact h'.elim
    | str z =>
      have h' : (match atI z.cps.toList i with | some c => Bk K T A H Q (.str ⟨#[c]⟩) S | none => False) := h.2
      cases e : atI z.cps.toList i with
      | none => rw [e] at h'; exact h'.elim
      | some c =>
        rw [e] at h'
        exact .inr (.inr ⟨z, i, c, rx, e2, h.1, e, bk_here st (d := .str ⟨#[c]⟩) rfl h'⟩)
    | _ => exact h.elim
  | _ => cases x <;> exact h.elim
theorem pd_ix {a b : Expr} {ta tb : TED} {pos : Pos} (ha : PD X T W a ta) (hb : PD X T W b tb) (hs : PlainIx b) : PD X T W (.Subscript a b pos) (dBin ixD ta tb) :=
  ⟨PE.imp (pe_ix ix_seq ha.pe hb.pe hs) fun _ _ _ h => up_bin ixD_l ixD_mono ha.mo hb.mo h, dBin_mono ixD_mono ha.mo hb.mo⟩

/-! ### -x -/
def dNeg (ta : TED) : TED := fun env S Q E => ta env S (fun x S1 => match x with
  | .int i => Q (.int (-i)) S1
  | _ => False) E
theorem dNeg_mono {t : TED} (ht : MonoE t) : MonoE (dNeg t) := fun env S Q Q' E E' hq he h => ht _ _ _ _ _ _ (fun c S1 h1 => by
  cases c <;> first | exact hq _ _ h1 | exact h1) he h
theorem pd_neg {a : Expr} {ta : TED} {pos : Pos} (ha : PD X T W a ta) : PD X T W (.UnaryOp .USub a pos) (dNeg ta) := by
  refine ⟨PE.imp (pe_un un_neg ha.pe) fun σ H Q q => ?_, dNeg_mono ha.mo⟩
  obtain ⟨A, S, env, eo, st, q⟩ := q
  refine ⟨A, S, env, eo, st, ha.mo _ _ _ _ _ _ (fun x S1 h1 => ?_) (fun _ _ e => e) q⟩
  intro A1 H1 v l1 st1 r
  cases x with
  | int c => exact ⟨c, r, h1 A1 H1 _ l1 st1 rfl⟩
  | _ => exact h1.elim

/-! ### built-ins -/
abbrev CallO := List D → Store → (D → Prop) → Prop
def MonoC (f : CallO) : Prop := ∀ xs S k k', (∀ d, k d → k' d) → f xs S k → f xs S k'
def CallL (K : PySem.W.Frag) (T : TB) (f : CallO) (r : List V → Hp → VK → Prop) : Prop :=
  ∀ A S H xs vs (Q : VK), Stt K T A S H → Reps K A H xs vs → f xs S (fun d => Bk K T A H Q d S) → r vs H Q
def dCB (f : CallO) (t : TAD) : TED := fun env S Q E => t env S (fun xs S1 => f xs S1 fun d => Q d S1) E
theorem dCB_mono {f : CallO} {t : TAD} (hf : MonoC f) (ht : MonoA t) : MonoE (dCB f t) := fun env S Q Q' E E' hq he h => ht _ _ _ _ _ _ (fun xs S1 h1 => hf _ _ _ _ (fun d hd => hq _ _ hd) h1) he h
theorem up_cb {f : CallO} {r : List V → Hp → VK → Prop} {t : TAD} (hl : CallL K T f r) (hf : MonoC f) (ht : MonoA t) {σ : L2.St} {H : Hp} {Q : VK} (h : upE K T W (dCB f t) σ H Q) : tCB r (upA K T W t) σ H Q := by
  obtain ⟨A, S, env, eo, st, h⟩ := h
  refine ⟨A, S, env, eo, st, ht _ _ _ _ _ _ (fun xs S1 h1 => ?_) (fun _ _ e => e) h⟩
  intro A1 H1 vs l1 st1 rs
  exact hl A1 S1 H1 xs vs Q st1 rs (hf _ _ _ _ (fun d hd => Bk.mono l1 (fun _ _ z => z) hd) h1)
theorem pd_callB {id : String} {r : List V → Hp → VK → Prop} {f : CallO} {x : Str} {e : Expr} {es : List Expr} {t : TAD} {p pos : Pos} (hc : CallR X (.builtin id) r) (hl : CallL X.K T f r) (hf : MonoC f) (hg : Gl X x) (hm : X.mg x = none) (hv : bootBuiltins x = some (.builtin id)) (ha : PAD X T W (e :: es) t) (hn : x ≠ "__name__") (hdb : (x == ("__debug__" : Str)) = false)
    (he : starEach (e :: es) X.env = (false, eval e X.env) :: starEach es X.env) (hpl : (backTo pos (starEach es X.env)).any (·.1) = false) : PD X T W (.Call (.Name x p) (e :: es) [] pos) (dCB f t) :=
  ⟨PE.imp (pe_callB hc hg hm hv ha.pa hn hdb he hpl) fun _ _ _ h => up_cb hl hf ha.mo h, dCB_mono hf ha.mo⟩
theorem pd_callTy {n : String} {r : List V → Hp → VK → Prop} {f : CallO} {x : Str} {e : Expr} {es : List Expr} {t : TAD} {p pos : Pos} (hc : CallR X (.type n) r) (hl : CallL X.K T f r) (hf : MonoC f) (hg : Gl X x) (hm : X.mg x = none) (hv : bootBuiltins x = some (.type n)) (ha : PAD X T W (e :: es) t) (hn : x ≠ "__name__") (hdb : (x == ("__debug__" : Str)) = false)
    (he : starEach (e :: es) X.env = (false, eval e X.env) :: starEach es X.env) (hpl : (backTo pos (starEach es X.env)).any (·.1) = false) : PD X T W (.Call (.Name x p) (e :: es) [] pos) (dCB f t) :=
  ⟨PE.imp (pe_callTy hc hg hm hv ha.pa hn hdb he hpl) fun _ _ _ h => up_cb hl hf ha.mo h, dCB_mono hf ha.mo⟩
def lenD : CallO := fun xs S k => match xs with
  | [.tup ds] => k (.int ds.length)
  | [.lst ds] => k (.int ds.length)
  | [.scr ds] => k (.int ds.length)
  | [.str z] => z.length ≤ sizeLine ∧ k (.int z.length)
  | [.loc n] => (match S[n]? with
    | some (.lst ds) => k (.int ds.length)
    | _ => False)
  | _ => False
def absD : CallO := fun xs _ k => match xs with
  | [.int i] => k (.int (if i < 0 then -i else i))
  | _ => False
def max2D : CallO := fun xs _ k => match xs with
  | [.int i, .int j] => k (.int (if j > i then j else i))
  | _ => False
def min2D : CallO := fun xs _ k => match xs with
  | [.int i, .int j] => k (.int (if j < i then j else i))
  | _ => False
def intD : CallO := fun xs _ k => match xs with
  | [.int i] => k (.int i)
  | [.bl b] => k (.int (if b then 1 else 0))
  | [.str z] => ∃ n, PySem.intText? z = some n ∧ z.length ≤ 640 ∧ k (.int n)
  | _ => False
def strD : CallO := fun xs _ k => match xs with
  | [.int i] => i.natAbs.log2 < 1920 ∧ k (.str (toString i))
  | [.str a] => k (.str a)
  | _ => False
def boolD : CallO := fun xs _ k => match xs with
  | [.int i] => k (.bl (i != 0))
  | [.bl b] => k (.bl b)
  | _ => False
def listD : CallO := fun xs S k => match xs with
  | [.tup ds] => k (.lst ds)
  | [.lst ds] => k (.lst ds)
  | [.loc n] => (match S[n]? with
    | some (.lst ds) => k (.lst ds)
    | _ => False)
  | _ => False
def tupleD : CallO := fun xs S k => match xs with
  | [.tup ds] => k (.tup ds)
  | [.lst ds] => k (.tup ds)
  | [.loc n] => (match S[n]? with
    | some (.lst ds) => k (.tup ds)
    | _ => False)
  | _ => False
def D.tn : D → Option String
  | .non => some "NoneType" | .bl _ => some "bool" | .int _ => some "int" | .str _ => some "str" | .tup _ => some "tuple" | .lst _ => some "list"
  | _ => none
def isTn (a b : String) : Bool := a == b || (a == "bool" && b == "int")
def isiD : CallO := fun xs _ k => match xs with
  | [x, .ty c] => (match x.tn with
    | some n => c ∈ ["int", "bool", "str", "tuple", "list"] ∧ k (.bl (isTn n c))
    | none => False)
  | _ => False
theorem kit_all : ∀ a ∈ ["NoneType", "bool", "int", "str", "tuple", "list"], ∀ b ∈ ["int", "bool", "str", "tuple", "list"], kitB a b = some (isTn a b) := by decide +kernel
theorem lenD_mono : MonoC lenD := by
  intro xs S k k' hk h
  unfold lenD at h ⊢
  split at h
  · exact hk _ h
  · exact hk _ h
  · exact hk _ h
  · exact ⟨h.1, hk _ h.2⟩
  · split at h
    · exact hk _ h
    · exact h.elim
  · exact h.elim
theorem absD_mono : MonoC absD := by
  intro xs S k k' hk h
  unfold absD at h ⊢
  split at h
  · exact hk _ h
  · exact h.elim
theorem max2D_mono : MonoC max2D := by
  intro xs S k k' hk h
  unfold max2D at h ⊢
  split at h
  · exact hk _ h
  · exact h.elim
theorem min2D_mono : MonoC min2D := by
  intro xs S k k' hk h
  unfold min2D at h ⊢
  split at h
  · exact hk _ h
  · exact h.elim
theorem intD_mono : MonoC intD := by
  intro xs S k k' hk h
  unfold intD at h ⊢
  split at h
  · exact hk _ h
  · exact hk _ h
  · obtain ⟨n, h1, h2, h3⟩ := h; exact ⟨n, h1, h2, hk _ h3⟩
  · exact h.elim
theorem strD_mono : MonoC strD := by
  intro xs S k k' hk h
  unfold strD at h ⊢
  split at h
  · exact ⟨h.1, hk _ h.2⟩
  · exact hk _ h
  · exact h.elim
theorem boolD_mono : MonoC boolD := by
  intro xs S k k' hk h
  unfold boolD at h ⊢
  split at h
  · exact hk _ h
  · exact hk _ h
  · exact h.elim
theorem listD_mono : MonoC listD := by
  intro xs S k k' hk h
  unfold listD at h ⊢
  split at h
  · exact hk _ h
  · exact hk _ h
  · split at h
    · exact hk _ h
    · exact h.elim
  · exact h.elim
theorem tupleD_mono : MonoC tupleD := by
  intro xs S k k' hk h
  unfold tupleD at h ⊢
  split at h
  · exact hk _ h
  · exact hk _ h
  · split at h
    · exact hk _ h
    · exact h.elim
  · exact h.elim
theorem isiD_mono : MonoC isiD := by
  intro xs S k k' hk h
  unfold isiD at h ⊢
  split at h
  · split at h
    · exact ⟨h.1, hk _ h.2⟩
    · exact h.elim
  · exact h.elim
theorem reps1 {A : Ad} {H : Hp} {d : D} {vs : List V} (h : Reps K A H [d] vs) : ∃ v, vs = [v] ∧ Rep K A H d v := by
  obtain ⟨x, xs, rfl, h2, h3⟩ := h
  cases (show xs = [] from h3)
  exact ⟨x, rfl, h2⟩
theorem reps2 {A : Ad} {H : Hp} {d e : D} {vs : List V} (h : Reps K A H [d, e] vs) : ∃ v w, vs = [v, w] ∧ Rep K A H d v ∧ Rep K A H e w := by
  obtain ⟨x, xs, rfl, h2, h3⟩ := h
  obtain ⟨w, rfl, h4⟩ := reps1 h3
  exact ⟨x, w, rfl, h2, h4⟩
theorem lenD_l : CallL K T lenD (fun xs H Q => ∃ x n, xs = [x] ∧ LenV K x H n ∧ Q (.int n) H) := by
  intro A S H xs vs Q st rs h
  unfold lenD at h
  split at h
  · obtain ⟨v, rfl, a, ws, rfl, h1, h2⟩ := reps1 rs
    exact ⟨_, _, rfl, .inr ⟨ws, h1.sq, h2.length⟩, bk_i st h⟩
  · obtain ⟨v, rfl, a, ws, rfl, n1, h1, h2⟩ := reps1 rs
    exact ⟨_, _, rfl, .inl ⟨ws, SqL.of h1, h2.length⟩, bk_i st h⟩
  · obtain ⟨v, rfl, a, rfl, h1⟩ := reps1 rs
    exact ⟨_, _, rfl, .inl ⟨_, h1.sq, by rw [List.length_map]⟩, bk_i st h⟩
  · obtain ⟨v, rfl, r⟩ := reps1 rs
    cases (show v = _ from r)
    exact ⟨_, _, rfl, ⟨h.1, rfl⟩, bk_i st h.2⟩
  · rename_i n
    obtain ⟨v, rfl, a, ea, rfl⟩ := reps1 rs
    split at h
    · rename_i ds e
      obtain ⟨a', ws, h1, h2, h3⟩ := st.lst e
      rw [ea] at h1
      cases h1
      exact ⟨_, _, rfl, .inl ⟨ws, SqL.of h2, h3.length⟩, bk_i st h⟩
    · exact h.elim
  · exact h.elim
theorem absD_l : CallL K T absD (fun xs H Q => ∃ i, xs = [.int i] ∧ Q (.int (if i < 0 then -i else i)) H) := by
  intro A S H xs vs Q st rs h
  unfold absD at h
  split at h
  · obtain ⟨v, rfl, r⟩ := reps1 rs
    cases (show v = _ from r)
    exact ⟨_, rfl, bk_i st h⟩
  · exact h.elim
theorem max2D_l : CallL K T max2D (fun xs H Q => ∃ i j, xs = [.int i, .int j] ∧ Q (.int (if j > i then j else i)) H) := by
  intro A S H xs vs Q st rs h
  unfold max2D at h
  split at h
  · obtain ⟨v, w, rfl, r, r'⟩ := reps2 rs
    cases (show v = _ from r)
    cases (show w = _ from r')
    exact ⟨_, _, rfl, bk_i st h⟩
  · exact h.elim
theorem min2D_l : CallL K T min2D (fun xs H Q => ∃ i j, xs = [.int i, .int j] ∧ Q (.int (if j < i then j else i)) H) := by
  intro A S H xs vs Q st rs h
  unfold min2D at h
  split at h
  · obtain ⟨v, w, rfl, r, r'⟩ := reps2 rs
    cases (show v = _ from r)
    cases (show w = _ from r')
    exact ⟨_, _, rfl, bk_i st h⟩
  · exact h.elim
abbrev rIntA : List V → Hp → VK → Prop := fun xs H Q => ((∃ i, xs = [.int i] ∧ Q (.int i) H) ∨ ∃ k, xs = [.bl k] ∧ Q (.int (if k then 1 else 0)) H) ∨ (∃ a n, xs = [.str a] ∧ PySem.intText? a = some n ∧ a.length ≤ 640 ∧ Q (.int n) H)
theorem call_intA : CallR X (.type "int") rIntA := call_int1.or call_int_str
theorem intD_l : CallL K T intD rIntA := by
  intro A S H xs vs Q st rs h
  unfold intD at h
  split at h
  · obtain ⟨v, rfl, r⟩ := reps1 rs
    cases (show v = _ from r)
    exact .inl (.inl ⟨_, rfl, bk_i st h⟩)
  · obtain ⟨v, rfl, r⟩ := reps1 rs
    cases (show v = _ from r)
    exact .inl (.inr ⟨_, rfl, bk_i st h⟩)
  · obtain ⟨v, rfl, r⟩ := reps1 rs
    cases (show v = _ from r)
    obtain ⟨n, h1, h2, h3⟩ := h
    exact .inr ⟨_, n, rfl, h1, h2, bk_i st h3⟩
  · exact h.elim
abbrev rStrA : List V → Hp → VK → Prop := fun xs H Q => (∃ i, xs = [.int i] ∧ i.natAbs.log2 < 1920 ∧ Q (.str (toString i)) H) ∨ (∃ a, xs = [.str a] ∧ Q (.str a) H)
theorem call_strA : CallR X (.type "str") rStrA := call_str_int.or SkE.call_str_str
theorem strD_l : CallL K T strD rStrA := by
  intro A S H xs vs Q st rs h
  unfold strD at h
  split at h
  · obtain ⟨v, rfl, r⟩ := reps1 rs
    cases (show v = _ from r)
    exact .inl ⟨_, rfl, h.1, bk_s st h.2⟩
  · obtain ⟨v, rfl, r⟩ := reps1 rs
    cases (show v = _ from r)
    exact .inr ⟨_, rfl, bk_s st h⟩
  · exact h.elim
theorem boolD_l : CallL K T boolD (fun xs H Q => (∃ i, xs = [.int i] ∧ Q (.bl (i != 0)) H) ∨ ∃ k, xs = [.bl k] ∧ Q (.bl k) H) := by
  intro A S H xs vs Q st rs h
  unfold boolD at h
  split at h
  · obtain ⟨v, rfl, r⟩ := reps1 rs
    cases (show v = _ from r)
    exact .inl ⟨_, rfl, bk_b st h⟩
  · obtain ⟨v, rfl, r⟩ := reps1 rs
    cases (show v = _ from r)
    exact .inr ⟨_, rfl, bk_b st h⟩
  · exact h.elim
theorem listD_l : CallL K T listD (fun xs H Q => ∃ p ys, xs = [.ref p] ∧ (SqL K H p ys ∨ SqT K H p ys) ∧ ∀ l, H l = none → Q (.ref l) (upd H l (.lst ys))) := by
  intro A S H xs vs Q st rs h
  unfold listD at h
  split at h
  · obtain ⟨v, rfl, a, ws, rfl, h1, h2⟩ := reps1 rs
    exact ⟨_, _, rfl, .inr h1.sq, fun p hp => bk_lst st h2 hp h⟩
  · obtain ⟨v, rfl, a, ws, rfl, n1, h1, h2⟩ := reps1 rs
    exact ⟨_, _, rfl, .inl (SqL.of h1), fun p hp => bk_lst st h2 hp h⟩
  · obtain ⟨v, rfl, a, ea, rfl⟩ := reps1 rs
    split at h
    · rename_i ds e
      obtain ⟨a', ws, h1, h2, h3⟩ := st.lst e
      rw [ea] at h1
      cases h1
      exact ⟨_, _, rfl, .inl (SqL.of h2), fun p hp => bk_lst st h3 hp h⟩
    · exact h.elim
  · exact h.elim
theorem tupleD_l : CallL K T tupleD (fun xs H Q => ∃ p ys, xs = [.ref p] ∧ ((SqL K H p ys ∧ ∀ l, H l = none → Q (.ref l) (upd H l (.tup ys))) ∨ (SqT K H p ys ∧ Q (.ref p) H))) := by
  intro A S H xs vs Q st rs h
  unfold tupleD at h
  split at h
  · obtain ⟨v, rfl, a, ws, rfl, h1, h2⟩ := reps1 rs
    exact ⟨_, _, rfl, .inr ⟨h1.sq, bk_here st (d := .tup _) ⟨a, ws, rfl, h1, h2⟩ h⟩⟩
  · obtain ⟨v, rfl, a, ws, rfl, n1, h1, h2⟩ := reps1 rs
    exact ⟨_, _, rfl, .inl ⟨SqL.of h1, fun p hp => bk_tup st h2 hp h⟩⟩
  · obtain ⟨v, rfl, a, ea, rfl⟩ := reps1 rs
    split at h
    · rename_i ds e
      obtain ⟨a', ws, h1, h2, h3⟩ := st.lst e
      rw [ea] at h1
      cases h1
      exact ⟨_, _, rfl, .inl ⟨SqL.of h2, fun p hp => bk_tup st h3 hp h⟩⟩
    · exact h.elim
  · exact h.elim
theorem tyx_of {A : Ad} {H : Hp} {d : D} {v : V} {n : String} (r : Rep K A H d v) (e : d.tn = some n) : TyX K H v (.type n) := by
  cases d with
  | non => cases (show v = _ from r); cases e; exact .base .non
  | bl b => cases (show v = _ from r); cases e; exact .base (.bl b)
  | int b => cases (show v = _ from r); cases e; exact .base (.int b)
  | str b => cases (show v = _ from r); cases e; exact .base (.str b)
  | tup xs =>
    obtain ⟨a, ws, rfl, h1, h2⟩ := r
    cases e
    rcases h1 with ⟨_, h1⟩ | ⟨o, its, m, h1, hc, _⟩
    · exact .base (.tup h1)
    · exact .kTuple h1 hc
  | lst xs =>
    obtain ⟨a, ws, rfl, n1, h1, h2⟩ := r
    cases e
    exact .base (.lst h1)
  | _ => cases e
theorem tn_mem {d : D} {n : String} (e : d.tn = some n) : n ∈ ["NoneType", "bool", "int", "str", "tuple", "list"] := by
  cases d <;> first | cases e | skip
  all_goals decide
theorem isiD_l : CallL K T isiD (rIsi K) := by
  intro A S H xs vs Q st rs h
  unfold isiD at h
  split at h
  · rename_i x c
    obtain ⟨v, w, rfl, r, r'⟩ := reps2 rs
    cases (show w = _ from r')
    split at h
    · rename_i n e
      exact ⟨v, .ty c, .type n, .type c, _, rfl, .ty c, tyx_of r e, kit_ty (kit_all n (tn_mem e) c h.1), bk_b st h.2⟩
    · exact h.elim
  · exact h.elim
end
end Fs
end
section
set_option Elab.async false
set_option linter.all false
set_option maxRecDepth 100000
set_option maxHeartbeats 4000000
namespace Fs
open PySem PySem.Spec PyProof.Rows L2 LamX

/-! ### what a def promises, over data -/
abbrev SpD := List Va → Store → QD → EX → Prop
def RepVs (K : PySem.W.Frag) (A : Ad) (H : Hp) : List Va → List V → Prop
  | [], vs => vs = []
  | d :: ds, vs => ∃ x xs, vs = x :: xs ∧ RepV K A H d x ∧ RepVs K A H ds xs
theorem RepVs.of {K : PySem.W.Frag} {A : Ad} {H : Hp} : ∀ {ds : List D} {vs : List V}, Reps K A H ds vs → RepVs K A H (ds.map Va.d) vs
  | [], vs, h => h
  | d :: ds, vs, h => by
    obtain ⟨x, xs, h1, h2, h3⟩ := h
    exact ⟨x, xs, h1, h2, RepVs.of h3⟩
theorem RepVs.length {K : PySem.W.Frag} {A : Ad} {H : Hp} : ∀ {ds : List Va} {vs : List V}, RepVs K A H ds vs → ds.length = vs.length
  | [], vs, h => by
    have e : vs = [] := h
    subst e; rfl
  | d :: ds, vs, h => by
    obtain ⟨x, xs, h1, h2, h3⟩ := h
    rw [h1, List.length_cons, List.length_cons, RepVs.length h3]
theorem RepVs.get {K : PySem.W.Frag} {A : Ad} {H : Hp} : ∀ {ds : List Va} {vs : List V} {i : Nat} {d : Va}, RepVs K A H ds vs → ds[i]? = some d → ∃ v, vs[i]? = some v ∧ RepV K A H d v
  | [], vs, i, d, h, e => by simp at e
  | d0 :: ds, vs, i, d, h, e => by
    obtain ⟨x, xs, h1, h2, h3⟩ := h
    subst h1
    cases i with
    | zero => simp at e; subst e; exact ⟨x, rfl, h2⟩
    | succ i =>
      obtain ⟨v, h4, h5⟩ := RepVs.get (i := i) h3 (by simpa using e)
      exact ⟨v, by simpa using h4, h5⟩
theorem RepVs.mono {K : PySem.W.Frag} {A A' : Ad} {H H' : Hp} (l : Le A H A' H') : ∀ {ds : List Va} {vs : List V}, RepVs K A H ds vs → RepVs K A' H' ds vs
  | [], vs, h => h
  | d :: ds, vs, h => by
    obtain ⟨x, xs, h1, h2, h3⟩ := h
    exact ⟨x, xs, h1, RepV.mono l d x h2, RepVs.mono l h3⟩
def upSp (K : PySem.W.Frag) (T : TB) (n : Nat) (c : SpD) : Sp := fun vs H Q E => ∃ A S as, as.length = n ∧ RepVs K A H as vs ∧ Stt K T A S H ∧ c as S (Bk K T A H Q) (BkX K T A H E)
def MonoSp (c : SpD) : Prop := ∀ as S Q Q' E E', (∀ d S, Q d S → Q' d S) → (∀ x S, E x S → E' x S) → c as S Q E → c as S Q' E'
/-- the law's world: what is the same everywhere -/
structure Wd where
  P : Program
  w : World
  K : PySem.W.Frag
  mg : Str → Option Value
  base : Heap
  tl : List (Addr × Str)
def Wd.T (G : Wd) : TB := ⟨G.tl, fun a => G.base.get? a⟩
structure XIs (G : Wd) (X : Cx) : Prop where
  P : X.prog = G.P
  w : X.w = G.w
  K : X.K = G.K
  mg : X.mg = G.mg
  base : X.base = G.base
/-- a def at f -/
structure FnD (G : Wd) (k n : Nat) (f : Addr) (c : SpD) : Prop where
  kp : PySem.W.keepIn G.K (.ref f) = true
  ok : ∃ fd ps, Binds G.K fd ps [] ∧ ps.length = n ∧ FnOk G.P G.w G.K G.mg G.base (L2N.CX G.P G.w) k f fd ps (upSp G.K G.T n c)
  mo : MonoSp c
theorem FnD.mono {G : Wd} {j k n : Nat} {f : Addr} {c : SpD} (F : FnD G j n f c) (h : j ≤ k) : FnD G k n f c :=
  ⟨F.kp, let ⟨fd, ps, h1, h2, h3⟩ := F.ok; ⟨fd, ps, h1, h2, h3.mono h⟩, F.mo⟩
theorem FnD.imp {G : Wd} {k n : Nat} {f : Addr} {c c' : SpD} (F : FnD G k n f c) (hm : MonoSp c') (h : ∀ as S Q E, c' as S Q E → c as S Q E) : FnD G k n f c' :=
  ⟨F.kp, let ⟨fd, ps, h1, h2, h3⟩ := F.ok; ⟨fd, ps, h1, h2, h3.imp fun vs H Q E ⟨A, S, as, q1, q2, q3, q4⟩ => ⟨A, S, as, q1, q2, q3, h _ _ _ _ q4⟩⟩, hm⟩
/-- the global x is such a def -/
def GFn (G : Wd) (k n : Nat) (x : Str) (c : SpD) : Prop := ∃ f, G.mg x = some (.ref f) ∧ FnD G k n f c
def dCall (n : Nat) (c : SpD) (t : TAD) : TED := fun env S Q E => t env S (fun xs S1 => xs.length = n ∧ c (xs.map Va.d) S1 Q E) E
theorem dCall_mono {n : Nat} {c : SpD} {t : TAD} (hc : MonoSp c) (ht : MonoA t) : MonoE (dCall n c t) := fun env S Q Q' E E' hq he h => ht _ _ _ _ _ _ (fun xs S1 h1 => ⟨h1.1, hc _ _ _ _ _ _ hq he h1.2⟩) he h
section
variable {X : Cx} {G : Wd} {W : WX}
theorem pd_call {k n : Nat} {c : SpD} {x : Str} {e : Expr} {es : List Expr} {t : TAD} {p pos : Pos} (gx : XIs G X) (F : GFn G k n x c) (hr : Room k X.A) (hg : Gl X x) (tk : L2N.Takes X W) (ha : PAD X G.T W (e :: es) t) (hdb : (x == ("__debug__" : Str)) = false)
    (he : starEach (e :: es) X.env = (false, eval e X.env) :: starEach es X.env) (hpl : (backTo pos (starEach es X.env)).any (·.1) = false) : PD X G.T W (.Call (.Name x p) (e :: es) [] pos) (dCall n c t) := by
  obtain ⟨f, hm, F⟩ := F
  obtain ⟨fd, ps, hb, hn, ok⟩ := F.ok
  obtain ⟨g1, g2, g3, g4, g5⟩ := gx
  refine ⟨PE.imp (pe_callS (E := WE W) (by rw [g1, g2, g3, g4, g5]; exact ok) hr hg (by rw [g4]; exact hm) (by rw [g3]; exact F.kp) (by rw [g3]; exact hb) (fun σ => by rw [← g1, ← g2]; exact L2N.passAt tk σ) ha.pa hdb he hpl) fun σ H Q q => ?_, dCall_mono F.mo ha.mo⟩
  obtain ⟨A, S, env, eo, st, q⟩ := q
  refine ⟨A, S, env, eo, st, ha.mo _ _ _ _ _ _ (fun xs S1 h1 => ?_) (fun _ _ e => e) q⟩
  intro A1 H1 vs l1 st1 rs
  refine ⟨A1, S1, xs.map Va.d, by rw [List.length_map]; exact h1.1, by rw [← g3]; exact RepVs.of rs, by rw [← g3]; exact st1, F.mo _ _ _ _ _ _ (fun d S2 h2 => ?_) (fun x S2 h2 => ?_) h1.2⟩
  · rw [← g3]; exact Bk.mono l1 (fun _ _ z => z) h2
  · rw [← g3]; exact BkX.mono l1 (fun _ _ _ z => z) h2
/-- f() -/
theorem pe_callS0 {CX : CXT} {k : Nat} {f : Addr} {fd : FuncData} {ps : List Str} {sp : Sp} {E : L2.St → XK} {x : Str} {p pos : Pos} (F : FnOk X.prog X.w X.K X.mg X.base CX k f fd ps sp) (hr : Room k X.A) (hg : Gl X x) (hm : X.mg x = some (.ref f)) (hk : PySem.W.keepIn X.K (.ref f) = true) (hb : Binds X.K fd ps [])
    (hx : ∀ σ, PassesAt CX X σ (E σ)) (hdb : (x == ("__debug__" : Str)) = false) : PE X (.Call (.Name x p) [] [] pos) (tCallS sp E tNil) := by
  refine ⟨fun pins s σ H Q I h => ?_⟩
  refine wpAny_Call_Name_kw (ld_glob I hg hm ?_ hdb)
  exact PySem.W.callWith_K0 I.kIn hk (run_fnS (us := []) F hr hb (hx σ) I .nil h)
theorem pd_call0 {k : Nat} {c : SpD} {x : Str} {p pos : Pos} (gx : XIs G X) (F : GFn G k 0 x c) (hr : Room k X.A) (hg : Gl X x) (tk : L2N.Takes X W) (hdb : (x == ("__debug__" : Str)) = false) : PD X G.T W (.Call (.Name x p) [] [] pos) (dCall 0 c dNil) := by
  obtain ⟨f, hm, F⟩ := F
  obtain ⟨fd, ps, hb, hn, ok⟩ := F.ok
  obtain ⟨g1, g2, g3, g4, g5⟩ := gx
  refine ⟨PE.imp (pe_callS0 (E := WE W) (by rw [g1, g2, g3, g4, g5]; exact ok) hr hg (by rw [g4]; exact hm) (by rw [g3]; exact F.kp) (by rw [g3]; exact hb) (fun σ => by rw [← g1, ← g2]; exact L2N.passAt tk σ) hdb) fun σ H Q q => ?_, dCall_mono F.mo (pad_nil (X := X) (T := G.T) (W := W)).mo⟩
  obtain ⟨A, S, env, eo, st, q1, q⟩ := q
  refine ⟨A, S, [], rfl, rfl, by rw [← g3]; exact st, F.mo _ _ _ _ _ _ (fun d S2 h2 => ?_) (fun x S2 h2 => ?_) q⟩
  · rw [← g3]; exact h2
  · rw [← g3]; exact h2
end

/-! ### a def's body -/
structure PSD (X : Cx) (T : TB) (W : WX) (st : Stmt) (t : TSD) : Prop where
  ps : PS X st (upS X.K T W t)
  mo : MonoS t
structure PSsD (X : Cx) (T : TB) (W : WX) (sts : List Stmt) (t : TSD) : Prop where
  ps : PSs X sts (upS X.K T W t)
  mo : MonoS t
def rtE (Q : QD) (E : EX) : DE where
  nx := fun _ S => Q .non S
  rt := Q
  bk := fun _ _ => False
  ct := fun _ _ => False
  ex := fun x _ S => E x S
def startD (n : Nat) (as : List Va) : En := as.map some ++ List.replicate (n - as.length) none
theorem enok_start {K : PySem.W.Frag} {A : Ad} {H : Hp} {N : List Str} {as : List Va} {vs : List V} (h : RepVs K A H as vs) : EnOk K A H (L2.start N vs) (startD N.length as) := by
  refine ⟨by simp [startD, L2.start, h.length], fun i x hx => ?_⟩
  unfold startD at hx
  unfold L2.start
  by_cases hi : i < as.length
  · rw [List.getElem?_append_left (by rw [List.length_map]; exact hi), List.getElem?_map] at hx
    have hv : i < vs.length := by rw [← h.length]; exact hi
    rw [List.getElem?_append_left (by rw [List.length_map]; exact hv), List.getElem?_map]
    cases e : as[i]? with
    | none => rw [e] at hx; cases hx
    | some y =>
      rw [e] at hx
      have ey : y = x := by injection (Option.some.inj hx)
      subst ey
      obtain ⟨v, h1, h2⟩ := h.get e
      exact ⟨v, by rw [h1]; rfl, h2⟩
  · rw [List.getElem?_append_right (by rw [List.length_map]; omega)] at hx
    rw [List.getElem?_replicate] at hx
    split at hx <;> cases hx
/-- the context of a def's body -/
structure DefCx (G : Wd) (N : List Str) (sc : Scope) (k : Nat) (X : Cx) : Prop where
  gx : XIs G X
  N : X.N = N
  sc : X.env.scope = sc
  calm : X.calm = true
  room : Room k X.A
  fn : ∀ x, X.fn x = true
  ps : PassesOwn (model X.prog X.w) X.A X.env X.xe
  stk : X.stack = X.env :: X.outer
  frm : X.env.frame = some X.env.locals
  ex : X.ex = []
theorem fnok_of {G : Wd} {x qual : Str} {params : Arguments} {body : List Stmt} {sc : Scope} {f : Addr} {fd : FuncData} {N ps : List Str} {k n : Nat} {c : SpD} {t : TSD} (F : FunD G.K x qual params body sc [] [] f fd) (S : FnScope N ps sc) (hn : ps.length = n)
    (hb : ∀ (kV doc pm : Value) (an : Option Addr) (cdv ct : Value) (us : List Value), us.length = ps.length → bindArgs (PySem.W.fnOf x qual params body sc .none kV doc pm an cdv ct) ⟨us, []⟩ = pure (ps.zip us))
    (mo : MonoSp c) (ht : ∀ (X : Cx) (W : WX), DefCx G N sc k X → X.env.qual = qual ++ ".<locals>." → L2N.Takes X W → X.env.code = fd.code → PSsD X G.T W body t)
    (hp : ∀ as S Q E, as.length = n → c as S Q E → t (rtE Q E) (startD N.length as) S) : FnOk G.P G.w G.K G.mg G.base (L2N.CX G.P G.w) (k + 1) f fd ps (upSp G.K G.T n c) := by
  obtain ⟨oc, od, dV, kV, doc, pm, an, cdv, ct, osl, rfl, lk, hcd, _, _⟩ := F.ex
  refine fn_of lk hcd S (fun vs H Q E h => ?_) fun A outer s H vs Q E hr h => ?_
  · obtain ⟨A, S', as, h1, h2, _⟩ := h
    rw [← h2.length, h1, hn]
  · have tk : L2N.Takes (cxOf (L2N.CX G.P G.w) G.P G.w G.K G.mg G.base N qual sc f cdv A outer s H E) (fun cls d _ H' => E cls d H') := L2N.takes_of rfl rfl rfl rfl
    have pt := ht (cxOf (L2N.CX G.P G.w) G.P G.w G.K G.mg G.base N qual sc f cdv A outer s H E) (fun cls d _ H' => E cls d H') ⟨⟨rfl, rfl, rfl, rfl, rfl⟩, rfl, rfl, rfl, hr, fun _ => rfl, passes_of rfl, rfl, rfl, rfl⟩ rfl tk rfl
    refine ⟨_, pt.ps, ?_⟩
    obtain ⟨Ad0, S', as, h1, h2, h3, h4⟩ := h
    refine ⟨Ad0, S', startD N.length as, enok_start h2, h3, ?_⟩
    refine pt.mo (rtE (Bk G.K G.T Ad0 H Q) (BkX G.K G.T Ad0 H E)) _ _ _ ⟨fun env S2 h2 A2 H2 σ2 l2 st2 _ => h2 A2 H2 .non l2 st2 rfl, fun d S2 h2 => h2, fun _ _ z => (show False from z).elim, fun _ _ z => (show False from z).elim, fun x env S2 h2 A2 H2 σ2 l2 st2 _ => h2 A2 H2 l2 st2⟩ (hp as S' _ _ h1 h4)
theorem fnd_of {G : Wd} {x qual : Str} {params : Arguments} {body : List Stmt} {sc : Scope} {f : Addr} {fd : FuncData} {N ps : List Str} {k n : Nat} {c : SpD} {t : TSD} (F : FunD G.K x qual params body sc [] [] f fd) (S : FnScope N ps sc) (hn : ps.length = n)
    (hb : ∀ (kV doc pm : Value) (an : Option Addr) (cdv ct : Value) (us : List Value), us.length = ps.length → bindArgs (PySem.W.fnOf x qual params body sc .none kV doc pm an cdv ct) ⟨us, []⟩ = pure (ps.zip us))
    (mo : MonoSp c) (ht : ∀ (X : Cx) (W : WX), DefCx G N sc k X → X.env.qual = qual ++ ".<locals>." → L2N.Takes X W → X.env.code = fd.code → PSsD X G.T W body t)
    (hp : ∀ as S Q E, as.length = n → c as S Q E → t (rtE Q E) (startD N.length as) S) : FnD G (k + 1) n f c := ⟨F.kp, ⟨fd, ps, F.bindsN hb, hn, fnok_of F S hn hb mo ht hp⟩, mo⟩
end Fs
end
section
set_option Elab.async false
set_option linter.all false
set_option maxRecDepth 100000
set_option maxHeartbeats 4000000
namespace Fs
open PySem PySem.Spec PyProof.Rows L2 LamX

/-! ### targets -/
abbrev GD := D → En → (En → Prop) → Prop
def MonoG (g : GD) : Prop := ∀ d env k k', (∀ e, k e → k' e) → g d env k → g d env k'
def upG (K : PySem.W.Frag) (g : GD) : TG := fun v σ H Q => ∃ A d env, EnOk K A H σ env ∧ Rep K A H d v ∧ g d env fun env' => ∀ σ', EnOk K A H σ' env' → Q σ' H
structure PGD (X : Cx) (tg : Expr) (g : GD) : Prop where
  pg : PG X tg (upG X.K g)
  mo : MonoG g
theorem PG.imp {X : Cx} {e : Expr} {t t' : TG} (h : PG X e t) (i : ∀ v σ H Q, t' v σ H Q → t v σ H Q) : PG X e t' := ⟨fun pins s σ H v u Q I r q => h.run pins s σ H v u Q I r (i v σ H Q q)⟩
theorem PG.or {X : Cx} {e : Expr} {t t' : TG} (h : PG X e t) (h' : PG X e t') : PG X e (fun v σ H Q => t v σ H Q ∨ t' v σ H Q) := ⟨fun pins s σ H v u Q I r q => by
  rcases q with q | q
  · exact h.run pins s σ H v u Q I r q
  · exact h'.run pins s σ H v u Q I r q⟩
def gN (i : Nat) : GD := fun d env k => k (env.set i (some (.d d)))
theorem gN_mono {i : Nat} : MonoG (gN i) := fun _ _ _ _ hk h => hk _ h
theorem pgd_name {X : Cx} {i : Nat} {x : Str} {pos : Pos} (hN : X.N.Nodup) (hi : X.N[i]? = some x) (hx : Loc X.env.scope x) (hf : X.fn x = true ∨ X.env.scope.names.lookup x = some .local) : PGD X (.Name x pos) (gN i) := by
  refine ⟨PG.imp (pg_name hN hi hx hf) fun v σ H Q h => ?_, gN_mono⟩
  obtain ⟨A, d, env, eo, r, h⟩ := h
  exact h _ (eo.set i (x := .d d) r)
/-- names in a row -/
def setAll : En → List Nat → List D → En
  | env, i :: is, d :: ds => setAll (env.set i (some (.d d))) is ds
  | env, _, _ => env
def gT (is : List Nat) : GD := fun d env k => match d with
  | .tup ds => ds.length = is.length ∧ k (setAll env is ds)
  | .lst ds => ds.length = is.length ∧ k (setAll env is ds)
  | _ => False
theorem gT_mono {is : List Nat} : MonoG (gT is) := fun d _ _ _ hk h => by
  cases d <;> first | exact ⟨h.1, hk _ h.2⟩ | exact h
def gTH (is : List Nat) : GD := fun d env k => match d with
  | .tup ds => ds.length = is.length ∧ k (setAll env is ds)
  | _ => False
theorem gTH_mono {is : List Nat} : MonoG (gTH is) := fun d _ _ _ hk h => by
  cases d <;> first | exact ⟨h.1, hk _ h.2⟩ | exact h.elim
def gsAll : List Nat → TGs
  | [] => gNil
  | i :: is => gCons (gName i) (gsAll is)
theorem gs_all {K : PySem.W.Frag} {A : Ad} {H : Hp} {Q : L2.St → Hp → Prop} : ∀ {is : List Nat} {ds : List D} {vs : List V} {σ : L2.St} {env : En}, ds.length = is.length → Reps K A H ds vs → EnOk K A H σ env → (∀ σ', EnOk K A H σ' (setAll env is ds) → Q σ' H) → gsAll is vs σ H Q
  | [], [], vs, σ, env, _, h, eo, q => ⟨h, q σ eo⟩
  | [], d :: ds, vs, σ, env, hl, h, eo, q => by cases hl
  | i :: is, [], vs, σ, env, hl, h, eo, q => by cases hl
  | i :: is, d :: ds, vs, σ, env, hl, h, eo, q => by
    obtain ⟨x, xs, rfl, h2, h3⟩ := h
    exact ⟨x, xs, rfl, gs_all (is := is) (Nat.succ.inj hl) h3 (eo.set i (x := .d d) h2) q⟩
theorem gsAll_len {is : List Nat} {vs : List V} {σ : L2.St} {H : Hp} {Q : L2.St → Hp → Prop} : True := trivial
theorem pgd_tup {X : Cx} {es : List Expr} {k : Nat} {is : List Nat} {pos : Pos} (hc : X.calm = true) (h : PGs X es (gsAll is)) (hn : (assignEach es X.env).length = is.length) (hst : (assignEach es X.env).findIdx? (·.1) = none) : PGD X (.Tuple es k pos) (gT is) := by
  refine ⟨PG.imp (PG.or (pg_tup (n := is.length) hc h hn hst) (pg_lst (n := is.length) hc h hn hst)) fun v σ H Q h => ?_, gT_mono⟩
  obtain ⟨A, d, env, eo, r, h⟩ := h
  cases d with
  | tup ds =>
    obtain ⟨a, vs, rfl, h1, h2⟩ := r
    exact .inl ⟨a, vs, rfl, h1.sq, by rw [← h2.length]; exact h.1, gs_all h.1 h2 eo h.2⟩
  | lst ds =>
    obtain ⟨a, vs, rfl, n1, h1, h2⟩ := r
    exact .inr ⟨a, vs, rfl, SqL.of h1, by rw [← h2.length]; exact h.1, gs_all h.1 h2 eo h.2⟩
  | _ => exact h.elim

/-! ### what is walked -/
structure WalkD (K : PySem.W.Frag) (T : TB) (J : It) (A : Ad) (H : Hp) (items : List D) : Prop where
  go : ∀ (i : Nat) (d : D), items[i]? = some d → ∀ A2 S2 H2, Lw A H A2 H2 → Stt K T A2 S2 H2 → J.go i H2 ∧ ∀ x H', J.yld i H2 x H' → (∀ b o, H2 b = some o → H' b = some o) ∧ Rep K A2 H' d x
  stop : ∀ A2 S2 H2, Lw A H A2 H2 → Stt K T A2 S2 H2 → J.stop items.length H2
def upI (K : PySem.W.Frag) (T : TB) (W : WX) (t : TAD) : TI := fun σ H R => ∃ A S env, EnOk K A H σ env ∧ Stt K T A S H ∧ t env S (fun items S' => ∀ A' H' J, Le A H A' H' → Stt K T A' S' H' → WalkD K T J A' H' items → R J H') (BkX K T A H fun x d H' => W x d σ H')
structure PID (X : Cx) (T : TB) (W : WX) (tg iter : Expr) (t : TAD) : Prop where
  pi : PI X tg iter (upI X.K T W t)
  mo : MonoA t
theorem PI.imp {X : Cx} {tg e : Expr} {t t' : TI} (h : PI X tg e t) (i : ∀ σ H Q, t' σ H Q → t σ H Q) : PI X tg e t' := ⟨fun pins s σ H Q I q => h.run pins s σ H Q I (i σ H Q q)⟩
section
variable {X : Cx} {T : TB} {W : WX}
/-- a list or a tuple, as it comes -/
theorem pi_seq {tg l : Expr} {tl : TE} (hl : PE X l tl) : PI X tg l (fun σ H R => tl σ H fun x H1 => (∃ a, x = .ref a ∧ (((∃ xs, SqL X.K H1 a xs) ∧ R (Itl X.K a) H1) ∨ ((∃ xs, SqT X.K H1 a xs) ∧ R (Itt X.K a) H1))) ∨ ∃ z, x = .str z ∧ R (Its z) H1) := by
  refine ⟨fun pins s σ H R I h => ?_⟩
  refine thn (hl.run pins s σ H _ I h) fun v s1 ⟨x, H1, I1, r1, q1⟩ => ?_
  rcases q1 with q1 | ⟨z, ez, q⟩
  case inr =>
    subst ez
    obtain ⟨t, rfl⟩ := r1
    cases ha : z.cps.all (· < 128)
    · exact wpAny_pyIter_wide ha (pi_one (tk := s1.toks) I1 _ (turn_str _ z t "str_iterator" (.inr rfl)) ⟨_, Heap.get?_push_size _ rfl, rfl, rfl⟩ q)
    · exact wpAny_pyIter_ascii ha (pi_one (tk := s1.toks) I1 _ (turn_str _ z t "str_ascii_iterator" (.inl rfl)) ⟨_, Heap.get?_push_size _ rfl, rfl, rfl⟩ q)
  obtain ⟨a, e, q1⟩ := q1
  subst e
  cases r1
  rcases q1 with ⟨⟨xs, hq⟩, q⟩ | ⟨⟨xs, hq⟩, q⟩
  · obtain ⟨its, rv, p, hz⟩ := I1.list hq
    refine wpAny_pyIter_list p.isList ?_
    refine ⟨s1.heap.objs.size, [s1.heap.objs.size], _, _, H1, rfl, I1.kept (t' := s1.toks) fun b o e => Heap.get?_push_of_some _ e, turn_list a _, ⟨_, Heap.get?_push_size _ rfl, rfl, rfl⟩, fun b hb => ?_, q⟩
    have e : b = s1.heap.objs.size := by simpa using hb
    rw [e]
    exact I1.fpOk (Nat.le_refl _) (I1.hok.fresh (Nat.le_refl _))
  · obtain ⟨its, rv, p, hz⟩ := I1.tuple hq
    refine wpAny_pyIter_tuple (show s1.heap.IsTuple a its.toArray from p) ?_
    refine ⟨s1.heap.objs.size, [s1.heap.objs.size], _, _, H1, rfl, I1.kept (t' := s1.toks) fun b o e => Heap.get?_push_of_some _ e, turn_tuple a _, ⟨_, Heap.get?_push_size _ rfl, rfl, rfl⟩, fun b hb => ?_, q⟩
    have e : b = s1.heap.objs.size := by simpa using hb
    rw [e]
    exact I1.fpOk (Nat.le_refl _) (I1.hok.fresh (Nat.le_refl _))
/-- the signs of a text -/
def signsD (z : Str) : List D := z.cps.toList.map fun c => D.str ⟨#[c]⟩
def dItS (t : TED) : TAD := fun env S Q E => t env S (fun x S1 => match x with
  | .lst ds => Q ds S1
  | .tup ds => Q ds S1
  | .scr ns => Q (ns.map D.int) S1
  | .str z => Q (signsD z) S1
  | _ => False) E
theorem dItS_mono {t : TED} (h : MonoE t) : MonoA (dItS t) := fun env S Q Q' E E' hq he q => h _ _ _ _ _ _ (fun x S1 h1 => by
  cases x <;> first | exact hq _ _ h1 | exact h1) he q
theorem reps_ints {K : PySem.W.Frag} {A : Ad} {H : Hp} : ∀ ns : List Int, Reps K A H (ns.map D.int) (ns.map V.int)
  | [] => rfl
  | n :: ns => ⟨.int n, _, rfl, rfl, reps_ints ns⟩
theorem walk_lst {K : PySem.W.Frag} {A : Ad} {H : Hp} {a : Addr} {vs : List V} {ds : List D} (hs : ∀ A2 H2, Lw A H A2 H2 → SqL K H2 a vs) (r : Reps K A H ds vs) : WalkD K T (Itl K a) A H ds := by
  refine ⟨fun i d e A2 S2 H2 l2 st2 => ?_, fun A2 S2 H2 l2 st2 => ⟨vs, hs A2 H2 l2, by rw [r.length]; exact Nat.le_refl _⟩⟩
  obtain ⟨v, h1, h2⟩ := r.get e
  refine ⟨⟨vs, v, hs A2 H2 l2, h1⟩, fun x H' hy => ?_⟩
  obtain ⟨e1, e2⟩ := hy
  subst e1
  have := e2 vs (hs A2 _ l2)
  rw [h1] at this
  cases this
  exact ⟨fun _ _ z => z, Rep.monoW l2 _ _ h2⟩
theorem walk_tup {K : PySem.W.Frag} {A : Ad} {H : Hp} {a : Addr} {vs : List V} {ds : List D} (hs : STup K A H a vs) (r : Reps K A H ds vs) : WalkD K T (Itt K a) A H ds := by
  refine ⟨fun i d e A2 S2 H2 l2 st2 => ?_, fun A2 S2 H2 l2 st2 => ⟨vs, (hs.mono l2).sq, by rw [r.length]; exact Nat.le_refl _⟩⟩
  obtain ⟨v, h1, h2⟩ := r.get e
  refine ⟨⟨vs, v, (hs.mono l2).sq, h1⟩, fun x H' hy => ?_⟩
  obtain ⟨e1, e2⟩ := hy
  subst e1
  have := e2 vs (hs.mono l2).sq
  rw [h1] at this
  cases this
  exact ⟨fun _ _ z => z, Rep.monoW l2 _ _ h2⟩
theorem walk_str {K : PySem.W.Frag} {A : Ad} {H : Hp} {z : Str} : WalkD K T (Its z) A H (signsD z) := by
  refine ⟨fun i d e A2 S2 H2 l2 st2 => ?_, fun A2 S2 H2 l2 st2 => ?_⟩
  · unfold signsD at e
    rw [List.getElem?_map] at e
    have ec : z.cps.toList[i]? = z.cps[i]? := by simp
    rw [ec] at e
    cases hc : z.cps[i]? with
    | none => rw [hc] at e; cases e
    | some c =>
      rw [hc] at e
      cases e
      refine ⟨(Array.getElem?_eq_some_iff.mp hc).1, fun x H' hy => ?_⟩
      obtain ⟨e1, c', e2, e3⟩ := hy
      subst e1
      rw [hc] at e2
      cases e2
      exact ⟨fun _ _ z => z, e3⟩
  · show z.cps.size ≤ _
    unfold signsD
    simp
theorem pid_seq {tg l : Expr} {t : TED} (h : PD X T W l t) : PID X T W tg l (dItS t) := by
  refine ⟨PI.imp (pi_seq h.pe) fun σ H R q => ?_, dItS_mono h.mo⟩
  obtain ⟨A, S, env, eo, st, q⟩ := q
  refine ⟨A, S, env, eo, st, h.mo _ _ _ _ _ _ (fun x S1 h1 => ?_) (fun _ _ e => e) q⟩
  intro A1 H1 v l1 st1 r
  cases x with
  | lst ds =>
    obtain ⟨a, vs, rfl, n1, h2, h3⟩ := r
    refine .inl ⟨a, rfl, .inl ⟨⟨vs, SqL.of h2⟩, h1 A1 H1 _ l1 st1 (walk_lst (fun A2 H2 l2 => SqL.of (l2.ext _ _ h2 n1 fun ps z => by cases z)) h3)⟩⟩
  | tup ds =>
    obtain ⟨a, vs, rfl, h2, h3⟩ := r
    exact .inl ⟨a, rfl, .inr ⟨⟨vs, h2.sq⟩, h1 A1 H1 _ l1 st1 (walk_tup h2 h3)⟩⟩
  | scr ns =>
    obtain ⟨a, rfl, h2⟩ := r
    exact .inl ⟨a, rfl, .inl ⟨⟨_, h2.sq⟩, h1 A1 H1 _ l1 st1 (walk_lst (fun A2 H2 l2 => (h2.mono l2).sq) (reps_ints ns))⟩⟩
  | str z => exact .inr ⟨z, r, h1 A1 H1 _ l1 st1 walk_str⟩
  | _ => exact h1.elim
/-- range(n), range(a, b) -/
def rngD (lo : Int) (n : Nat) : List D := (List.range n).map fun (i : Nat) => D.int (lo + (i : Int))
def dRng1 (t : TAD) : TAD := fun env S Q E => t env S (fun xs S1 => match xs with
  | [.int j] => (-(2 ^ 62) ≤ j ∧ j < 2 ^ 62) ∧ Q (rngD 0 j.toNat) S1
  | _ => False) E
def dRng2 (t : TAD) : TAD := fun env S Q E => t env S (fun xs S1 => match xs with
  | [.int i, .int j] => (-(2 ^ 62) ≤ i ∧ i < 2 ^ 62 ∧ -(2 ^ 62) ≤ j ∧ j < 2 ^ 62) ∧ Q (rngD i (j - i).toNat) S1
  | _ => False) E
theorem dRng1_mono {t : TAD} (h : MonoA t) : MonoA (dRng1 t) := fun env S Q Q' E E' hq he q => h _ _ _ _ _ _ (fun xs S1 h1 => by
  split at h1
  · exact ⟨h1.1, hq _ _ h1.2⟩
  · exact h1.elim) he q
theorem dRng2_mono {t : TAD} (h : MonoA t) : MonoA (dRng2 t) := fun env S Q Q' E E' hq he q => h _ _ _ _ _ _ (fun xs S1 h1 => by
  split at h1
  · exact ⟨h1.1, hq _ _ h1.2⟩
  · exact h1.elim) he q
theorem rngD_len {lo : Int} {n : Nat} : (rngD lo n).length = n := by simp [rngD]
theorem walk_rng {K : PySem.W.Frag} {A : Ad} {H : Hp} {lo : Int} {n : Nat} : WalkD K T (Itr lo n) A H (rngD lo n) := by
  refine ⟨fun i d e A2 S2 H2 l2 st2 => ?_, fun A2 S2 H2 l2 st2 => ?_⟩
  · have hi : i < n := by
      have := (List.getElem?_eq_some_iff.mp e).1
      rw [rngD_len] at this
      exact this
    unfold rngD at e
    rw [List.getElem?_map, List.getElem?_range hi] at e
    cases e
    refine ⟨hi, fun x H' hy => ?_⟩
    obtain ⟨e1, e2⟩ := hy
    subst e1 e2
    exact ⟨fun _ _ z => z, rfl⟩
  · show n ≤ _
    rw [rngD_len]
    exact Nat.le_refl _
theorem pid_range1 {tg a : Expr} {t : TAD} {p pos : Pos} (hg : Gl X "range") (hm : X.mg "range" = none) (ha : PAD X T W [a] t) (hs : starEach [a] X.env = [(false, eval a X.env)]) : PID X T W tg (.Call (.Name "range" p) [a] [] pos) (dRng1 t) := by
  refine ⟨PI.imp (pi_range1 hg hm ha.pa hs) fun σ H R q => ?_, dRng1_mono ha.mo⟩
  obtain ⟨A, S, env, eo, st, q⟩ := q
  refine ⟨A, S, env, eo, st, ha.mo _ _ _ _ _ _ (fun xs S1 h1 => ?_) (fun _ _ e => e) q⟩
  intro A1 H1 vs l1 st1 r
  split at h1
  · obtain ⟨v, rfl, r2⟩ := reps1 r
    cases (show v = _ from r2)
    exact ⟨_, rfl, h1.1.1, h1.1.2, h1.2 A1 H1 _ l1 st1 walk_rng⟩
  · exact h1.elim
theorem pid_range2 {tg a b : Expr} {t : TAD} {p pos : Pos} (hg : Gl X "range") (hm : X.mg "range" = none) (ha : PAD X T W [a, b] t) (hs : starEach [a, b] X.env = [(false, eval a X.env), (false, eval b X.env)]) (hs2 : starEach [b] X.env = [(false, eval b X.env)]) : PID X T W tg (.Call (.Name "range" p) [a, b] [] pos) (dRng2 t) := by
  refine ⟨PI.imp (pi_range2 hg hm ha.pa hs hs2) fun σ H R q => ?_, dRng2_mono ha.mo⟩
  obtain ⟨A, S, env, eo, st, q⟩ := q
  refine ⟨A, S, env, eo, st, ha.mo _ _ _ _ _ _ (fun xs S1 h1 => ?_) (fun _ _ e => e) q⟩
  intro A1 H1 vs l1 st1 r
  split at h1
  · obtain ⟨v, w, rfl, r, r'⟩ := reps2 r
    cases (show v = _ from r)
    cases (show w = _ from r')
    exact ⟨_, _, rfl, h1.1, h1.2 A1 H1 _ l1 st1 walk_rng⟩
  · exact h1.elim
/-- zip(xs, ys): two lists -/
def dZip (t : TAD) : TAD := fun env S Q E => t env S (fun xs S1 => match xs with
  | [.lst as, .lst bs] => Q (List.zipWith (fun x y => D.tup [x, y]) as bs) S1
  | _ => False) E
theorem dZip_mono {t : TAD} (h : MonoA t) : MonoA (dZip t) := fun env S Q Q' E E' hq he q => h _ _ _ _ _ _ (fun xs S1 h1 => by
  split at h1
  · exact hq _ _ h1
  · exact h1.elim) he q
theorem pid_zip {e e2 : Expr} {t : TAD} {p pos tpos : Pos} {elts : List Expr} {kk : Nat} (hg : Gl X "zip") (hm : X.mg "zip" = none) (ha : PAD X T W [e, e2] t)
    (hs : starEach [e, e2] X.env = (false, eval e X.env) :: starEach [e2] X.env) (hpl : (backTo pos (starEach [e2] X.env)).any (·.1) = false) : PID X T W (.Tuple elts kk tpos) (.Call (.Name "zip" p) [e, e2] [] pos) (dZip t) := by
  refine ⟨PI.imp (pi_zip hg hm ha.pa hs hpl) fun σ H R q => ?_, dZip_mono ha.mo⟩
  obtain ⟨A, S, env, eo, st, q⟩ := q
  refine ⟨A, S, env, eo, st, ha.mo _ _ _ _ _ _ (fun xs S1 h1 => ?_) (fun _ _ e => e) q⟩
  intro A1 H1 vs l1 st1 r
  split at h1
  · rename_i as bs
    obtain ⟨v, w, rfl, ⟨a, vs, rfl, n1, h2, h3⟩, b, ws, rfl, n2, h4, h5⟩ := reps2 r
    refine ⟨a, b, vs, ws, rfl, SqL.of h2, SqL.of h4, h1 A1 H1 _ l1 st1 ⟨fun i d e A2 S2 H2 l2 st2 => ?_, fun A2 S2 H2 l2 st2 => ?_⟩⟩
    · rw [List.getElem?_zipWith] at e
      cases ea : as[i]? with
      | none => rw [ea] at e; cases e
      | some x =>
        cases eb : bs[i]? with
        | none => rw [ea, eb] at e; cases e
        | some y =>
          rw [ea, eb] at e
          cases e
          obtain ⟨vx, hx, rx⟩ := h3.get ea
          obtain ⟨vy, hy, ry⟩ := h5.get eb
          have s1 : SqL X.K H2 a vs := SqL.of (l2.ext _ _ h2 n1 fun ps z => by cases z)
          have s2 : SqL X.K H2 b ws := SqL.of (l2.ext _ _ h4 n2 fun ps z => by cases z)
          refine ⟨⟨vs, ws, vx, vy, s1, s2, hx, hy⟩, fun v H' hv => ?_⟩
          obtain ⟨p, x', y', rfl, hp, rfl, k1, k2⟩ := hv
          have e1 := k1 vs s1
          have e2 := k2 ws s2
          rw [hx] at e1
          rw [hy] at e2
          cases e1
          cases e2
          refine ⟨fun b o z => by rw [upd_ne (ne_of_none z hp)]; exact z, p, [vx, vy], rfl, .inl ⟨st2.fresh hp, upd_same⟩, vx, [vy], rfl, Rep.monoW (l2.trans (Le.upd hp).w) _ _ rx, vy, [], rfl, Rep.monoW (l2.trans (Le.upd hp).w) _ _ ry, rfl⟩
    · refine ⟨vs, ws, SqL.of (l2.ext _ _ h2 n1 fun ps z => by cases z), SqL.of (l2.ext _ _ h4 n2 fun ps z => by cases z), ?_⟩
      rw [List.length_zipWith, h3.length, h5.length]
      omega
  · exact h1.elim

/-! ### for -/
def forD (g : GD) (tb : TSD) (D0 : DE) : List D → En → Store → Prop
  | [] => D0.nx
  | x :: xs => fun env S => g x env fun env1 => tb { D0 with nx := forD g tb D0 xs, ct := forD g tb D0 xs, bk := D0.nx } env1 S
def dFor (ti : TAD) (g : GD) (tb : TSD) : TSD := fun D0 env S => ti env S (fun items S1 => forD g tb D0 items env S1) (fun x S1 => D0.ex x env S1)
theorem forD_mono {g : GD} {tb : TSD} (hg : MonoG g) (hb : MonoS tb) {D0 D1 : DE} (l : DE.Le D0 D1) : ∀ items env S, forD g tb D0 items env S → forD g tb D1 items env S
  | [], env, S, h => l.nx _ _ h
  | x :: xs, env, S, h => hg _ _ _ _ (fun e h1 => hb { D0 with nx := forD g tb D0 xs, ct := forD g tb D0 xs, bk := D0.nx } _ _ _ ⟨forD_mono hg hb l xs, l.rt, l.nx, forD_mono hg hb l xs, l.ex⟩ h1) h
theorem dFor_mono {ti : TAD} {g : GD} {tb : TSD} (hi : MonoA ti) (hg : MonoG g) (hb : MonoS tb) : MonoS (dFor ti g tb) := fun D0 D1 env S l h => hi _ _ _ _ _ _ (fun items S1 h1 => forD_mono hg hb l _ _ _ h1) (fun x S1 h1 => l.ex _ _ _ h1) h
theorem psd_for {tg iter : Expr} {body : List Stmt} {ti : TAD} {g : GD} {tb : TSD} {pos : Pos} (hp : PassesOwn (model X.prog X.w) X.A X.env X.xe) (hc : X.calm = true) (hi : PID X T W tg iter ti) (hg : PGD X tg g) (hb : PSsD X T W body tb) (hs : ∀ x, foldedSetIterable iter X.env x = pure x) :
    PSD X T W (.For tg iter body [] pos) (dFor ti g tb) := by
  refine ⟨PS.imp (ps_for hp hc hi.pi hg.pg hb.ps hs) fun D σ H q => ?_, dFor_mono hi.mo hg.mo hb.mo⟩
  obtain ⟨A, S, env, eo, st, q⟩ := q
  refine ⟨A, S, env, eo, st, hi.mo _ _ _ _ _ _ (fun items S1 h1 => ?_) (fun x S1 h1 A' H' l1 st1 => h1 A' H' σ l1 st1 (eo.mono l1)) q⟩
  intro A1 H1 J l1 st1 wk
  refine ⟨fun i m σ' H' => m = items.length - i ∧ i ≤ items.length ∧ ∃ A2 S2 env2, Le A1 H1 A2 H' ∧ EnOk X.K A2 H' σ' env2 ∧ Stt X.K T A2 S2 H' ∧ forD g tb (upD X.K T W A H D) (items.drop i) env2 S2, ⟨items.length, by simp, Nat.zero_le _, A1, S1, env, Le.refl _ _, eo.mono l1, st1, by rw [List.drop_zero]; exact h1⟩, ?_⟩
  rintro i m σ2 H2 ⟨rfl, hi2, A2, S2, env2, l2, eo2, st2, h2⟩
  by_cases hlt : i < items.length
  · have e := List.getElem?_eq_getElem hlt
    obtain ⟨g1, g2⟩ := wk.go i _ e A2 S2 H2 l2.w st2
    refine .inr ⟨g1, fun σ' H' => ∃ A2 S2 env2, Le A1 H1 A2 H' ∧ EnOk X.K A2 H' σ' env2 ∧ Stt X.K T A2 S2 H' ∧ forD g tb (upD X.K T W A H D) (items.drop (i + 1)) env2 S2, fun σ' H' h3 => ⟨items.length - (i + 1), by omega, rfl, hlt, h3⟩, fun x H' hy => ?_⟩
    obtain ⟨k1, k2⟩ := g2 x H' hy
    rw [List.drop_eq_getElem_cons hlt] at h2
    have st3 := st2.same k1
    have l3 : Le A2 H2 A2 H' := Le.same k1
    refine ⟨A2, _, env2, eo2.mono l3, k2, hg.mo _ _ _ _ (fun env3 h3 σ3 eo3 => ?_) h2⟩
    have l4 := l2.trans l3
    refine ⟨A2, S2, env3, eo3, st3, hb.mo { upD X.K T W A H D with nx := forD g tb (upD X.K T W A H D) (items.drop (i + 1)), ct := forD g tb (upD X.K T W A H D) (items.drop (i + 1)), bk := (upD X.K T W A H D).nx } _ _ _ ⟨fun env4 S4 h4 A4 H4 σ4 l5 st4 eo4 => ⟨A4, S4, env4, l4.trans l5, eo4, st4, h4⟩, fun d S4 h4 A4 H4 v l5 st4 r => h4 A4 H4 v ((l1.trans l4).trans l5) st4 r, fun env4 S4 h4 A4 H4 σ4 l5 st4 eo4 => h4 A4 H4 σ4 ((l1.trans l4).trans l5) st4 eo4,
      fun env4 S4 h4 A4 H4 σ4 l5 st4 eo4 => ⟨A4, S4, env4, l4.trans l5, eo4, st4, h4⟩, fun x S4 e4 h4 A4 H4 σ4 l5 st4 eo4 => h4 A4 H4 σ4 ((l1.trans l4).trans l5) st4 eo4⟩ h3⟩
  · have e : i = items.length := Nat.le_antisymm hi2 (Nat.not_lt.mp hlt)
    subst e
    rw [List.drop_length] at h2
    exact .inl ⟨wk.stop A2 S2 H2 l2.w st2, h2 A2 H2 σ2 (l1.trans l2) st2 eo2⟩

/-! ### while -/
def whileN (c : TTD) (tb : TSD) (D0 : DE) : Nat → En → Store → Prop
  | 0 => fun _ _ => False
  | n + 1 => fun env S => c env S (fun b S1 => if b = true then tb { D0 with nx := whileN c tb D0 n, ct := whileN c tb D0 n, bk := D0.nx } env S1 else D0.nx env S1) (fun x S1 => D0.ex x env S1)
def dWhile (c : TTD) (tb : TSD) : TSD := fun D0 env S => ∃ n, whileN c tb D0 n env S
theorem whileN_mono {c : TTD} {tb : TSD} (hc : MonoT c) (hb : MonoS tb) {D0 D1 : DE} (l : DE.Le D0 D1) : ∀ n env S, whileN c tb D0 n env S → whileN c tb D1 n env S
  | 0, env, S, h => h
  | n + 1, env, S, h => hc _ _ _ _ _ _ (fun b S1 h1 => by
    cases b with
    | true => rw [if_pos rfl] at h1 ⊢; exact hb { D0 with nx := whileN c tb D0 n, ct := whileN c tb D0 n, bk := D0.nx } _ _ _ ⟨whileN_mono hc hb l n, l.rt, l.nx, whileN_mono hc hb l n, l.ex⟩ h1
    | false => rw [if_neg (by decide)] at h1 ⊢; exact l.nx _ _ h1) (fun x S1 h1 => l.ex _ _ _ h1) h
theorem dWhile_mono {c : TTD} {tb : TSD} (hc : MonoT c) (hb : MonoS tb) : MonoS (dWhile c tb) := fun D0 D1 env S l ⟨n, h⟩ => ⟨n, whileN_mono hc hb l n env S h⟩
theorem psd_while {c : Expr} {body : List Stmt} {tc : TTD} {tb : TSD} {pos : Pos} (hp : PassesOwn (model X.prog X.w) X.A X.env X.xe) (hc : PTD X T W c tc) (hb : PSsD X T W body tb) : PSD X T W (.While c body [] pos) (dWhile tc tb) := by
  refine ⟨PS.imp (ps_while hp hc.pt hb.ps) fun D σ H q => ?_, dWhile_mono hc.mo hb.mo⟩
  obtain ⟨A, S, env, eo, st, n, q⟩ := q
  refine ⟨fun m σ' H' => ∃ A2 S2 env2, Le A H A2 H' ∧ EnOk X.K A2 H' σ' env2 ∧ Stt X.K T A2 S2 H' ∧ whileN tc tb (upD X.K T W A H D) m env2 S2, ⟨n, A, S, env, Le.refl _ _, eo, st, q⟩, ?_⟩
  rintro m σ2 H2 ⟨A2, S2, env2, l2, eo2, st2, h2⟩
  cases m with
  | zero => exact h2.elim
  | succ m =>
    refine ⟨A2, S2, env2, eo2, st2, hc.mo _ _ _ _ _ _ (fun b S3 h3 => ?_) (fun x S1 h1 A' H' l1 st1 => h1 A' H' σ2 (l2.trans l1) st1 (eo2.mono l1)) h2⟩
    intro A3 H3 l3 st3
    cases b with
    | true =>
      rw [if_pos rfl] at h3 ⊢
      have l4 := l2.trans l3
      refine ⟨fun σ' H' => ∃ A2 S2 env2, Le A H A2 H' ∧ EnOk X.K A2 H' σ' env2 ∧ Stt X.K T A2 S2 H' ∧ whileN tc tb (upD X.K T W A H D) m env2 S2, fun σ' H' h5 => ⟨m, Nat.lt_succ_self m, h5⟩, A3, S3, env2, eo2.mono l3, st3, hb.mo { upD X.K T W A H D with nx := whileN tc tb (upD X.K T W A H D) m, ct := whileN tc tb (upD X.K T W A H D) m, bk := (upD X.K T W A H D).nx } _ _ _ ⟨fun env4 S4 h4 A4 H4 σ4 l5 st4 eo4 => ⟨A4, S4, env4, l4.trans l5, eo4, st4, h4⟩, fun d S4 h4 A4 H4 v l5 st4 r => h4 A4 H4 v (l4.trans l5) st4 r, fun env4 S4 h4 A4 H4 σ4 l5 st4 eo4 => h4 A4 H4 σ4 (l4.trans l5) st4 eo4,
        fun env4 S4 h4 A4 H4 σ4 l5 st4 eo4 => ⟨A4, S4, env4, l4.trans l5, eo4, st4, h4⟩, fun x S4 e4 h4 A4 H4 σ4 l5 st4 eo4 => h4 A4 H4 σ4 (l4.trans l5) st4 eo4⟩ h3⟩
    | false =>
      rw [if_neg (by decide)] at h3 ⊢
      exact h3 A3 H3 σ2 (l2.trans l3) st3 (eo2.mono l3)
end
end Fs
end
section
set_option Elab.async false
set_option linter.all false
set_option maxRecDepth 100000
set_option maxHeartbeats 4000000
namespace Fs
open PySem PySem.Spec PyProof.Rows L2 LamX

def noE : EX := fun _ _ => False
abbrev W0 : WX := fun _ _ _ _ => False
def wipeD (env : En) : List Nat → En
  | [] => env
  | v :: vs => (wipeD env vs).set v none
theorem EnOk.none {K : PySem.W.Frag} {A : Ad} {H : Hp} {σ : L2.St} {env : En} (e : EnOk K A H σ env) (i : Nat) : EnOk K A H (σ.set i none) (env.set i none) := by
  refine ⟨by rw [List.length_set, List.length_set]; exact e.len, fun j y hy => ?_⟩
  by_cases hj : i = j
  · subst hj
    by_cases hl : i < env.length
    · rw [List.getElem?_set_self hl] at hy; cases hy
    · rw [List.getElem?_eq_none (by rw [List.length_set]; omega)] at hy; cases hy
  · rw [List.getElem?_set_ne hj] at hy ⊢
    exact e.at_ j y hy
theorem EnOk.wipe {K : PySem.W.Frag} {A : Ad} {H : Hp} {σ : L2.St} {env : En} (e : EnOk K A H σ env) : ∀ vs, EnOk K A H (L2.wipe σ vs) (wipeD env vs)
  | [] => e
  | v :: vs => (EnOk.wipe e vs).none v
/-- the tests of a comprehension: none, or one -/
def dYes : TTD := fun _ S Q _ => Q true S
structure PTsD (X : Cx) (T : TB) (W : WX) (ifs : List Expr) (t : TTD) : Prop where
  pt : PTs X ifs (upT X.K T W t)
  mo : MonoT t
theorem PTs.imp {X : Cx} {e : List Expr} {t t' : TT} (h : PTs X e t) (i : ∀ σ H Q, t' σ H Q → t σ H Q) : PTs X e t' := ⟨fun pins s σ H Q I q => h.run pins s σ H Q I (i σ H Q q)⟩
theorem ptsd_nil {X : Cx} {T : TB} {W : WX} : PTsD X T W [] dYes := by
  refine ⟨PTs.imp pts_nil fun σ H Q q => ?_, fun _ _ _ _ _ _ hq _ h => hq _ _ h⟩
  obtain ⟨A, S, env, eo, st, q⟩ := q
  exact q A H (Le.refl _ _) st
theorem ptsd_one {X : Cx} {T : TB} {W : WX} {c : Expr} {t : TTD} (h : PTD X T W c t) : PTsD X T W [c] t := ⟨pts_one h.pt, h.mo⟩
def lcD (g : GD) (tt : TTD) (te : TED) (env : En) (k : List D → Store → Prop) : List D → List D → Store → Prop
  | [] => k
  | x :: xs => fun acc S => g x env fun env1 => tt env1 S (fun b S1 => if b = true then te env1 S1 (fun y S2 => acc.length < sizeLine ∧ lcD g tt te env k xs (acc ++ [y]) S2) noE else lcD g tt te env k xs acc S1) noE
def dLc (ti : TAD) (own : List Nat) (g : GD) (tt : TTD) (te : TED) : TED := fun env S Q E => ti env S (fun items S1 => lcD g tt te (wipeD env own) (fun acc S2 => Q (.lst acc) S2) items [] S1) E
theorem lcD_mono {g : GD} {tt : TTD} {te : TED} (hg : MonoG g) (ht : MonoT tt) (he : MonoE te) {env : En} {k k' : List D → Store → Prop} (hk : ∀ l S, k l S → k' l S) : ∀ items acc S, lcD g tt te env k items acc S → lcD g tt te env k' items acc S
  | [], acc, S, h => hk _ _ h
  | x :: xs, acc, S, h => hg _ _ _ _ (fun e h1 => ht _ _ _ _ _ _ (fun b S1 h2 => by
    cases b with
    | true => rw [if_pos rfl] at h2 ⊢; exact he _ _ _ _ _ _ (fun y S2 h3 => ⟨h3.1, lcD_mono hg ht he hk xs _ _ h3.2⟩) (fun _ _ z => z) h2
    | false => rw [if_neg (by decide)] at h2 ⊢; exact lcD_mono hg ht he hk xs _ _ h2) (fun _ _ z => z) h1) h
theorem dLc_mono {ti : TAD} {own : List Nat} {g : GD} {tt : TTD} {te : TED} (hi : MonoA ti) (hg : MonoG g) (ht : MonoT tt) (he : MonoE te) : MonoE (dLc ti own g tt te) := fun env S Q Q' E E' hq hE h => hi _ _ _ _ _ _ (fun items S1 h1 => lcD_mono hg ht he (fun l S h => hq _ _ h) _ _ _ h1) hE h
theorem wipe_get {σ : L2.St} : ∀ {vs : List Nat} {j : Nat}, j ∉ vs → (L2.wipe σ vs)[j]? = σ[j]?
  | [], j, _ => rfl
  | v :: vs, j, h => by
    show ((L2.wipe σ vs).set v none)[j]? = _
    rw [List.getElem?_set_ne (fun z => h (by rw [z]; exact List.mem_cons_self))]
    exact wipe_get fun z => h (List.mem_cons_of_mem _ z)
theorem wipe_gone {σ : L2.St} : ∀ {vs : List Nat} {j : Nat}, j ∈ vs → j < σ.length → (L2.wipe σ vs)[j]? = some none
  | [], j, h, _ => by cases h
  | v :: vs, j, h, hl => by
    show ((L2.wipe σ vs).set v none)[j]? = _
    by_cases e : v = j
    · subst e
      rw [List.getElem?_set_self (by rw [L2.wipe_length]; exact hl)]
    · rw [List.getElem?_set_ne e]
      exact wipe_gone ((List.mem_cons.mp h).resolve_left (Ne.symm e)) hl
theorem wipe_set {σ : L2.St} {vs : List Nat} {i : Nat} {x : Option V} (h : i ∈ vs) : L2.wipe (σ.set i x) vs = L2.wipe σ vs := by
  apply List.ext_getElem?
  intro j
  by_cases hj : j ∈ vs
  · by_cases hl : j < σ.length
    · rw [wipe_gone hj (by rw [List.length_set]; exact hl), wipe_gone hj hl]
    · rw [List.getElem?_eq_none (by rw [L2.wipe_length, List.length_set]; omega), List.getElem?_eq_none (by rw [L2.wipe_length]; omega)]
  · rw [wipe_get hj, wipe_get hj, List.getElem?_set_ne]
    intro z
    exact hj (z ▸ h)
/-- a comprehension's target: its own slots alone are set -/
def upGo (K : PySem.W.Frag) (own : List Nat) (g : GD) : TG := fun v σ H Q => ∃ A d env, EnOk K A H σ env ∧ Rep K A H d v ∧ g d env fun env' => ∀ σ', EnOk K A H σ' env' → L2.wipe σ' own = L2.wipe σ own → Q σ' H
structure PGO (X : Cx) (tg : Expr) (own : List Nat) (g : GD) : Prop where
  pg : PG X tg (upGo X.K own g)
  mo : MonoG g
theorem pgo_name {X : Cx} {i : Nat} {x : Str} {pos : Pos} {own : List Nat} (hN : X.N.Nodup) (hi : X.N[i]? = some x) (hx : Loc X.env.scope x) (hf : X.fn x = true ∨ X.env.scope.names.lookup x = some .local) (ho : i ∈ own) : PGO X (.Name x pos) own (gN i) := by
  refine ⟨PG.imp (pg_name hN hi hx hf) fun v σ H Q h => ?_, gN_mono⟩
  obtain ⟨A, d, env, eo, r, h⟩ := h
  exact h _ (eo.set i (x := .d d) r) (wipe_set ho)
theorem gs_allo {K : PySem.W.Frag} {A : Ad} {H : Hp} {own : List Nat} {Q : L2.St → Hp → Prop} : ∀ {is : List Nat} {ds : List D} {vs : List V} {σ : L2.St} {env : En}, (∀ i, i ∈ is → i ∈ own) → ds.length = is.length → Reps K A H ds vs → EnOk K A H σ env → (∀ σ', EnOk K A H σ' (setAll env is ds) → L2.wipe σ' own = L2.wipe σ own → Q σ' H) → gsAll is vs σ H Q
  | [], [], vs, σ, env, _, hl, h, eo, q => ⟨h, q σ eo rfl⟩
  | [], d :: ds, vs, σ, env, _, hl, h, eo, q => by cases hl
  | i :: is, [], vs, σ, env, _, hl, h, eo, q => by cases hl
  | i :: is, d :: ds, vs, σ, env, ho, hl, h, eo, q => by
    obtain ⟨x, xs, rfl, h2, h3⟩ := h
    exact ⟨x, xs, rfl, gs_allo (is := is) (fun j hj => ho j (List.mem_cons_of_mem _ hj)) (Nat.succ.inj hl) h3 (eo.set i (x := .d d) h2) fun σ' e' w => q σ' e' (w.trans (wipe_set (ho i List.mem_cons_self)))⟩
theorem pgo_tup {X : Cx} {es : List Expr} {k : Nat} {is : List Nat} {pos : Pos} {own : List Nat} (hc : X.calm = true) (h : PGs X es (gsAll is)) (hn : (assignEach es X.env).length = is.length) (hst : (assignEach es X.env).findIdx? (·.1) = none) (ho : ∀ i, i ∈ is → i ∈ own) : PGO X (.Tuple es k pos) own (gT is) := by
  refine ⟨PG.imp (PG.or (pg_tup (n := is.length) hc h hn hst) (pg_lst (n := is.length) hc h hn hst)) fun v σ H Q h => ?_, gT_mono⟩
  obtain ⟨A, d, env, eo, r, h⟩ := h
  cases d with
  | tup ds =>
    obtain ⟨a, vs, rfl, h1, h2⟩ := r
    exact .inl ⟨a, vs, rfl, h1.sq, by rw [← h2.length]; exact h.1, gs_allo ho h.1 h2 eo h.2⟩
  | lst ds =>
    obtain ⟨a, vs, rfl, n1, h1, h2⟩ := r
    exact .inr ⟨a, vs, rfl, SqL.of h1, by rw [← h2.length]; exact h.1, gs_allo ho h.1 h2 eo h.2⟩
  | _ => exact h.elim
section
variable {X : Cx} {T : TB} {W : WX}
/-- the comprehension's list, not told by a store -/
theorem le_open {A : Ad} {H : Hp} {D : Addr} {o : HO} (hD : H D = none) : Lw A H ⟨A.c, D :: A.m, A.b⟩ (upd H D o) := by
  refine ⟨fun _ _ h => h, fun a o h n e => ?_, fun b u e n m => ?_, fun b u e m => ?_, fun a h => List.mem_cons_of_mem _ h, fun a o h n => absurd h n, rfl⟩
  · rcases List.mem_cons.mp h with q | h
    · rw [q, hD] at e; cases e
    · exact absurd h n
  · rw [upd_ne (ne_of_none e hD)]; exact e
  · exact ⟨u, by rw [upd_ne (ne_of_none e hD)]; exact e, m⟩
theorem stt_open {K : PySem.W.Frag} {A : Ad} {S : Store} {H : Hp} {D : Addr} {o : HO} (st : Stt K T A S H) (hD : H D = none) (hp : plainO o) : Stt K T ⟨A.c, D :: A.m, A.b⟩ S (upd H D o) := by
  have l := le_open (A := A) (o := o) hD
  refine ⟨st.nd, st.len, fun i c e => ?_, fun a h => List.mem_cons_of_mem _ (st.sub a h), fun a h => ?_, (st.upd hD).tabs, st.bas⟩
  · obtain ⟨a, h1, h2⟩ := st.cell i c e
    refine ⟨a, h1, h2.leW l fun o' e' => ?_⟩
    rw [upd_ne (ne_of_none e' hD)]; exact e'
  · rcases List.mem_cons.mp h with e | h
    · subst e; exact ⟨o, upd_same, hp⟩
    · obtain ⟨o', e', p'⟩ := st.tr a h
      exact ⟨o', by rw [upd_ne (ne_of_none e' hD)]; exact e', p'⟩
/-- a list that no store tells is changed -/
theorem le_write {A : Ad} {H : Hp} {D : Addr} {o o' : HO} (h : H D = some o) (hm : D ∈ A.m) (no : ∀ ps, o' ≠ .tbl ps) : Lw A H A (upd H D o') := by
  refine ⟨fun _ _ h => h, fun a _ h n => absurd h n, fun b u e n m => ?_, fun b u e m => ?_, fun a h => h, fun a _ h n => absurd h n, rfl⟩
  · have : b ≠ D := fun z => n (z ▸ hm)
    rw [upd_ne this]; exact e
  · by_cases z : b = D
    · subst z; exact ⟨o', upd_same, no⟩
    · exact ⟨u, by rw [upd_ne z]; exact e, m⟩
theorem stt_write {K : PySem.W.Frag} {A : Ad} {S : Store} {H : Hp} {D : Addr} {xs : List V} {o' : HO} (st : Stt K T A S H) (h : H D = some (.lst xs)) (hm : D ∈ A.m) (hc : D ∉ A.c) (np : plainO o') : Stt K T A S (upd H D o') := by
  have l := le_write (o' := o') h hm (plainO_tbl np)
  refine ⟨st.nd, st.len, fun i c e => ?_, st.sub, fun a ha => ?_, tabs_upd h (fun ps z => by cases z) (fun q z => by unfold CodeO at z; cases z) st.tabs, st.bas⟩
  · obtain ⟨a, h1, h2⟩ := st.cell i c e
    refine ⟨a, h1, h2.leW l fun o'' e' => ?_⟩
    have : a ≠ D := fun z => hc (z ▸ List.mem_of_getElem? h1)
    rw [upd_ne this]; exact e'
  · obtain ⟨o'', e', p'⟩ := st.tr a ha
    by_cases z : a = D
    · subst z; exact ⟨o', upd_same, np⟩
    · exact ⟨o'', by rw [upd_ne z]; exact e', p'⟩
theorem Reps.snoc {K : PySem.W.Frag} {A : Ad} {H : Hp} {ds : List D} {vs : List V} {d : D} {v : V} (h : Reps K A H ds vs) (r : Rep K A H d v) : Reps K A H (ds ++ [d]) (vs ++ [v]) := Reps.append h ⟨v, [], rfl, r, rfl⟩
theorem up_lc {own : List (Str × Nat)} {ti : TAD} {g : GD} {tt : TTD} {te : TED} (mi : MonoA ti) (mg : MonoG g) (mt : MonoT tt) (me : MonoE te) {σ : L2.St} {H : Hp} {Q : VK}
    (q : upE X.K T W (dLc ti (own.map (·.2)) g tt te) σ H Q) : tLc (upI X.K T W ti) (upGo X.K (own.map (·.2)) g) (upT X.K T W0 tt) (upE X.K T W0 te) (own.map (·.2)) σ H Q := by
  obtain ⟨A, S, env, eo, st, q⟩ := q
  refine ⟨A, S, env, eo, st, mi _ _ _ _ _ _ (fun items S1 h1 => ?_) (fun x S1 h1 => h1) q⟩
  intro A1 H1 J l1 st1 wk D hD
  have hDm : D ∉ A1.m := st1.fresh hD
  have hDc : D ∉ A1.c := fun z => hDm (st1.sub D z)
  have eo1 := eo.mono l1
  refine ⟨fun i m H2 => m = items.length - i ∧ i ≤ items.length ∧ ∃ A2 S2 acc vacc, Lw ⟨A1.c, D :: A1.m, A1.b⟩ (upd H1 D (.lst [])) A2 H2 ∧ (∀ b o, H1 b = some o → b ∉ A1.c → (∀ ps, o ≠ .tbl ps) → H2 b = some o) ∧ H2 D = some (.lst vacc) ∧ Reps X.K A2 H2 acc vacc ∧ Stt X.K T A2 S2 H2 ∧ lcD g tt te (wipeD env (own.map (·.2))) (fun acc S2 => Bk X.K T A H Q (.lst acc) S2) (items.drop i) acc S2,
    ⟨items.length, by simp, Nat.zero_le _, ⟨A1.c, D :: A1.m, A1.b⟩, S1, [], [], Lw.refl _ _, fun b o e _ _ => by rw [upd_ne (ne_of_none e hD)]; exact e, upd_same, rfl, stt_open st1 hD trivial, by rw [List.drop_zero]; exact h1⟩, ?_⟩
  rintro i m H2 ⟨rfl, hi2, A2, S2, acc, vacc, l2, x2, hD2, ra, st2, h2⟩
  have l12 : Lw A1 H1 A2 H2 := (le_open hD).trans l2
  have hD2m : D ∈ A2.m := l2.msub D List.mem_cons_self
  have hD2c : D ∉ A2.c := fun z => by
    obtain ⟨ps, q⟩ := l2.cnew D _ z hDc upd_same
    cases q
  have e12 : Le A1 H1 A2 H2 := ⟨l12, x2⟩
  by_cases hlt : i < items.length
  · have e := List.getElem?_eq_getElem hlt
    obtain ⟨g1, g2⟩ := wk.go i _ e A2 S2 H2 l12 st2
    refine .inr ⟨g1, fun H' => ∃ A2 S2 acc vacc, Lw ⟨A1.c, D :: A1.m, A1.b⟩ (upd H1 D (.lst [])) A2 H' ∧ (∀ b o, H1 b = some o → b ∉ A1.c → (∀ ps, o ≠ .tbl ps) → H' b = some o) ∧ H' D = some (.lst vacc) ∧ Reps X.K A2 H' acc vacc ∧ Stt X.K T A2 S2 H' ∧ lcD g tt te (wipeD env (own.map (·.2))) (fun acc S2 => Bk X.K T A H Q (.lst acc) S2) (items.drop (i + 1)) acc S2,
      fun H' h3 => ⟨items.length - (i + 1), by omega, rfl, hlt, h3⟩, fun x H' hy => ?_⟩
    obtain ⟨k1, k2⟩ := g2 x H' hy
    rw [List.drop_eq_getElem_cons hlt] at h2
    have st3 := st2.same k1
    have l3 : Le A2 H2 A2 H' := Le.same k1
    refine ⟨A2, _, _, ((eo1.mono e12).mono l3).wipe _, k2, mg _ _ _ _ (fun env3 h3 σ3 eo3 w3 => ?_) h2⟩
    have w4 : L2.wipe σ3 (own.map (·.2)) = L2.wipe σ (own.map (·.2)) := by
      rw [w3]
      apply List.ext_getElem?
      intro j
      by_cases hj : j ∈ own.map (·.2)
      · by_cases hl : j < σ.length
        · rw [wipe_gone hj (by rw [L2.wipe_length]; exact hl), wipe_gone hj hl]
        · rw [List.getElem?_eq_none (by rw [L2.wipe_length, L2.wipe_length]; omega), List.getElem?_eq_none (by rw [L2.wipe_length]; omega)]
      · rw [wipe_get hj, wipe_get hj]
    refine ⟨w4, A2, S2, env3, eo3, st3, mt _ _ _ _ _ _ (fun b S4 h4 => ?_) (fun _ _ z => z.elim) h3⟩
    intro A4 H4 l4 st4
    have l24 := l3.trans l4
    cases b with
    | true =>
      rw [if_pos rfl] at h4 ⊢
      refine ⟨A4, S4, env3, eo3.mono l4, st4, me _ _ _ _ _ _ (fun y S5 h5 => ?_) (fun _ _ z => z.elim) h4⟩
      intro A5 H5 vy l5 st5 ry
      have l25 := l24.trans l5
      have hD5 := l25.exs D _ hD2 hD2c fun ps z => by cases z
      have hD5m : D ∈ A5.m := l25.w.msub D hD2m
      have hD5c : D ∉ A5.c := fun z => by
        obtain ⟨ps, q⟩ := l25.w.cnew D _ z hD2c hD2
        cases q
      have ra5 := Reps.mono l25 _ _ ra
      have lw := le_write (o' := .lst (vacc ++ [vy])) hD5 hD5m (fun ps z => by cases z)
      refine ⟨vacc, hD5, by rw [← ra.length]; exact h5.1, A5, S5, acc ++ [y], vacc ++ [vy], (l2.trans l25.w).trans lw, fun b o e n m => ?_, upd_same, Reps.monoW lw _ _ (Reps.snoc ra5 ry), stt_write st5 hD5 hD5m hD5c trivial, h5.2⟩
      rw [upd_ne (ne_of_none e hD)]
      exact (e12.trans l25).exs b o e n m
    | false =>
      rw [if_neg (by decide)] at h4 ⊢
      refine ⟨A4, S4, acc, vacc, l2.trans l24.w, (e12.trans l24).exs, l24.exs D _ hD2 hD2c (fun ps z => by cases z), Reps.mono l24 _ _ ra, st4, h4⟩
  · have e : i = items.length := Nat.le_antisymm hi2 (Nat.not_lt.mp hlt)
    subst e
    rw [List.drop_length] at h2
    refine .inl ⟨wk.stop A2 S2 H2 l12 st2, ?_⟩
    have hsub : ∀ a, a ∈ A2.m.filter (fun a => decide (a ≠ D)) → a ∈ A2.m := fun a h => (List.mem_filter.mp h).1
    have nD : D ∉ A2.m.filter (fun a => decide (a ≠ D)) := fun z => by
      have := (List.mem_filter.mp z).2
      simp at this
    have l6 := l1.trans e12
    have hDA : D ∉ A.m := fun z => hDm (l1.w.msub D z)
    have l5 : Le A H ⟨A2.c, A2.m.filter (fun a => decide (a ≠ D)), A2.b⟩ H2 := by
      refine ⟨⟨l6.w.pre, fun a o h n e => l6.w.new a o (hsub a h) n e, l6.w.ext, l6.w.som, fun a h => List.mem_filter.mpr ⟨l6.w.msub a h, ?_⟩, l6.w.cnew, l6.w.bsm⟩, l6.exs⟩
      have : a ≠ D := fun z => hDA (z ▸ h)
      simp [this]
    refine h2 ⟨A2.c, A2.m.filter (fun a => decide (a ≠ D)), A2.b⟩ H2 (.ref D) l5 ⟨st2.nd, st2.len, fun i c e => ?_, fun a h => List.mem_filter.mpr ⟨st2.sub a h, ?_⟩, fun a h => st2.tr a (hsub a h), st2.tabs, st2.bas⟩ ⟨D, vacc, rfl, nD, hD2, Reps.weak (A := A2) (A' := ⟨A2.c, A2.m.filter (fun a => decide (a ≠ D)), A2.b⟩) rfl hsub _ _ ra⟩
    · obtain ⟨a, q1, q2⟩ := st2.cell i c e
      exact ⟨a, q1, CellOk.weak (A := A2) (A' := ⟨A2.c, A2.m.filter (fun a => decide (a ≠ D)), A2.b⟩) rfl hsub q2⟩
    · have : a ≠ D := fun z => hD2c (z ▸ h)
      simp [this]
theorem pd_lc {elt tg iter : Expr} {ifs : List Expr} {scope : Scope} {own : List (Str × Nat)} {pos : Pos} {ti : TAD} {g : GD} {tt : TTD} {te : TED} (hc : X.calm = true) (hN : X.N.Nodup) (hi : PID X T W tg iter ti) (ok : BlkOk X.N X.env.scope scope own)
    (hg : ∀ (s : Shared) (H : Hp) (C : Addr) (cl : List (Str × Addr)) (fp : List Addr), PGO (X.blk s H scope (compEnvC scope cl C X.env) fp) tg (own.map (·.2)) g) (mg : MonoG g)
    (ht : ∀ (s : Shared) (H : Hp) (C : Addr) (cl : List (Str × Addr)) (fp : List Addr), PTsD (X.blk s H scope (compEnvC scope cl C X.env) fp) T W0 ifs tt) (mt : MonoT tt)
    (he : ∀ (s : Shared) (H : Hp) (C : Addr) (cl : List (Str × Addr)) (fp : List Addr), PD (X.blk s H scope (compEnvC scope cl C X.env) fp) T W0 elt te) (me : MonoE te) (hs : ∀ x, foldedSetIterable iter X.env x = pure x) :
    PD X T W (.ListComp elt [⟨tg, iter, ifs, 0⟩] scope pos) (dLc ti (own.map (·.2)) g tt te) := by
  exact ⟨PE.imp (pe_lc (g := upGo X.K (own.map (·.2)) g) (tt := upT X.K T W0 tt) (te := upE X.K T W0 te) hc hN hi.pi ok (fun s H C cl fp => (hg s H C cl fp).pg) (fun s H C cl fp => (ht s H C cl fp).pt) (fun s H C cl fp => (he s H C cl fp).pe) hs) fun σ H Q q => up_lc hi.mo mg mt me q, dLc_mono hi.mo mg mt me⟩
end
end Fs
end
section
set_option Elab.async false
set_option linter.all false
set_option maxRecDepth 100000
set_option maxHeartbeats 4000000
namespace Fs
open PySem PySem.Spec PyProof.Rows L2 LamX

def dNext : TSD := fun D env S => D.nx env S
def dSeq (t u : TSD) : TSD := fun D env S => t { D with nx := u D } env S
theorem dNext_mono : MonoS dNext := fun _ _ _ _ l h => l.nx _ _ h
theorem dSeq_mono {t u : TSD} (ht : MonoS t) (hu : MonoS u) : MonoS (dSeq t u) := fun D D' env S l h => ht { D with nx := u D } _ _ _ ⟨fun e s h => hu _ _ _ _ l h, l.rt, l.bk, l.ct, l.ex⟩ h
section
variable {X : Cx} {T : TB} {W : WX} {st : Stmt} {rest : List Stmt} {pos : Pos}
theorem pssd_nil : PSsD X T W [] dNext := by
  refine ⟨PSs.imp pss_nil fun D σ H q => ?_, dNext_mono⟩
  obtain ⟨A, S, env, eo, st, q⟩ := q
  exact q A H σ (Le.refl _ _) st eo
theorem pssd_cons {t u : TSD} (h1 : PSD X T W st t) (h2 : PSsD X T W rest u) : PSsD X T W (st :: rest) (dSeq t u) := by
  refine ⟨PSs.imp (pss_cons h1.ps h2.ps) fun D σ H q => ?_, dSeq_mono h1.mo h2.mo⟩
  obtain ⟨A, S, env, eo, st, q⟩ := q
  refine ⟨A, S, env, eo, st, h1.mo { upD X.K T W A H D with nx := u (upD X.K T W A H D) } _ _ _ ⟨fun env' S' h A' H' σ' l st' eo' => ?_, fun _ _ z => z, fun _ _ z => z, fun _ _ z => z, fun _ _ _ z => z⟩ q⟩
  exact ⟨A', S', env', eo', st', h2.mo _ _ _ _ (upD.le l) h⟩
theorem pssd_one {t : TSD} (h : PSD X T W st t) : PSsD X T W [st] t := ⟨pss_one h.ps, h.mo⟩
theorem psd_pass : PSD X T W (.Pass pos) dNext := by
  refine ⟨PS.imp ps_pass fun D σ H q => ?_, dNext_mono⟩
  obtain ⟨A, S, env, eo, st, q⟩ := q
  exact q A H σ (Le.refl _ _) st eo
def dRet (t : TED) : TSD := fun D env S => t env S D.rt (fun x S1 => D.ex x env S1)
theorem dRet_mono {t : TED} (h : MonoE t) : MonoS (dRet t) := fun D D' env S l q => h _ _ _ _ _ _ (fun d S h => l.rt _ _ h) (fun x S h => l.ex _ _ _ h) q
/-- an expression's error, at these slots -/
theorem ex_at {K : PySem.W.Frag} {A : Ad} {H : Hp} {σ : L2.St} {env : En} {D : Ends} (eo : EnOk K A H σ env) {x : Exn} {S : Store} (h : (upD K T W A H D).ex x env S) : BkX K T A H (fun x d H' => W x d σ H') x S := fun A' H' l st => h A' H' σ l st (eo.mono l)
theorem psd_ret {e : Expr} {t : TED} (h : PD X T W e t) : PSD X T W (.Return (some e) pos) (dRet t) := by
  refine ⟨PS.imp (ps_ret h.pe) fun D σ H q => ?_, dRet_mono h.mo⟩
  obtain ⟨A, S, env, eo, st, q⟩ := q
  exact ⟨A, S, env, eo, st, h.mo _ _ _ _ _ _ (fun d S1 h1 => h1) (fun x S1 h1 => ex_at eo h1) q⟩
def dRetN : TSD := fun D _ S => D.rt .non S
theorem psd_retN : PSD X T W (.Return none pos) dRetN := by
  refine ⟨PS.imp ps_retN fun D σ H q => ?_, fun D D' env S l h => l.rt _ _ h⟩
  obtain ⟨A, S, env, eo, st, q⟩ := q
  exact q A H .non (Le.refl _ _) st rfl
def dDrop (t : TED) : TSD := fun D env S => t env S (fun _ S1 => D.nx env S1) (fun x S1 => D.ex x env S1)
theorem dDrop_mono {t : TED} (h : MonoE t) : MonoS (dDrop t) := fun D D' env S l q => h _ _ _ _ _ _ (fun d S h => l.nx _ _ h) (fun x S h => l.ex _ _ _ h) q
theorem psd_expr {e : Expr} {t : TED} (h : PD X T W e t) (hs : swapsWith e none pos.line X.env = pure false) : PSD X T W (.Expr e pos) (dDrop t) := by
  refine ⟨PS.imp (ps_expr h.pe hs) fun D σ H q => ?_, dDrop_mono h.mo⟩
  obtain ⟨A, S, env, eo, st, q⟩ := q
  exact ⟨A, S, env, eo, st, h.mo _ _ _ _ _ _ (fun d S1 h1 A' H' v l st' r => h1 A' H' σ l st' (eo.mono l)) (fun x S1 h1 => ex_at eo h1) q⟩
def dIfS (c : TTD) (t u : TSD) : TSD := fun D env S => c env S (fun b S1 => if b = true then t D env S1 else u D env S1) (fun x S1 => D.ex x env S1)
theorem dIfS_mono {c : TTD} {t u : TSD} (hc : MonoT c) (ht : MonoS t) (hu : MonoS u) : MonoS (dIfS c t u) := fun D D' env S l q => hc _ _ _ _ _ _ (fun b S1 h => by
  cases b
  · exact hu _ _ _ _ l h
  · exact ht _ _ _ _ l h) (fun x S h => l.ex _ _ _ h) q
theorem psd_if {c : Expr} {a b : List Stmt} {tc : TTD} {t u : TSD} (hc : PTD X T W c tc) (ha : PSsD X T W a t) (hb : PSsD X T W b u) : PSD X T W (.If c a b pos) (dIfS tc t u) := by
  refine ⟨PS.imp (ps_if hc.pt ha.ps hb.ps) fun D σ H q => ?_, dIfS_mono hc.mo ha.mo hb.mo⟩
  obtain ⟨A, S, env, eo, st, q⟩ := q
  refine ⟨A, S, env, eo, st, hc.mo _ _ _ _ _ _ (fun b S1 h1 => ?_) (fun x S1 h1 => ex_at eo h1) q⟩
  intro A1 H1 l1 st1
  cases b with
  | true => rw [if_pos rfl] at h1 ⊢; exact ⟨A1, S1, env, eo.mono l1, st1, ha.mo _ _ _ _ (upD.le l1) h1⟩
  | false => rw [if_neg (by decide)] at h1 ⊢; exact ⟨A1, S1, env, eo.mono l1, st1, hb.mo _ _ _ _ (upD.le l1) h1⟩
/-- target = value -/
def dAsg (t : TED) (g : GD) : TSD := fun D env S => t env S (fun d S1 => g d env fun env' => D.nx env' S1) (fun x S1 => D.ex x env S1)
theorem dAsg_mono {t : TED} {g : GD} (h : MonoE t) (hg : MonoG g) : MonoS (dAsg t g) := fun D D' env S l q => h _ _ _ _ _ _ (fun d S h => hg _ _ _ _ (fun e h => l.nx _ _ h) h) (fun x S h => l.ex _ _ _ h) q
theorem up_asg {K : PySem.W.Frag} {t : TED} {g : GD} (h : MonoE t) (hg : MonoG g) {D : Ends} {σ : L2.St} {H : Hp} (q : upS K T W (dAsg t g) D σ H) : tAsg (upE K T W t) (upG K g) D σ H := by
  obtain ⟨A, S, env, eo, st, q⟩ := q
  refine ⟨A, S, env, eo, st, h _ _ _ _ _ _ (fun d S1 h1 => ?_) (fun x S1 h1 => ex_at eo h1) q⟩
  intro A1 H1 v l1 st1 r
  exact ⟨A1, d, env, eo.mono l1, r, hg _ _ _ _ (fun env' h2 σ' eo' => h2 A1 H1 σ' l1 st1 eo') h1⟩
theorem psd_asg {tg e : Expr} {t : TED} {g : GD} (he : PD X T W e t) (hg : PGD X tg g) (hs : swapsWithSole [tg] e pos.line X.env = pure false) (hw : swappedStores [tg] e X.env = pure none) (h1 : (assignEach [tg] X.env).map (·.2) = [assign tg X.env]) : PSD X T W (.Assign [tg] e pos) (dAsg t g) :=
  ⟨PS.imp (ps_asg he.pe hg.pg hs hw h1) fun _ _ _ q => up_asg he.mo hg.mo q, dAsg_mono he.mo hg.mo⟩
theorem psd_set {i : Nat} {x : Str} {e : Expr} {t : TED} {pos' : Pos} (hN : X.N.Nodup) (hi : X.N[i]? = some x) (hx : Loc X.env.scope x) (he : PD X T W e t) (hs : swapsWith e (some (.Name x pos')) pos.line X.env = pure false) (hf : X.fn x = true ∨ X.env.scope.names.lookup x = some .local) : PSD X T W (.Assign [.Name x pos'] e pos) (dAsg t (gN i)) := by
  refine ⟨PS.imp (ps_set hN hi hx he.pe hs hf) fun D σ H q => ?_, dAsg_mono he.mo gN_mono⟩
  obtain ⟨A, S, env, eo, st, q⟩ := q
  refine ⟨A, S, env, eo, st, he.mo _ _ _ _ _ _ (fun d S1 h1 => ?_) (fun x S1 h1 => ex_at eo h1) q⟩
  intro A1 H1 v l1 st1 r
  exact h1 A1 H1 _ l1 st1 ((eo.mono l1).set i (x := .d d) r)
/-- a, b = x, y (and three): the values in a row -/
def dPar (is : List Nat) (t : TAD) : TSD := fun D env S => t env S (fun xs S1 => xs.length = is.length ∧ D.nx (setAll env is xs) S1) (fun x S1 => D.ex x env S1)
theorem dPar_mono {is : List Nat} {t : TAD} (h : MonoA t) : MonoS (dPar is t) := fun D D' env S l q => h _ _ _ _ _ _ (fun d S h => ⟨h.1, l.nx _ _ h.2⟩) (fun x S h => l.ex _ _ _ h) q
theorem psd_par2 {i j : Nat} {x y : Str} {a b : Expr} {ta : TAD} {px py pt : Pos} {kt k2 pt2} (hc : X.calm = true) (hN : X.N.Nodup) (hi : X.N[i]? = some x) (hj : X.N[j]? = some y) (hij : i ≠ j)
    (hx : X.env.scope.names.lookup x = some .local) (hy : X.env.scope.names.lookup y = some .local) (ha : PAD X T W [a, b] ta)
    (hw : swappedStores [.Tuple [.Name x px, .Name y py] kt pt] (.Tuple [a, b] k2 pt2) X.env = pure (some [x, y]))
    (hs : swapsWithSole [.Tuple [.Name x px, .Name y py] kt pt] (.Tuple [a, b] k2 pt2) pos.line X.env = pure false) :
    PSD X T W (.Assign [.Tuple [.Name x px, .Name y py] kt pt] (.Tuple [a, b] k2 pt2) pos) (dPar [i, j] ta) := by
  refine ⟨PS.imp (ps_par hc hN hi hj hij hx hy ha.pa hw hs) fun D σ H q => ?_, dPar_mono ha.mo⟩
  obtain ⟨A, S, env, eo, st, q⟩ := q
  refine ⟨A, S, env, eo, st, ha.mo _ _ _ _ _ _ (fun xs S1 h1 => ?_) (fun x S1 h1 => ex_at eo h1) q⟩
  intro A1 H1 vs l1 st1 r
  obtain ⟨hl, h2⟩ := h1
  match xs, hl, r, h2 with
  | [d1, d2], _, r, h2 =>
    obtain ⟨v, w, rfl, r1, r2⟩ := reps2 r
    exact ⟨v, w, rfl, h2 A1 H1 _ l1 st1 (((eo.mono l1).set i (x := .d d1) r1).set j (x := .d d2) r2)⟩
theorem psd_par3 {i j l : Nat} {x y z : Str} {a b c : Expr} {ta : TAD} {px py pz pt : Pos} {kt k2 pt2} (hc : X.calm = true) (hN : X.N.Nodup) (hi : X.N[i]? = some x) (hj : X.N[j]? = some y) (hl : X.N[l]? = some z) (hij : i ≠ j) (hil : i ≠ l) (hjl : j ≠ l)
    (hx : X.env.scope.names.lookup x = some .local) (hy : X.env.scope.names.lookup y = some .local) (hz : X.env.scope.names.lookup z = some .local) (ha : PAD X T W [a, b, c] ta)
    (hw : swappedStores [.Tuple [.Name x px, .Name y py, .Name z pz] kt pt] (.Tuple [a, b, c] k2 pt2) X.env = pure (some [x, y, z]))
    (hs : swapsWithSole [.Tuple [.Name x px, .Name y py, .Name z pz] kt pt] (.Tuple [a, b, c] k2 pt2) pos.line X.env = pure false) :
    PSD X T W (.Assign [.Tuple [.Name x px, .Name y py, .Name z pz] kt pt] (.Tuple [a, b, c] k2 pt2) pos) (dPar [i, j, l] ta) := by
  refine ⟨PS.imp (ps_par3 hc hN hi hj hl hij hil hjl hx hy hz ha.pa hw hs) fun D σ H q => ?_, dPar_mono ha.mo⟩
  obtain ⟨A, S, env, eo, st, q⟩ := q
  refine ⟨A, S, env, eo, st, ha.mo _ _ _ _ _ _ (fun xs S1 h1 => ?_) (fun x S1 h1 => ex_at eo h1) q⟩
  intro A1 H1 vs l1 st1 r
  obtain ⟨hl, h2⟩ := h1
  match xs, hl, r, h2 with
  | [d1, d2, d3], _, r, h2 =>
    obtain ⟨v, xs, rfl, r1, r'⟩ := r
    obtain ⟨w, u, rfl, r2, r3⟩ := reps2 r'
    exact ⟨v, w, u, rfl, h2 A1 H1 _ l1 st1 ((((eo.mono l1).set i (x := .d d1) r1).set j (x := .d d2) r2).set l (x := .d d3) r3)⟩
/-- y = [..], stored within the comprehension's frame -/
theorem psd_setLc {i : Nat} {y : Str} {py : Pos} {elt tg iter : Expr} {ifs : List Expr} {scope : Scope} {own : List (Str × Nat)} {spos : Pos} {ti : TAD} {g : GD} {tt : TTD} {te : TED} (hc : X.calm = true) (hN : X.N.Nodup) (hy : X.N[i]? = some y) (hyl : X.env.scope.names.lookup y = some .local)
    (hsw : swapsWith (.ListComp elt [⟨tg, iter, ifs, 0⟩] scope pos) (some (.Name y py)) spos.line X.env = pure true) (hi : PID X T W tg iter ti) (ok : BlkOk X.N X.env.scope scope own)
    (hg : ∀ (s : Shared) (H : Hp) (C : Addr) (cl : List (Str × Addr)) (fp : List Addr), PGO (X.blk s H scope (compEnvC scope cl C X.env) fp) tg (own.map (·.2)) g) (mg : MonoG g)
    (ht : ∀ (s : Shared) (H : Hp) (C : Addr) (cl : List (Str × Addr)) (fp : List Addr), PTsD (X.blk s H scope (compEnvC scope cl C X.env) fp) T W0 ifs tt) (mt : MonoT tt)
    (he : ∀ (s : Shared) (H : Hp) (C : Addr) (cl : List (Str × Addr)) (fp : List Addr), PD (X.blk s H scope (compEnvC scope cl C X.env) fp) T W0 elt te) (me : MonoE te) (hs : ∀ x, foldedSetIterable iter X.env x = pure x) :
    PSD X T W (.Assign [.Name y py] (.ListComp elt [⟨tg, iter, ifs, 0⟩] scope pos) spos) (dAsg (dLc ti (own.map (·.2)) g tt te) (gN i)) := by
  have pd := pd_lc (W := W) (pos := pos) hc hN hi ok hg mg ht mt he me hs
  refine ⟨PS.imp (ps_setLc (g := upGo X.K (own.map (·.2)) g) (tt := upT X.K T W0 tt) (te := upE X.K T W0 te) hc hN hy hyl hsw hi.pi ok (fun s H C cl fp => (hg s H C cl fp).pg) (fun s H C cl fp => (ht s H C cl fp).pt) (fun s H C cl fp => (he s H C cl fp).pe) hs) fun D σ H q => ?_, dAsg_mono pd.mo gN_mono⟩
  obtain ⟨A, S, env, eo, st, q⟩ := q
  refine up_lc hi.mo mg mt me (σ := σ) (H := H) (Q := fun x H1 => gName i x σ H1 D.nx) ⟨A, S, env, eo, st, pd.mo _ _ _ _ _ _ (fun d S1 h1 => ?_) (fun x S1 h1 => ex_at eo h1) q⟩
  intro A1 H1 v l1 st1 r
  exact h1 A1 H1 _ l1 st1 ((eo.mono l1).set i (x := .d d) r)
end
end Fs
end
section
set_option Elab.async false
set_option linter.all false
set_option maxRecDepth 100000
set_option maxHeartbeats 4000000
namespace Fs
open PySem PySem.Spec PyProof.Rows L2 LamX

/-! ### more built-ins: lists of ints -/
def intsOf : List D → Option (List Int)
  | [] => some []
  | .int i :: r => (intsOf r).map (i :: ·)
  | _ => none
theorem intsOf_eq : ∀ {ds : List D} {ns : List Int}, intsOf ds = some ns → ds = ns.map D.int
  | [], ns, h => by cases h; rfl
  | d :: ds, ns, h => by
    cases d with
    | int i =>
      have h' : (intsOf ds).map (i :: ·) = some ns := h
      cases e : intsOf ds with
      | none => rw [e] at h'; cases h'
      | some ms =>
        rw [e] at h'
        cases h'
        rw [intsOf_eq e]
        rfl
    | _ => cases h
theorem intsOf_map : ∀ ns : List Int, intsOf (ns.map D.int) = some ns
  | [] => rfl
  | n :: ns => by
    show (intsOf (ns.map D.int)).map (n :: ·) = _
    rw [intsOf_map ns]; rfl
def maxD : CallO := fun xs S k => match xs with
  | [.int i, .int j] => k (.int (if j > i then j else i))
  | [.lst ds] => (match intsOf ds with
    | some ns => ns ≠ [] ∧ ∀ m, m ∈ ns → (∀ n, n ∈ ns → n ≤ m) → k (.int m)
    | none => False)
  | _ => False
def minD : CallO := fun xs S k => match xs with
  | [.int i, .int j] => k (.int (if j < i then j else i))
  | [.lst ds] => (match intsOf ds with
    | some ns => ns ≠ [] ∧ ∀ m, m ∈ ns → (∀ n, n ∈ ns → m ≤ n) → k (.int m)
    | none => False)
  | _ => False
def sumD : CallO := fun xs S k => match xs with
  | [.lst ds] => (match intsOf ds with
    | some ns => k (.int ns.sum)
    | none => False)
  | _ => False
theorem maxD_mono : MonoC maxD := by
  intro xs S k k' hk h
  unfold maxD at h ⊢
  split at h
  · exact hk _ h
  · split at h
    · exact ⟨h.1, fun m h1 h2 => hk _ (h.2 m h1 h2)⟩
    · exact h.elim
  · exact h.elim
theorem minD_mono : MonoC minD := by
  intro xs S k k' hk h
  unfold minD at h ⊢
  split at h
  · exact hk _ h
  · split at h
    · exact ⟨h.1, fun m h1 h2 => hk _ (h.2 m h1 h2)⟩
    · exact h.elim
  · exact h.elim
theorem sumD_mono : MonoC sumD := by
  intro xs S k k' hk h
  unfold sumD at h ⊢
  split at h
  · split at h
    · exact hk _ h
    · exact h.elim
  · exact h.elim
theorem reps_intsV {K : PySem.W.Frag} {A : Ad} {H : Hp} : ∀ {ns : List Int} {vs : List V}, Reps K A H (ns.map D.int) vs → vs = ns.map V.int
  | [], vs, h => h
  | n :: ns, vs, h => by
    obtain ⟨x, xs, rfl, h2, h3⟩ := h
    cases (show x = _ from h2)
    rw [reps_intsV h3]
    rfl
section
variable {X : Cx} {T : TB} {W : WX} {K : PySem.W.Frag}
abbrev rMaxA (K : PySem.W.Frag) : List V → Hp → VK → Prop := fun xs H Q => (∃ i j, xs = [.int i, .int j] ∧ Q (.int (if j > i then j else i)) H) ∨ rMax K xs H Q
abbrev rMinA (K : PySem.W.Frag) : List V → Hp → VK → Prop := fun xs H Q => (∃ i j, xs = [.int i, .int j] ∧ Q (.int (if j < i then j else i)) H) ∨ rMin K xs H Q
theorem call_maxA (hc : X.calm = true) : CallR X (.builtin "max") (rMaxA X.K) := (call_max2 hc).or (cr_max hc)
theorem call_minA (hc : X.calm = true) : CallR X (.builtin "min") (rMinA X.K) := (call_min2 hc).or (cr_min hc)
theorem maxD_l : CallL K T maxD (rMaxA K) := by
  intro A S H xs vs Q st rs h
  unfold maxD at h
  split at h
  · obtain ⟨v, w, rfl, r, r'⟩ := reps2 rs
    cases (show v = _ from r)
    cases (show w = _ from r')
    exact .inl ⟨_, _, rfl, bk_i st h⟩
  · rename_i ds
    obtain ⟨v, rfl, a, ws, rfl, n1, h1, h2⟩ := reps1 rs
    split at h
    · rename_i ns e
      rw [intsOf_eq e] at h2
      rw [reps_intsV h2] at h1
      refine .inr ⟨a, ns, rfl, SqL.of h1, List.length_pos_iff.mpr h.1, fun m q1 q2 => bk_i st (h.2 m q1 q2)⟩
    · exact h.elim
  · exact h.elim
theorem minD_l : CallL K T minD (rMinA K) := by
  intro A S H xs vs Q st rs h
  unfold minD at h
  split at h
  · obtain ⟨v, w, rfl, r, r'⟩ := reps2 rs
    cases (show v = _ from r)
    cases (show w = _ from r')
    exact .inl ⟨_, _, rfl, bk_i st h⟩
  · rename_i ds
    obtain ⟨v, rfl, a, ws, rfl, n1, h1, h2⟩ := reps1 rs
    split at h
    · rename_i ns e
      rw [intsOf_eq e] at h2
      rw [reps_intsV h2] at h1
      refine .inr ⟨a, ns, rfl, SqL.of h1, List.length_pos_iff.mpr h.1, fun m q1 q2 => bk_i st (h.2 m q1 q2)⟩
    · exact h.elim
  · exact h.elim
theorem sumD_l : CallL K T sumD (rSum K) := by
  intro A S H xs vs Q st rs h
  unfold sumD at h
  split at h
  · rename_i ds
    obtain ⟨v, rfl, a, ws, rfl, n1, h1, h2⟩ := reps1 rs
    split at h
    · rename_i ns e
      rw [intsOf_eq e] at h2
      rw [reps_intsV h2] at h1
      exact ⟨a, ns, rfl, SqL.of h1, bk_i st h⟩
    · exact h.elim
  · exact h.elim
end

/-! ### slices -/
def cutD (xs : List D) (lo hi : Option Int) : List D := (xs.drop (HT.sIx xs.length 0 lo)).take (HT.sIx xs.length xs.length hi - HT.sIx xs.length 0 lo)
abbrev TOD := En → Store → (Option Int → Store → Prop) → EX → Prop
def MonoO (t : TOD) : Prop := ∀ env S Q Q' E E', (∀ d S, Q d S → Q' d S) → (∀ x S, E x S → E' x S) → t env S Q E → t env S Q' E'
def dNoP : TOD := fun _ S Q _ => Q none S
def dPart (t : TED) : TOD := fun env S Q E => t env S (fun x S1 => match x with
  | .int i => Q (some i) S1
  | _ => False) E
theorem dPart_mono {t : TED} (h : MonoE t) : MonoO (dPart t) := fun env S Q Q' E E' hq he q => h _ _ _ _ _ _ (fun x S1 h1 => by
  cases x <;> first | exact hq _ _ h1 | exact h1) he q
def sliceV (x : D) (lo hi : Option Int) (k : D → Prop) : Prop := match x with
  | .tup xs => k (.tup (cutD xs lo hi))
  | .lst xs => k (.lst (cutD xs lo hi))
  | .str z => z.length ≤ sizeLine ∧ k (.str (Txt.slice z lo hi))
  | _ => False
def dSlice (te : TED) (tl th : TOD) : TED := fun env S Q E => te env S (fun x S1 => tl env S1 (fun lo S2 => th env S2 (fun hi S3 => sliceV x lo hi fun d => Q d S3) E) E) E
theorem sliceV_mono {x : D} {lo hi : Option Int} {k k' : D → Prop} (hk : ∀ d, k d → k' d) (h : sliceV x lo hi k) : sliceV x lo hi k' := by
  cases x <;> first | exact hk _ h | exact ⟨h.1, hk _ h.2⟩ | exact h
theorem dSlice_mono {te : TED} {tl th : TOD} (h1 : MonoE te) (h2 : MonoO tl) (h3 : MonoO th) : MonoE (dSlice te tl th) := fun env S Q Q' E E' hq he q =>
  h1 _ _ _ _ _ _ (fun x S1 q1 => h2 _ _ _ _ _ _ (fun lo S2 q2 => h3 _ _ _ _ _ _ (fun hi S3 q3 => sliceV_mono (fun d hd => hq _ _ hd) q3) he q2) he q1) he q
def upO (K : PySem.W.Frag) (T : TB) (W : WX) (t : TOD) : TO := fun σ H Q => ∃ A S env, EnOk K A H σ env ∧ Stt K T A S H ∧ t env S (fun o S' => ∀ A' H', Le A H A' H' → Stt K T A' S' H' → Q o H') (BkX K T A H fun x d H' => W x d σ H')
structure POD (X : Cx) (T : TB) (W : WX) (e : Option Expr) (t : TOD) : Prop where
  po : PO X e (upO X.K T W t)
  mo : MonoO t
theorem PO.imp {X : Cx} {e : Option Expr} {t t' : TO} (h : PO X e t) (i : ∀ σ H Q, t' σ H Q → t σ H Q) : PO X e t' := ⟨fun pins s σ H Q I q => h.run pins s σ H Q I (i σ H Q q)⟩
section
variable {X : Cx} {T : TB} {W : WX} {K : PySem.W.Frag}
theorem pod_none : POD X T W none dNoP := by
  refine ⟨PO.imp po_none fun σ H Q q => ?_, fun _ _ _ _ _ _ hq _ h => hq _ _ h⟩
  obtain ⟨A, S, env, eo, st, q⟩ := q
  exact q A H (Le.refl _ _) st
theorem pod_some {e : Expr} {t : TED} (h : PD X T W e t) : POD X T W (some e) (dPart t) := by
  refine ⟨PO.imp (po_some h.pe) fun σ H Q q => ?_, dPart_mono h.mo⟩
  obtain ⟨A, S, env, eo, st, q⟩ := q
  refine ⟨A, S, env, eo, st, h.mo _ _ _ _ _ _ (fun x S1 h1 => ?_) (fun _ _ e => e) q⟩
  intro A1 H1 v l1 st1 r
  cases x with
  | int i => exact ⟨i, r, h1 A1 H1 l1 st1⟩
  | _ => exact h1.elim
theorem cut_reps {A : Ad} {H : Hp} {xs : List D} {vs : List V} (h : Reps K A H xs vs) (lo hi : Option Int) : Reps K A H (cutD xs lo hi) (cutV vs lo hi) := by
  unfold cutD cutV
  rw [h.length]
  exact (h.drop _).take _
theorem pd_slice {e : Expr} {lo hi : Option Expr} {te : TED} {tl th : TOD} {p2 pos : Pos} (he : PD X T W e te) (hl : POD X T W lo tl) (hh : POD X T W hi th) : PD X T W (.Subscript e (.Slice lo hi none p2) pos) (dSlice te tl th) := by
  refine ⟨PE.imp (L2.pe_slice ((sl_tupA.or sl_list).or C8.sl_txt) he.pe hl.po hh.po) fun σ H Q q => ?_, dSlice_mono he.mo hl.mo hh.mo⟩
  obtain ⟨A, S, env, eo, st, q⟩ := q
  refine ⟨A, S, env, eo, st, he.mo _ _ _ _ _ _ (fun x S1 h1 => ?_) (fun _ _ e => e) q⟩
  intro A1 H1 vx l1 st1 rx
  refine ⟨A1, S1, env, eo.mono l1, st1, hl.mo _ _ _ _ _ _ (fun l S2 h2 => ?_) (fun x S e => BkX.mono l1 (fun _ _ _ z => z) e) h1⟩
  intro A2 H2 l2 st2
  refine ⟨A2, S2, env, (eo.mono l1).mono l2, st2, hh.mo _ _ _ _ _ _ (fun u S3 h3 => ?_) (fun x S e => BkX.mono (l1.trans l2) (fun _ _ _ z => z) e) h2⟩
  intro A3 H3 l3 st3
  have rx3 := Rep.mono (l2.trans l3) _ _ rx
  have l13 := (l1.trans l2).trans l3
  cases x with
  | tup xs =>
    obtain ⟨a, vs, rfl, k1, k2⟩ := rx3
    refine .inl (.inl ⟨a, vs, rfl, k1.sq, fun hw => ?_, fun _ p hp => bk_tup st3 (cut_reps k2 l u) hp (Bk.mono l13 (fun _ _ z => z) h3)⟩)
    refine h3 A3 H3 _ l13 st3 ⟨a, vs, rfl, k1, ?_⟩
    have e : cutD xs l u = xs := by
      unfold cutD
      rw [k2.length, hw.1, hw.2]
      rw [List.drop_zero, ← k2.length, Nat.sub_zero, List.take_length]
    rw [e]
    exact k2
  | lst xs =>
    obtain ⟨a, vs, rfl, n1, k1, k2⟩ := rx3
    exact .inl (.inr ⟨a, vs, rfl, SqL.of k1, fun p hp => bk_lst st3 (cut_reps k2 l u) hp (Bk.mono l13 (fun _ _ z => z) h3)⟩)
  | str z => exact .inr ⟨z, rx3, h3.1, h3.2 A3 H3 _ l13 st3 rfl⟩
  | _ => exact h3.elim
end
end Fs
end
section
set_option Elab.async false
set_option linter.all false
set_option maxRecDepth 100000
set_option maxHeartbeats 4000000
namespace Fs
open PySem PySem.Spec PyProof.Rows L2 LamX

/-! ### objects that a store tells: made, changed -/
theorem tabs_updP {T : List (Addr × Str)} {H : Hp} {D : Addr} {o o' : HO} (h : H D = some o) (n : plainO o) (t : Tabs T H) : Tabs T (L2.upd H D o') := tabs_upd h (plainO_tbl n) (fun q => plainO_code n) t
section
variable {K : PySem.W.Frag} {T : TB} {A : Ad} {S : Store} {H : Hp}
theorem CellOk.plain {a : Addr} : ∀ {c : Cell}, CellOk K A H a c → ∃ o, H a = some o ∧ plainO o
  | .lst xs, ⟨vs, h1, _⟩ => ⟨_, h1, trivial⟩
  | .ins C fs, ⟨dx, vfs, h1, _⟩ => ⟨_, h1, trivial⟩
  | .dct kvs, ⟨vkvs, h1, _⟩ => ⟨_, h1, trivial⟩
theorem le_set {a : Addr} {o o' : HO} (st : Stt K T A S H) (h : H a = some o) (ha : a ∈ A.c) (no : ∀ ps, o' ≠ .tbl ps) : Le A H A (upd H a o') := by
  refine ⟨⟨fun _ _ h => h, fun a _ h n => absurd h n, fun b u e n m => ?_, fun b u e m => ?_, fun a h => h, fun a _ h n => absurd h n, rfl⟩, fun b u e n m => ?_⟩
  · have : b ≠ a := fun z => n (z ▸ st.sub a ha)
    rw [upd_ne this]; exact e
  · by_cases z : b = a
    · subst z; exact ⟨o', upd_same, no⟩
    · exact ⟨u, by rw [upd_ne z]; exact e, m⟩
  · have : b ≠ a := fun z => n (z ▸ ha)
    rw [upd_ne this]; exact e
theorem stt_set {n : Nat} {a : Addr} {o' : HO} {c' : Cell} (st : Stt K T A S H) (hn : A.c[n]? = some a) (hs : n < S.length) (hc : CellOk K A (upd H a o') a c') : Stt K T A (S.set n c') (upd H a o') := by
  have ha : a ∈ A.c := List.mem_of_getElem? hn
  obtain ⟨a', h1, h2⟩ := st.cell n _ (List.getElem?_eq_getElem hs)
  rw [hn] at h1
  cases h1
  obtain ⟨o, ho, hp⟩ := h2.plain
  have np : plainO o' := by
    obtain ⟨o2, e2, p2⟩ := hc.plain
    rw [upd_same] at e2
    cases e2
    exact p2
  have no : ∀ ps, o' ≠ .tbl ps := plainO_tbl np
  have l := le_set (o' := o') st ho ha no
  refine ⟨st.nd, by rw [List.length_set]; exact st.len, fun i c e => ?_, st.sub, fun b hb => ?_, tabs_updP ho hp st.tabs, st.bas⟩
  · by_cases hi : n = i
    · subst hi
      rw [List.getElem?_set_self hs] at e
      cases e
      exact ⟨a, hn, hc⟩
    · rw [List.getElem?_set_ne hi] at e
      obtain ⟨b, q1, q2⟩ := st.cell i c e
      refine ⟨b, q1, q2.leW l.w fun o'' e' => ?_⟩
      have : b ≠ a := fun z => by
        subst z
        obtain ⟨l1, e1⟩ := List.getElem?_eq_some_iff.mp q1
        obtain ⟨l2, e2⟩ := List.getElem?_eq_some_iff.mp hn
        exact hi ((List.getElem_inj st.nd).mp (e2.trans e1.symm))
      rw [upd_ne this]; exact e'
  · obtain ⟨o'', e', p'⟩ := st.tr b hb
    by_cases z : b = a
    · subst z; exact ⟨o', upd_same, np⟩
    · exact ⟨o'', by rw [upd_ne z]; exact e', p'⟩
/-- a new one -/
theorem le_new {p : Addr} {o : HO} (h : H p = none) (st : Stt K T A S H) : Le A H ⟨A.c ++ [p], p :: A.m, A.b⟩ (upd H p o) := by
  have hm := st.fresh h
  refine ⟨⟨fun i a e => ?_, fun a u h' n e => ?_, fun b u e n m => ?_, fun b u e m => ?_, fun a h' => List.mem_cons_of_mem _ h', fun a u h' n e => ?_, rfl⟩, fun b u e n m => ?_⟩
  · show (A.c ++ [p])[i]? = some a
    rw [List.getElem?_append_left (List.getElem?_eq_some_iff.mp e).1]
    exact e
  · rcases List.mem_cons.mp h' with q | h'
    · rw [q, h] at e; cases e
    · exact absurd h' n
  · rw [upd_ne (ne_of_none e h)]; exact e
  · exact ⟨u, by rw [upd_ne (ne_of_none e h)]; exact e, m⟩
  · rcases List.mem_append.mp h' with h' | h'
    · exact absurd h' n
    · rw [List.mem_singleton.mp h', h] at e; cases e
  · rw [upd_ne (ne_of_none e h)]; exact e
theorem stt_new {p : Addr} {o : HO} {c : Cell} (st : Stt K T A S H) (h : H p = none) (hc : CellOk K ⟨A.c ++ [p], p :: A.m, A.b⟩ (upd H p o) p c) : Stt K T ⟨A.c ++ [p], p :: A.m, A.b⟩ (S ++ [c]) (upd H p o) := by
  have l := le_new (o := o) h st
  have hm := st.fresh h
  refine ⟨?_, by rw [List.length_append, List.length_append, st.len]; rfl, fun i c' e => ?_, fun a h' => ?_, fun a h' => ?_, (st.upd h).tabs, st.bas⟩
  · show (A.c ++ [p]).Nodup
    rw [List.nodup_append]
    exact ⟨st.nd, by simp, fun a ha b hb z => by
      rw [List.mem_singleton] at hb
      subst hb
      subst z
      exact hm (st.sub _ ha)⟩
  · by_cases hi : i < S.length
    · rw [List.getElem?_append_left hi] at e
      obtain ⟨a, q1, q2⟩ := st.cell i c' e
      refine ⟨a, l.w.pre i a q1, q2.leW l.w fun o' e' => ?_⟩
      rw [upd_ne (ne_of_none e' h)]; exact e'
    · rw [List.getElem?_append_right (Nat.not_lt.mp hi)] at e
      have hi2 : i = S.length := by
        have := (List.getElem?_eq_some_iff.mp e).1
        simp at this
        omega
      subst hi2
      simp at e
      subst e
      refine ⟨p, ?_, hc⟩
      show (A.c ++ [p])[S.length]? = some p
      rw [List.getElem?_append_right (by rw [st.len]; exact Nat.le_refl _), st.len]
      simp
  · rcases List.mem_append.mp h' with h' | h'
    · exact List.mem_cons_of_mem _ (st.sub a h')
    · rw [List.mem_singleton.mp h']; exact List.mem_cons_self
  · rcases List.mem_cons.mp h' with e | h'
    · subst e
      obtain ⟨o2, e2, p2⟩ := hc.plain
      exact ⟨o2, e2, p2⟩
    · obtain ⟨o', e', p'⟩ := st.tr a h'
      exact ⟨o', by rw [upd_ne (ne_of_none e' h)]; exact e', p'⟩
theorem new_ix {p : Addr} (st : Stt K T A S H) : (⟨A.c ++ [p], p :: A.m, A.b⟩ : Ad).c[S.length]? = some p := by
  show (A.c ++ [p])[S.length]? = some p
  rw [List.getElem?_append_right (by rw [st.len]; exact Nat.le_refl _), st.len]
  simp
end
section
variable {X : Cx} {T : TB} {W : WX} {pos : Pos}
/-- a display as a new object of the store -/
def dNewL (t : TAD) : TED := fun env S Q E => t env S (fun xs S1 => xs.length ≤ sizeLine ∧ Q (.loc S1.length) (S1 ++ [.lst xs])) E
theorem pd_newL {es : List Expr} {t : TAD} (h : PAD X T W es t) : PD X T W (.List es pos) (dNewL t) := by
  refine ⟨PE.imp (pe_lst h.pa) fun σ H Q q => ?_, fun _ _ _ _ _ _ hq hE h' => h.mo _ _ _ _ _ _ (fun xs S1 h1 => ⟨h1.1, hq _ _ h1.2⟩) hE h'⟩
  obtain ⟨A, S, env, eo, st, q⟩ := q
  refine ⟨A, S, env, eo, st, h.mo _ _ _ _ _ _ (fun xs S1 h1 => ?_) (fun _ _ e => e) q⟩
  intro A1 H1 vs l1 st1 rs
  refine ⟨by rw [← rs.length]; exact h1.1, fun p hp => ?_⟩
  have l2 := le_new (o := .lst vs) hp st1
  exact h1.2 _ _ _ (l1.trans l2) (stt_new st1 hp ⟨vs, upd_same, Reps.mono l2 _ _ rs⟩) ⟨p, new_ix st1, rfl⟩
/-- the list that a store tells -/
def cellL (S : Store) (x : D) (k : Nat → List D → Prop) : Prop := match x with
  | .loc n => (match S[n]? with
    | some (.lst xs) => k n xs
    | _ => False)
  | _ => False
theorem cellL_get {S : Store} {x : D} {k : Nat → List D → Prop} (h : cellL S x k) : ∃ n xs, x = .loc n ∧ S[n]? = some (.lst xs) ∧ k n xs := by
  unfold cellL at h
  split at h
  · split at h
    · rename_i n _ xs e
      exact ⟨n, xs, rfl, e, h⟩
    · exact h.elim
  · exact h.elim
theorem cellL_mk {S : Store} {n : Nat} {xs : List D} {k : Nat → List D → Prop} (e : S[n]? = some (.lst xs)) (h : k n xs) : cellL S (.loc n) k := by
  show (match S[n]? with
    | some (.lst xs) => k n xs
    | _ => False)
  rw [e]
  exact h
theorem cellL_mono {S : Store} {x : D} {k k' : Nat → List D → Prop} (hk : ∀ n xs, k n xs → k' n xs) (h : cellL S x k) : cellL S x k' := by
  obtain ⟨n, xs, rfl, e, q⟩ := cellL_get h
  exact cellL_mk e (hk _ _ q)
/-- x.append(e), as a statement -/
def dApp (tx te : TED) : TSD := fun D env S => tx env S (fun x S1 => cellL S1 x fun _ _ => te env S1 (fun y S2 => cellL S2 x fun n xs => xs.length < sizeLine ∧ D.nx env (S2.set n (.lst (xs ++ [y])))) (fun x S1 => D.ex x env S1)) (fun x S1 => D.ex x env S1)
theorem dApp_mono {tx te : TED} (hx : MonoE tx) (h : MonoE te) : MonoS (dApp tx te) := fun D D' env S l q => hx _ _ _ _ _ _ (fun x S1 q1 => cellL_mono (fun _ _ q2 => h _ _ _ _ _ _ (fun y S2 h => cellL_mono (fun n xs h => ⟨h.1, l.nx _ _ h.2⟩) h) (fun x S h => l.ex _ _ _ h) q2) q1) (fun x S h => l.ex _ _ _ h) q
theorem Stt.loc_lst {K : PySem.W.Frag} {A : Ad} {S : Store} {H : Hp} (st : Stt K T A S H) {n : Nat} {xs : List D} {v : V} (e : S[n]? = some (.lst xs)) (r : Rep K A H (.loc n) v) : ∃ a vs, v = .ref a ∧ A.c[n]? = some a ∧ H a = some (.lst vs) ∧ Reps K A H xs vs := by
  obtain ⟨a, ea, rfl⟩ := r
  obtain ⟨a', vs, h1, h2, h3⟩ := st.lst e
  rw [ea] at h1
  cases h1
  exact ⟨a, vs, rfl, ea, h2, h3⟩
theorem lt_of_some {α : Type} {l : List α} {n : Nat} {x : α} (h : l[n]? = some x) : n < l.length := (List.getElem?_eq_some_iff.mp h).1
theorem psd_app {o e : Expr} {tx te : TED} {apos cpos pos : Pos} (ho : PD X T W o tx) (he : PD X T W e te) (hb : attributeBase o "append" X.env (eval o X.env) = eval o X.env) (hl : (apos.endLine == cpos.line) = true) (hs : starEach [e] X.env = [(false, eval e X.env)]) :
    PSD X T W (.Expr (.Call (.Attribute o "append" apos) [e] [] cpos) pos) (dApp tx te) := by
  refine ⟨PS.imp (ps_expr (pe_bm PySem.F.plainAttrs_list PySem.F.slot_list_append PySem.F.type_list_append (X := X) mt_append ho.pe (pa_cons he.pe pa_nil hs) hb (by rw [hs]; rfl) hl hs rfl) rfl) fun D σ H q => ?_, dApp_mono ho.mo he.mo⟩
  obtain ⟨A, S, env, eo, st, q⟩ := q
  refine ⟨A, S, env, eo, st, ho.mo _ _ _ _ _ _ (fun x S1 h1 => ?_) (fun x S1 h1 A' H' l st => h1 A' H' σ l st (eo.mono l)) q⟩
  intro A1 H1 vx l1 st1 rx
  obtain ⟨n, xs, rfl, e1, q1⟩ := cellL_get h1
  obtain ⟨a, vs, rfl, ea, h2, h3⟩ := st1.loc_lst e1 rx
  refine ⟨.inl ⟨rfl, vs, SqL.of h2⟩, A1, S1, env, eo.mono l1, st1, he.mo _ _ _ _ _ _ (fun y S2 h4 => ?_) (fun x S e A' H' l st => e A' H' σ (l1.trans l) st ((eo.mono l1).mono l)) q1⟩
  intro A2 H2 vy l2 st2 ry
  obtain ⟨n', ys, en, e2, hz, q2⟩ := cellL_get h4
  cases en
  have rx2 := Rep.mono l2 _ _ rx
  obtain ⟨a', ws, ev, ea2, k2, k3⟩ := st2.loc_lst e2 rx2
  cases ev
  have l3 := le_set (o' := .lst (ws ++ [vy])) st2 k2 (List.mem_of_getElem? ea2) (fun ps z => by cases z)
  refine ⟨a, ws, vy, rfl, rfl, k2, by rw [← k3.length]; exact hz, ?_⟩
  exact q2 A2 _ σ ((l1.trans l2).trans l3) (stt_set st2 ea2 (lt_of_some e2) ⟨_, upd_same, Reps.mono l3 _ _ (Reps.snoc k3 ry)⟩) (((eo.mono l1).mono l2).mono l3)
/-- x[i] = e -/
def dSetIx (te tx ti : TED) : TSD := fun D env S => te env S (fun y S1 => tx env S1 (fun x S2 => ti env S2 (fun i S3 => cellL S3 x fun n xs => match i with
  | .int i => (match ixN xs.length i with
    | some j => D.nx env (S3.set n (.lst (xs.set j y)))
    | none => False)
  | _ => False) (fun x S1 => D.ex x env S1)) (fun x S1 => D.ex x env S1)) (fun x S1 => D.ex x env S1)
theorem dSetIx_mono {te tx ti : TED} (he : MonoE te) (hx : MonoE tx) (hi : MonoE ti) : MonoS (dSetIx te tx ti) := fun D D' env S l q => he _ _ _ _ _ _ (fun y S1 q1 => hx _ _ _ _ _ _ (fun x S2 q2 => hi _ _ _ _ _ _ (fun i S3 q3 => cellL_mono (fun n xs h => by
  cases i with
  | int i =>
    revert h
    show (match ixN xs.length i with | some j => D.nx env (S3.set n (.lst (xs.set j y))) | none => False) → (match ixN xs.length i with | some j => D'.nx env (S3.set n (.lst (xs.set j y))) | none => False)
    cases ixN xs.length i with
    | none => exact fun h => h
    | some j => exact fun h => l.nx _ _ h
  | _ => exact h) q3) (fun x S h => l.ex _ _ _ h) q2) (fun x S h => l.ex _ _ _ h) q1) (fun x S h => l.ex _ _ _ h) q
theorem Reps.set {K : PySem.W.Frag} {A : Ad} {H : Hp} : ∀ {ds : List D} {vs : List V} {d : D} {v : V} (j : Nat), Reps K A H ds vs → Rep K A H d v → Reps K A H (ds.set j d) (vs.set j v)
  | [], vs, d, v, j, h, r => by
    cases (show vs = [] from h)
    exact rfl
  | x :: ds, vs, d, v, 0, h, r => by
    obtain ⟨y, ys, rfl, h2, h3⟩ := h
    exact ⟨v, ys, rfl, r, h3⟩
  | x :: ds, vs, d, v, j + 1, h, r => by
    obtain ⟨y, ys, rfl, h2, h3⟩ := h
    exact ⟨y, ys.set j v, rfl, h2, Reps.set j h3 r⟩
theorem psd_setIx {o i e : Expr} {te tx ti : TED} {p2 pos : Pos} (he : PD X T W e te) (ho : PD X T W o tx) (hi : PD X T W i ti) (hs : swapsWithSole [.Subscript o i p2] e pos.line X.env = pure false) (hw : swappedStores [.Subscript o i p2] e X.env = pure none)
    (ha : ∀ v, assign (.Subscript o i p2) X.env v = (do
      let ov ← holding [v] (eval o X.env)
      let iv ← holding [v, ov] (eval i X.env)
      standAt p2
      holding [v, ov, iv] (setItem ov iv v)
      release [v, ov, iv] [])) : PSD X T W (.Assign [.Subscript o i p2] e pos) (dSetIx te tx ti) := by
  refine ⟨PS.imp (ps_asg he.pe (pg_sub ho.pe hi.pe set_list ha) hs hw rfl) fun D σ H q => ?_, dSetIx_mono he.mo ho.mo hi.mo⟩
  obtain ⟨A, S, env, eo, st, q⟩ := q
  refine ⟨A, S, env, eo, st, he.mo _ _ _ _ _ _ (fun y S1 h1 => ?_) (fun x S1 h1 A' H' l st => h1 A' H' σ l st (eo.mono l)) q⟩
  intro A1 H1 vy l1 st1 ry
  refine ⟨A1, S1, env, eo.mono l1, st1, ho.mo _ _ _ _ _ _ (fun x S2 h2 => ?_) (fun x S e A' H' l st => e A' H' σ (l1.trans l) st ((eo.mono l1).mono l)) h1⟩
  intro A2 H2 vx l2 st2 rx
  refine ⟨A2, S2, env, (eo.mono l1).mono l2, st2, hi.mo _ _ _ _ _ _ (fun i S3 h3 => ?_) (fun x S e A' H' l st => e A' H' σ ((l1.trans l2).trans l) st (((eo.mono l1).mono l2).mono l)) h2⟩
  intro A3 H3 vi l3 st3 ri
  obtain ⟨n, xs, rfl, e3, q3⟩ := cellL_get h3
  cases i with
  | int i =>
    have ei : vi = .int i := ri
    have q4 : (match ixN xs.length i with | some j => (upD X.K T W A H D).nx env (S3.set n (.lst (xs.set j y))) | none => False) := q3
    cases ej : ixN xs.length i with
    | none => rw [ej] at q4; exact q4.elim
    | some j =>
      rw [ej] at q4
      obtain ⟨a, vs, rfl, ea, k2, k3⟩ := st3.loc_lst e3 (Rep.mono l3 _ _ rx)
      have l4 := le_set (o' := .lst (vs.set j vy)) st3 k2 (List.mem_of_getElem? ea) (fun ps z => by cases z)
      refine ⟨a, vs, i, j, rfl, ei, k2, by rw [← k3.length]; exact ej, ?_⟩
      have ry3 := Rep.mono ((l2.trans l3).trans l4) _ _ ry
      exact q4 A3 _ σ (((l1.trans l2).trans l3).trans l4) (stt_set st3 ea (lt_of_some e3) ⟨_, upd_same, Reps.set j (Reps.mono l4 _ _ k3) ry3⟩) ((((eo.mono l1).mono l2).mono l3).mono l4)
  | _ => exact q3.elim
end
end Fs
end
section
set_option Elab.async false
set_option linter.all false
set_option maxRecDepth 100000
set_option maxHeartbeats 4000000
namespace Fs
open PySem PySem.Spec PyProof.Rows L2 LamX

/-! ### t[::-1], t a tuple -/
section
variable {prog : Program} {w : World} {A : Around} {E : Value → Shared → Prop} {s : Shared}
theorem adjust_rev (n : Nat) : Builtin.Slice.sliceAdjust none none (-1) (n : Int) = ((n : Int) - 1, -1) := by
  unfold Builtin.Slice.sliceAdjust
  rfl
theorem places_rev (n : Nat) : Builtin.Slice.slicePlaces ((n : Int) - 1) (-1) (-1) = n := by
  unfold Builtin.Slice.slicePlaces
  have h1 : ¬ ((-1 : Int) > 0) := by decide
  simp only [h1, if_false]
  split
  · have e : (- -1 : Int) = 1 := by decide
    rw [e, Int.ediv_one]; omega
  · omega
theorem sliceApplied_rev {sl : Addr} {vs : Value} {n : Nat} {Q : Int × Int × Nat → Shared → Prop} (hs : s.heap.IsSliceOf sl .none .none vs) (pl : IsPart vs (some (-1)))
    (h : Q ((n : Int) - 1, -1, n) s) : wpAny (model prog w) A (Builtin.Slice.sliceApplied (.ref sl) (pure (n : Int))) Q E s := by
  obtain ⟨os, hos, hcs, hds⟩ := id hs
  unfold Builtin.Slice.sliceApplied Builtin.Slice.sliceFields
  refine wpAny_bind (wpAny_bind (wpAny_field hos hds (x := .none) rfl (wpAny_bind (wpAny_field hos hds (x := .none) rfl (wpAny_bind (wpAny_field hos hds (x := vs) rfl (wpAny_pure ?_)))))))
  refine wpAny_bind (HT.slicePart_ pl ?_)
  show wpAny _ _ (if ((-1 : Int) == 0) = true then _ else _) _ _ s
  rw [if_neg (by decide)]
  refine wpAny_bind (slicePart_none (wpAny_bind (slicePart_none (wpAny_bind (wpAny_pure ?_)))))
  show wpAny _ _ (match Builtin.Slice.sliceAdjust none none (-1) (n : Int) with | (lo, hi) => pure (lo, (-1 : Int), Builtin.Slice.slicePlaces lo hi (-1))) _ _ s
  rw [adjust_rev n]
  show wpAny _ _ (pure (((n : Int) - 1), (-1 : Int), Builtin.Slice.slicePlaces ((n : Int) - 1) (-1) (-1))) _ _ s
  rw [places_rev]
  exact wpAny_pure h
theorem pick_rev (xs : Array Value) : ((List.range xs.size).filterMap fun (m : Nat) => xs[(((xs.size : Int) - 1) + (m : Int) * (-1)).toNat]?).toArray = xs.toList.reverse.toArray := by
  congr 1
  apply List.ext_getElem?
  intro i
  have e : ((List.range xs.size).filterMap fun (m : Nat) => xs[(((xs.size : Int) - 1) + (m : Int) * (-1)).toNat]?) = (List.range xs.size).pmap (fun m (h : m < xs.size) => xs[xs.size - 1 - m]) (fun m h => List.mem_range.mp h) := by
    have : ∀ (l : List Nat) (hl : ∀ m ∈ l, m < xs.size), (l.filterMap fun (m : Nat) => xs[(((xs.size : Int) - 1) + (m : Int) * (-1)).toNat]?) = l.pmap (fun m (h : m < xs.size) => xs[xs.size - 1 - m]) hl := by
      intro l
      induction l with
      | nil => intro _; rfl
      | cons a l ih =>
        intro hl
        have ha := hl a List.mem_cons_self
        have hx : xs[(((xs.size : Int) - 1) + (a : Int) * (-1)).toNat]? = some xs[xs.size - 1 - a] := by
          have : (((xs.size : Int) - 1) + (a : Int) * (-1)).toNat = xs.size - 1 - a := by omega
          rw [this]
          exact Array.getElem?_eq_getElem (by omega)
        rw [List.filterMap_cons, hx, List.pmap_cons, ih fun m hm => hl m (List.mem_cons_of_mem _ hm)]
    exact this _ _
  rw [e]
  by_cases hi : i < xs.size
  · rw [List.getElem?_eq_getElem (by simp; exact hi), List.getElem?_eq_getElem (by simp; exact hi)]
    simp
  · rw [List.getElem?_eq_none (by simp; omega), List.getElem?_eq_none (by simp; omega)]
theorem getItem_tuple_rev {t sl : Addr} {items : Array Value} {vs : Value} {Q : Value → Shared → Prop} (ht : IsTup s.heap t items) (hs : s.heap.IsSliceOf sl .none .none vs) (pl : IsPart vs (some (-1)))
    (h : Q (.ref s.heap.objs.size) { s with heap := s.heap.push { cls := .type "tuple", data := .seq items.toList.reverse.toArray } })
    (hsz : items.size ≤ sizeLine) : wpAny (model prog w) A (getItem (.ref t) (.ref sl)) Q E s := by
  have htake : sizeOk (.seq items.toList.reverse.toArray) := by
    show items.toList.reverse.toArray.size ≤ sizeLine
    rw [List.size_toArray, List.length_reverse, Array.length_toList]
    exact hsz
  obtain ⟨os, hos, hcs, hds⟩ := id hs
  have hTs : s.TypeIs (.ref sl) "slice" := ⟨os, hos, hcs⟩
  unfold getItem
  try with_reducible refine wpAny_holding ?_
  first | refine wpAny_bind (wpAny_pure ?_) | skip
  refine wpAny_bind (wpAny_sequenceKey ht.typeIs (by decide) ?_)
  refine wpAny_bind (wpAny_callSpecial?_slot (name := Str.ofString "__getitem__") ht.typeIs PyProof.Rows.slot_tuple_getitem
    (wpAny_call_entry PyProof.Rows.slot_tuple_getitem ht.typeIs entry_tuple_getitem ?_ (args_tuple_getitem _ _)))
  show wpAny _ _ (Builtin.Tuple.tupleItemsOf (.ref t) >>= _) _ _ s
  refine wpAny_bind (tupleItemsOf_ ht ?_)
  refine wpAny_bind (wpAny_typeOf hTs ?_)
  rw [if_pos (by decide)]
  refine wpAny_bind (sliceApplied_rev hs pl ?_)
  have hno : ¬ (((((items.size : Int) - 1)) == 0 && (-1 : Int) == 1 && items.size == items.size) = true) := by simp
  show wpAny _ _ (if ((((items.size : Int) - 1)) == 0 && (-1 : Int) == 1 && items.size == items.size) = true then _ else _) _ _ s
  rw [if_neg hno, pick_rev]
  first
    | exact wpAny_bind (m := Builtin.Tuple.tupleExact _) (wpAny_newObj_type (wpAny_pure ⟨_, rfl, wpAny_pure h⟩) htake)
    | exact wpAny_bind (m := Builtin.Tuple.tupleExact _) (wpAny_newObj_type (wpAny_bind (wpAny_pure (wpAny_pure ⟨_, rfl, wpAny_pure h⟩))) htake)
    | exact wpAny_bind (wpAny_bind (m := Builtin.Tuple.tupleExact _) (wpAny_newObj_type (wpAny_pure (wpAny_pure ⟨_, rfl, wpAny_pure h⟩)) htake))
    | exact wpAny_bind (wpAny_bind (m := Builtin.Tuple.tupleExact _) (wpAny_newObj_type (wpAny_pure ⟨_, rfl, wpAny_pure h⟩) htake))
end
section
variable {X : Cx} {T : TB} {W : WX}
def tRevT (K : PySem.W.Frag) (te : TE) : TE := fun σ H Q => te σ H fun x H1 => ∃ a xs, x = .ref a ∧ SqT K H1 a xs ∧ ∀ p, H1 p = none → Q (.ref p) (upd H1 p (.tup xs.reverse))
theorem pe_revT {e : Expr} {te : TE} {k : Nat} {p1 p2 p3 pos : Pos} (he : PE X e te) : PE X (.Subscript e (.Slice none none (some (.UnaryOp .USub (.Constant (.int 1) k p1) p2)) p3) pos) (tRevT X.K te) := by
  refine ⟨fun pins s σ H Q I h => ?_⟩
  refine Subscript_ (thn (he.run pins s σ H _ I h) fun v s1 ⟨x, H1, I1, r1, q1⟩ => ?_)
  obtain ⟨a, xs, ex, hx, q⟩ := q1
  subst ex
  cases r1
  have hst : PO X (some (.UnaryOp .USub (.Constant (.int 1) k p1) p2)) (tPart (tUn (rU fun i => .int (-i)) (tC (.int 1)))) := po_some (pe_un un_neg pe_int)
  refine wpAny_Slice (thn (po_none.run pins s1 σ H1 (fun o H2 => o = none ∧ H2 = H1) I1 ⟨rfl, rfl⟩) fun vl s2 ⟨l, H2, I2, pl, el, e2⟩ => ?_)
  subst el e2
  refine thn (po_none.run pins s2 σ H2 (fun o H3 => o = none ∧ H3 = H2) I2 ⟨rfl, rfl⟩) fun vu s3 ⟨u, H3, I3, pu, eu, e3⟩ => ?_
  subst eu e3
  refine thn (hst.run pins s3 σ H3 (fun o H4 => o = some (-1) ∧ H4 = H3) I3 ⟨1, rfl, -1, rfl, rfl, rfl⟩) fun vs s4 ⟨o, H4, I4, ps, eo, e4⟩ => ?_
  subst eo e4
  have I5 : Inv X pins σ H4 { s4 with heap := s4.heap.push { cls := .type "slice", data := .fields #[vl, vu, vs] } } := I4.kept (t' := s4.toks) fun b ob q => Heap.get?_push_of_some _ q
  obtain ⟨its, r, ht, hz⟩ := I5.tuple hx
  cases pl
  cases pu
  show wpAny (model X.prog X.w) X.A (subscriptTail e (.Slice none none (some (.UnaryOp .USub (.Constant (.int 1) k p1) p2)) p3) (.ref a) (.ref s4.heap.objs.size)) (EP X pins σ Q) X.xe { s4 with heap := s4.heap.push { cls := .type "slice", data := .fields #[.none, .none, vs] } }
  refine tail_any (ops := [.ref a, .ref s4.heap.objs.size]) ht.typeIs PyProof.Rows.slot_tuple_getitem.lookup ?_ (by with_unfolding_all rfl)
  refine getItem_tuple_rev ht (Heap.IsSliceOf.new _ .none .none vs) ps ?_ (by rw [List.size_toArray, ← r.length]; exact hz)
  refine ⟨.ref _, _, I5.laid (t' := s4.toks) (o := .tup xs.reverse) (fun b ob q => Heap.get?_push_of_some _ q) (Nat.le_refl _) ?_, rfl, q _ (I5.hok.fresh (Nat.le_refl _))⟩
  exact ⟨by rw [List.length_reverse]; exact hz, _, r.reverse, IsTup.new _ _⟩
def dRev (te : TED) : TED := fun env S Q E => te env S (fun x S1 => match x with
  | .tup xs => Q (.tup xs.reverse) S1
  | _ => False) E
theorem dRev_mono {te : TED} (h : MonoE te) : MonoE (dRev te) := fun env S Q Q' E E' hq he q => h _ _ _ _ _ _ (fun x S1 h1 => by
  cases x with
  | tup xs => exact hq _ _ h1
  | _ => exact h1) he q
theorem pd_rev {e : Expr} {te : TED} {k : Nat} {p1 p2 p3 pos : Pos} (he : PD X T W e te) : PD X T W (.Subscript e (.Slice none none (some (.UnaryOp .USub (.Constant (.int 1) k p1) p2)) p3) pos) (dRev te) := by
  refine ⟨PE.imp (pe_revT he.pe) fun σ H Q q => ?_, dRev_mono he.mo⟩
  obtain ⟨A, S, env, eo, st, q⟩ := q
  refine ⟨A, S, env, eo, st, he.mo _ _ _ _ _ _ (fun x S1 h1 => ?_) (fun _ _ e => e) q⟩
  intro A1 H1 vx l1 st1 rx
  cases x with
  | tup xs =>
    obtain ⟨a, vs, rfl, k1, k2⟩ := rx
    exact ⟨a, vs, rfl, k1.sq, fun p hp => bk_tup st1 (Reps.reverse k2) hp (Bk.mono l1 (fun _ _ z => z) h1)⟩
  | _ => exact h1.elim
end
end Fs
end
section
set_option Elab.async false
set_option linter.all false
set_option maxRecDepth 100000
set_option maxHeartbeats 4000000
namespace Fs
open PySem PySem.Spec PyProof.Rows L2 LamX

/-! ### sorted(list of whole numbers), len(set(list of whole numbers)) -/
def sortedD : CallO := fun xs S k => match xs with
  | [.lst ds] => (match intsOf ds with
    | some ns => ∀ ns' : List Int, ns'.Perm ns → ns'.Pairwise (· ≤ ·) → k (.lst (ns'.map D.int))
    | none => False)
  | _ => False
theorem sortedD_mono : MonoC sortedD := by
  intro xs S k k' hk h
  unfold sortedD at h ⊢
  split at h
  · split at h
    · exact fun ns' h1 h2 => hk _ (h ns' h1 h2)
    · exact h
  · exact h
theorem sortedD_l {K : PySem.W.Frag} {T : TB} : CallL K T sortedD (rSortedI K) := by
  intro A S H xs vs Q st rs h
  unfold sortedD at h
  split at h
  · rename_i ds
    split at h
    · rename_i ns e
      obtain ⟨v, rfl, a, ws, rfl, n1, h1, h2⟩ := reps1 rs
      have ed := intsOf_eq e
      subst ed
      have ev := reps_intsV h2
      subst ev
      exact ⟨a, ns, rfl, SqL.of h1, fun ns' p h3 h4 hp => bk_lst st (reps_ints ns') hp (h ns' h3 h4)⟩
    · exact h.elim
  · exact h.elim
end Fs
end
section
set_option Elab.async false
set_option linter.all false
set_option maxRecDepth 100000
set_option maxHeartbeats 4000000
namespace Fs
open PySem PySem.Spec PyProof.Rows L2 LamX

/-! ### methods of texts -/
def MtL (K : PySem.W.Frag) (T : TB) (f : OpD) (r : V → List V → Hp → VK → Prop) : Prop := ∀ A S H x y vx vy (Q : VK), Stt K T A S H → Rep K A H x vx → Rep K A H y vy → f x y S (fun d => Bk K T A H Q d S) → r vx [vy] H Q
def dM1 (f : OpD) (to te : TED) : TED := fun env S Q E => to env S (fun x S1 => (∃ a, x = .str a) ∧ te env S1 (fun y S2 => f x y S2 fun d => Q d S2) E) E
theorem dM1_mono {f : OpD} {ta tb : TED} (hf : MonoOp f) (ha : MonoE ta) (hb : MonoE tb) : MonoE (dM1 f ta tb) := fun env S Q Q' E E' hq he h =>
  ha _ _ _ _ _ _ (fun x S1 h1 => ⟨h1.1, hb _ _ _ _ _ _ (fun y S2 h2 => hf _ _ _ _ _ (fun d hd => hq _ _ hd) h2) he h1.2⟩) he h
theorem up_m1 {K : PySem.W.Frag} {T : TB} {W : WX} {f : OpD} {r : V → List V → Hp → VK → Prop} {ta tb : TED} (hl : MtL K T f r) (hf : MonoOp f) (ha : MonoE ta) (hb : MonoE tb) {σ : L2.St} {H : Hp} {Q : VK} (h : upE K T W (dM1 f ta tb) σ H Q) : tM1 r (upE K T W ta) (upE K T W tb) σ H Q := by
  obtain ⟨A, S, env, eo, st, h⟩ := h
  refine ⟨A, S, env, eo, st, ha _ _ _ _ _ _ (fun x S1 h1 => ?_) (fun _ _ e => e) h⟩
  obtain ⟨⟨a, ea⟩, h1⟩ := h1
  subst ea
  intro A1 H1 vx l1 st1 rx
  have evx : vx = V.str a := rx
  refine ⟨⟨a, evx⟩, A1, S1, env, eo.mono l1, st1, hb _ _ _ _ _ _ (fun y S2 h2 => ?_) (fun x S e => BkX.mono l1 (fun _ _ _ z => z) e) h1⟩
  intro A2 H2 vy l2 st2 ry
  exact hl A2 S2 H2 _ y vx vy Q st2 (Rep.mono l2 _ _ rx) ry (hf _ _ _ _ _ (fun d hd => Bk.mono (l1.trans l2) (fun _ _ z => z) hd) h2)
def splitD : OpD := fun x y _ k => match x, y with
  | .str a, .str b => (b.length == 0) = false ∧ a.length + 2 ≤ sizeLine ∧ k (.lst ((Txt.split a b).map D.str))
  | _, _ => False
theorem splitD_mono : MonoOp splitD := by
  intro x y S k k' hk h
  unfold splitD at h ⊢
  split at h
  · exact ⟨h.1, h.2.1, hk _ h.2.2⟩
  · exact h.elim
theorem reps_strs {K : PySem.W.Frag} {A : Ad} {H : Hp} : ∀ xs : List Str, Reps K A H (xs.map D.str) (xs.map V.str)
  | [] => rfl
  | x :: xs => ⟨_, _, rfl, rfl, reps_strs xs⟩
def strsOf : List D → Option (List Str)
  | [] => some []
  | .str x :: r => (strsOf r).map (x :: ·)
  | _ => none
theorem reps_strsOf {K : PySem.W.Frag} {A : Ad} {H : Hp} : ∀ {ds : List D} {vs : List V} {ys : List Str}, strsOf ds = some ys → Reps K A H ds vs → vs = ys.map V.str
  | [], vs, ys, e, h => by cases e; exact h
  | d :: ds, vs, ys, e, h => by
    obtain ⟨x, xs, rfl, h2, h3⟩ := h
    cases d with
    | str a =>
      rw [strsOf] at e
      cases er : strsOf ds with
      | none => rw [er] at e; cases e
      | some r =>
        rw [er] at e
        cases e
        rw [reps_strsOf er h3]
        have ex : x = V.str a := h2
        rw [ex]
        rfl
    | _ => cases e
def joinD : OpD := fun x y _ k => match x, y with
  | .str a, .lst ds => (match strsOf ds with
    | some ys => (ys.map (·.length)).sum + ys.length * a.length ≤ 16777216 ∧ k (.str (Txt.join a ys))
    | none => False)
  | .str a, .tup ds => (match strsOf ds with
    | some ys => (ys.map (·.length)).sum + ys.length * a.length ≤ 16777216 ∧ k (.str (Txt.join a ys))
    | none => False)
  | _, _ => False
theorem joinD_mono : MonoOp joinD := by
  intro x y S k k' hk h
  unfold joinD at h ⊢
  split at h
  · split at h
    · exact ⟨h.1, hk _ h.2⟩
    · exact h.elim
  · split at h
    · exact ⟨h.1, hk _ h.2⟩
    · exact h.elim
  · exact h.elim
section
variable {X : Cx} {T : TB} {W : WX} {o e : Expr} {to te : TED} {apos pos : Pos}
theorem pd_split (ho : PD X T W o to) (he : PD X T W e te) (hs : starEach [e] X.env = [(false, eval e X.env)]) (hbase : attributeBase o "split" X.env (eval o X.env) = eval o X.env) (hline : (apos.endLine == pos.line) = true) :
    PD X T W (.Call (.Attribute o "split" apos) [e] [] pos) (dM1 splitD to te) := by
  refine ⟨PE.imp (pe_split ho.pe he.pe hs hbase hline) fun σ H Q q => up_m1 ?_ splitD_mono ho.mo he.mo q, dM1_mono splitD_mono ho.mo he.mo⟩
  intro A S H x y vx vy Q st rx ry h
  unfold splitD at h
  split at h
  · rename_i a b
    have e1 : vx = V.str a := rx
    have e2 : vy = V.str b := ry
    subst e1 e2
    refine ⟨a, b, rfl, rfl, h.1, h.2.1, fun p hp => ?_⟩
    exact h.2.2 A _ _ (Le.upd hp) (st.upd hp) ⟨p, _, rfl, st.fresh hp, upd_same, reps_strs _⟩
  · exact h.elim
theorem pd_join (ho : PD X T W o to) (he : PD X T W e te) (hs : starEach [e] X.env = [(false, eval e X.env)]) (hbase : attributeBase o "join" X.env (eval o X.env) = eval o X.env) (hline : (apos.endLine == pos.line) = true) :
    PD X T W (.Call (.Attribute o "join" apos) [e] [] pos) (dM1 joinD to te) := by
  refine ⟨PE.imp (pe_join ho.pe he.pe hs hbase hline) fun σ H Q q => up_m1 ?_ joinD_mono ho.mo he.mo q, dM1_mono joinD_mono ho.mo he.mo⟩
  intro A S H x y vx vy Q st rx ry h
  unfold joinD at h
  split at h
  · rename_i a ds
    split at h
    · rename_i ys e1
      have e2 : vx = V.str a := rx
      subst e2
      obtain ⟨p, vs, rfl, n1, h2, h3⟩ := ry
      have e3 := reps_strsOf e1 h3
      subst e3
      exact ⟨a, p, ys, rfl, rfl, .inl (SqL.of h2), h.1, h.2 A H _ (Le.refl _ _) st rfl⟩
    · exact h.elim
  · rename_i a ds
    split at h
    · rename_i ys e1
      have e2 : vx = V.str a := rx
      subst e2
      obtain ⟨p, vs, rfl, h2, h3⟩ := ry
      have e3 := reps_strsOf e1 h3
      subst e3
      exact ⟨a, p, ys, rfl, rfl, .inr h2.sq, h.1, h.2 A H _ (Le.refl _ _) st rfl⟩
    · exact h.elim
  · exact h.elim
end
end Fs
end
section
set_option Elab.async false
set_option linter.all false
set_option maxRecDepth 100000
set_option maxHeartbeats 4000000
namespace Fs
open PySem PySem.Spec PyProof.Rows L2 LamX HotX L2H

/-! ### zip of two lists of one length, while an exception is handled -/
section
variable {prog : Program} {w : World} {A : Around} {E : Value → Shared → Prop} {s : Shared}
/-- a list's iterator at its end -/
theorem nextOf_end_hot {x1 j l : Addr} {i : Nat} {items : Array Value} {Q : Value → Shared → Prop} (hot : HotAt A x1 s.heap) (hx1 : x1 ≠ j) (hit : s.heap.IsListIter j l i) (hl : s.heap.IsList l items) (hx : items[i]? = none)
    (hE : ∀ h' e, Heap.ExtBut j s.heap h' → (∃ o, h'.get? e = some o ∧ o.cls = .type "StopIteration") → E (.ref e) { s with heap := h' }) : wpAny (model prog w) A (Builtin.SmallTypes.nextOf (.ref j)) Q E s := by
  obtain ⟨o, ho, hc, hd⟩ := id hit
  obtain ⟨ol, hol, _, nl, hdl⟩ := hl
  obtain ⟨hh, o1, vs1, g1, d1, c1⟩ := hot
  unfold Builtin.SmallTypes.nextOf
  refine wpAny_bind (wpAny_callSpecial?_slot (name := Str.ofString "__next__") hit.typeIs slot_listiter_next (wpAny_call_entry slot_listiter_next hit.typeIs entry_listiter_next ?_ (args_listiter_next _)))
  show wpAny _ _ (field (.ref j) 0 >>= _) _ _ s
  refine wpAny_bind (wpAny_field ho hd (x := .ref l) rfl ?_)
  show wpAny _ _ (if (Value.ref l == Value.none) = true then _ else _) _ _ s
  rw [if_neg (show ¬ ((Value.ref l == Value.none) = true) from Bool.false_ne_true)]
  show wpAny _ _ (field (.ref j) 1 >>= _) _ _ s
  refine wpAny_bind (wpAny_field ho hd (x := .int i 0) rfl (?_))
  show wpAny _ _ (seqItems? (.ref l) >>= _) _ _ s
  refine wpAny_bind (wpAny_seqItems hol hdl (?_))
  simp only [Int.toNat_natCast, hx]
  refine wpAny_bind (wpAny_rule (wpAny_bind (wpAny_setField ho hd (by simp) (?_))))
  show wpAny _ _ (newExc (.type "StopIteration") [] >>= _) _ _ _
  refine wpAny_bind (?_)
  simp only [newExc, newTuple]
  refine wpAny_bind (wpAny_newObj_type (?_) (by size_fits))
  refine wpAny_bind (m := firstArgMember _ _) (wpAny_of_eq (a := Value.none) (by first | rfl | (simp only [firstArgMember]; rfl)) (?_))
  refine wpAny_newObj_type (?_) (by size_fits)
  have g2 := Heap.get?_push_of_some { cls := .type "tuple", dict := none, data := .seq ([] : List Value).toArray } ((Heap.get?_update_other s.heap (Obj.mapFields (·.setIfInBounds 0 .none)) (Ne.symm hx1)).trans g1)
  refine raiseNew_hot (x1 := x1) ⟨hh, o1, vs1, Heap.get?_push_of_some _ g2, d1, c1⟩ (Nat.ne_of_lt (Heap.lt_size g2)) (Heap.get?_push_size _ rfl) rfl (by first | (simp; done) | (simp; omega) | (simp only [Array.size_append]; simp; omega)) ?_
  refine hE _ _ (fun b ob nb e => ?_) ⟨_, Heap.get?_update_self _ (Heap.get?_push_size _ rfl) rfl, rfl⟩
  have e2 := Heap.get?_push_of_some { cls := .type "tuple", dict := none, data := .seq ([] : List Value).toArray } ((Heap.get?_update_other s.heap (Obj.mapFields (·.setIfInBounds 0 .none)) (Ne.symm nb)).trans e)
  rw [Heap.get?_update_other _ _ (Nat.ne_of_gt (Heap.lt_size e2))]
  exact Heap.get?_push_of_some _ e2
theorem pyNext_zip_end_hot {x1 z TI TO i1 i2 l1 l2 : Addr} {k1 : Nat} {xs : Array Value} {a b : Value} {Q : Option Value → Shared → Prop} (hot : HotAt A x1 s.heap) (nz : x1 ≠ z) (n1 : x1 ≠ i1) (D : ZipApart z TI TO i1 i2 l1 l2)
    (hz : IsZip s.heap z TI TO .none) (hTI : IsPair s.heap TI (.ref i1) (.ref i2)) (hTO : IsPair s.heap TO a b) (h1 : s.heap.IsListIter i1 l1 k1) (hl1 : s.heap.IsList l1 xs) (hend : xs[k1]? = none)
    (hQ : ∀ h', (∀ c o, c ≠ z → c ≠ TO → c ≠ i1 → c ≠ i2 → s.heap.get? c = some o → h'.get? c = some o) → Q none { s with heap := h' }) : wpAny (model prog w) A (pyNext (.ref z)) Q E s := by
  have hT : s.TypeIs (.ref z) "zip" := ⟨_, hz, rfl⟩
  obtain ⟨hh, o1, vs1, g1, d1, c1⟩ := hot
  unfold pyNext
  refine wpAny_bind (wpAny_attempt (wpAny_callSpecial?_slot (name := Str.ofString "__next__") hT F.slot_zip_next (wpAny_call_entry F.slot_zip_next hT F.entry_zip_next ?_ (F.args_zip_next_1 _))))
  show wpAny _ _ (field (.ref z) 2 >>= _) _ _ _
  refine wpAny_bind (wpAny_field hz rfl (x := .bool false) rfl ?_)
  show wpAny _ _ (field (.ref z) 3 >>= _) _ _ _
  refine wpAny_bind (wpAny_field hz rfl (x := .ref TI) rfl ?_)
  refine wpAny_bind (wpAny_seqItems hTI rfl ?_)
  show wpAny _ _ (Builtin.SmallTypes.ownedTupleIsFree (.ref z) >>= _) _ _ _
  refine wpAny_bind ?_
  unfold Builtin.SmallTypes.ownedTupleIsFree
  refine wpAny_bind (wpAny_field hz rfl (x := .none) rfl (wpAny_pure ?_))
  simp only [if_true]
  refine wpAny_bind (wpAny_rule ?_)
  refine wpAny_bind (wpAny_field hz rfl (x := .ref TO) rfl ?_)
  refine wpAny_bind (wpAny_setField_rec hz (by simp) fun ha hza hsa => ?_)
  replace hza : IsZip ha z TI TO .ellipsis := hza
  refine wpAny_bind ?_
  simp only [List.zipIdx_cons, List.zipIdx_nil, List.forIn_cons, List.forIn_nil]
  refine wpAny_bind (wpAny_bind (wpAny_onRaise ?_))
  show wpAny _ _ (Builtin.SmallTypes.nextOf (.ref i1) >>= _) _ _ _
  refine wpAny_bind (nextOf_end_hot (x1 := x1) ⟨hh, o1, vs1, hsa.extBut _ _ nz g1, d1, c1⟩ n1 (h1.extBut hsa.extBut D.i1z) (hl1.extBut hsa.extBut D.l1z) hend fun hb e hsb he => ?_)
  obtain ⟨oe, hoe, hce⟩ := he
  have hzb : IsZip hb z TI TO .ellipsis := hsb _ _ D.i1z.symm hza
  have hez : e ≠ z := fun q => by subst q; rw [hzb] at hoe; cases hoe; simp at hce
  refine wpAny_setField_rec hzb (by simp) fun hc _ hsc => ?_
  refine wpAny_bind (wpAny_isInstance (T := "StopIteration") (b := true) ⟨oe, hsc.extBut _ _ hez hoe, hce⟩ isSubtype_stop ?_)
  exact wpAny_pure (hQ _ fun c o c1 _ c3 _ q => hsc.extBut _ _ c1 (hsb _ _ c3 (hsa.extBut _ _ c1 q)))
end
/-- two lists, the first no longer than the second -/
def Itz1 (K : PySem.W.Frag) (a b : Addr) : It := ⟨(Itz K a b).go, (Itz K a b).yld, fun i H => ∃ xs ys : List V, SqL K H a xs ∧ SqL K H b ys ∧ xs.length ≤ i⟩
theorem turnH_zip {P : Program} {w : World} {K : PySem.W.Frag} {elts : List Expr} {kk : Nat} {tpos : Pos} {a b z TI TO i1 i2 : Addr} (D : ZipApart z TI TO i1 i2 a b) :
    TurnH P w K (.Tuple elts kk tpos) (Itz1 K a b) [z, TI, TO, i1, i2] z (fun i h => IsZip h z TI TO .none ∧ IsPair h TI (.ref i1) (.ref i2) ∧ (∃ x y, IsPair h TO x y) ∧ h.IsListIter i1 a i ∧ h.IsListIter i2 b i) where
  mem := (turn_zip (P := P) (w := w) (K := K) (elts := elts) (kk := kk) (tpos := tpos) D).mem
  obj := (turn_zip (P := P) (w := w) (K := K) (elts := elts) (kk := kk) (tpos := tpos) D).obj
  keep := (turn_zip (P := P) (w := w) (K := K) (elts := elts) (kk := kk) (tpos := tpos) D).keep
  self := (turn_zip (P := P) (w := w) (K := K) (elts := elts) (kk := kk) (tpos := tpos) D).self
  item := by
    intro X hP hw hK hc i pins s σ H E I hf st hg
    subst hP hw hK
    obtain ⟨hz, hTI, ⟨x0, y0, hTO⟩, h1, h2⟩ := st
    obtain ⟨xs, ys, x, y, hqx, hqy, hx, hy⟩ := hg
    obtain ⟨its, rv, p, _⟩ := I.list hqx
    obtain ⟨its2, rv2, p2, _⟩ := I.list hqy
    obtain ⟨u, hu, ru⟩ := rv.get hx
    obtain ⟨v, hv, rw2⟩ := rv2.get hy
    have lz : z < s.heap.objs.size := Heap.lt_size hz
    refine wpAny_pyNext_zip_item D hz hTI hTO h1 h2 p.isList p2.isList (x := u) (y := v) (by simpa using hu) (by simpa using hv) fun ha z' TO' h1' h2' hT hsz hk => ?_
    refine ⟨_, rfl, wpAny_letOwnedTupleGo_zip (s := { s with heap := ha }) z' fun hb z'' sb => ?_⟩
    have hT2 : hb.get? s.heap.objs.size = some { cls := .type "tuple", data := .seq #[u, v] } := (sb.2 _ (Nat.ne_of_gt lz)).trans hT
    have new : ObjOk X.prog X.w (upd H s.heap.objs.size (.tup [x, y])) hb s.heap.objs.size (.tup [x, y]) := ⟨by show 2 ≤ sizeLine; decide, [u, v], .cons ru (.cons rw2 .nil), ⟨_, hT2, rfl, _, rfl⟩⟩
    have I1 : Inv X pins σ (upd H s.heap.objs.size (.tup [x, y])) { s with heap := hb } :=
      I.turnedNew (t' := s.toks) (ch := [z, TI, TO, i1, i2]) (fun c o nb q => (sb.2 c (fun e => nb (by simp [e]))).trans (hk c o (fun e => nb (by simp [e])) (fun e => nb (by simp [e])) (fun e => nb (by simp [e])) (fun e => nb (by simp [e])) q)) hf (Nat.le_refl _) new
    refine ⟨.ref s.heap.objs.size, _, I1, rfl, ⟨_, x, y, rfl, I.hok.fresh (Nat.le_refl _), rfl, fun l hl => by rw [I.list_inj hl hqx]; exact hx, fun l hl => by rw [I.list_inj hl hqy]; exact hy⟩, ⟨z'', ?_, ⟨u, v, ?_⟩, ?_, ?_⟩, fun c hcm => ?_⟩
    · exact (sb.2 _ D.TIz).trans (hk _ _ D.TIz D.TITO D.TIi1 D.TIi2 hTI)
    · exact (sb.2 _ D.TOz).trans TO'
    · exact h1'.at fun o q => (sb.2 _ D.i1z).trans q
    · exact h2'.at fun o q => (sb.2 _ D.i2z).trans q
    · obtain ⟨o, e, _⟩ := (turn_zip (P := X.prog) (w := X.w) (K := X.K) (elts := elts) (kk := kk) (tpos := tpos) D).obj i s.heap ⟨hz, hTI, ⟨x0, y0, hTO⟩, h1, h2⟩ c hcm
      rw [upd_ne (Nat.ne_of_lt (Heap.lt_size e))]
      exact (hf c hcm).1
  done := by
    intro X hP hw hK hc i pins s σ H E I hf st hg
    subst hP hw hK
    obtain ⟨hz, hTI, ⟨x0, y0, hTO⟩, h1, h2⟩ := st
    obtain ⟨xs, ys, hqx, hqy, hend⟩ := hg
    obtain ⟨its, rv, p, _⟩ := I.list hqx
    have l1 := rv.length
    obtain ⟨p1, ⟨hh, vs1, d1, c1⟩, hp⟩ := hc
    have hpm : p1 ∈ X.pn ++ pins := List.mem_append_left _ hp
    refine pyNext_zip_end_hot (x1 := p1.1) ⟨hh, p1.2, vs1, (I.pin p1 hpm).1, d1, c1⟩ ((hf z (by simp)).2.2.2.2.2 p1 hpm) ((hf i1 (by simp)).2.2.2.2.2 p1 hpm) D hz hTI hTO h1 p.isList (by simp; omega) fun h' hk => ⟨rfl, ?_⟩
    exact I.turnedL (t' := s.toks) (ch := [z, TI, TO, i1, i2]) (fun c o nb q => hk c o (fun e => nb (by simp [e])) (fun e => nb (by simp [e])) (fun e => nb (by simp [e])) (fun e => nb (by simp [e])) q) hf
def iZip1 (K : PySem.W.Frag) (ta : TA) : TI := fun σ H R => ta σ H fun vs H1 => ∃ a b xs ys, vs = [.ref a, .ref b] ∧ SqL K H1 a xs ∧ SqL K H1 b ys ∧ R (Itz1 K a b) H1
theorem pih_zip {X : Cx} {e e2 : Expr} {ta : TA} {p pos tpos : Pos} {elts : List Expr} {kk : Nat} (hg : Gl X "zip") (hm : X.mg "zip" = none) (ha : PA X [e, e2] ta)
    (hs : starEach [e, e2] X.env = (false, eval e X.env) :: starEach [e2] X.env := by rfl) (hpl : (backTo pos (starEach [e2] X.env)).any (·.1) = false := by rfl) : PIH X (.Tuple elts kk tpos) (.Call (.Name "zip" p) [e, e2] [] pos) (iZip1 X.K ta) := by
  refine ⟨fun pins s σ H R I h => ?_⟩
  refine Call_ (ld_blt I hg hm PyProof.Rows.boot_zip (PyProof.Rows.callWith_type1 (thn (ha.run pos pins s σ H _ I h) fun us s1 ⟨vs, H1, I1, r1, q1⟩ => ?_) hs hpl))
  obtain ⟨a, b, xs, ys, ex, hqx, hqy, q⟩ := q1
  subst ex
  cases r1 with
  | cons r rr =>
    cases rr with
    | cons r' rr =>
      cases rr
      cases r
      cases r'
      obtain ⟨its, rv, p1, _⟩ := I1.list hqx
      obtain ⟨its2, rv2, p2, _⟩ := I1.list hqy
      refine call_zip_2 p1.isList p2.isList fun h' hz hTI hTO h1 h2 hsz hk => wpAny_pyIter_zip hz ?_
      have J : Inv X pins σ H1 { s1 with heap := h' } := I1.kept (t' := s1.toks) hk
      refine ⟨s1.heap.objs.size + 4, [s1.heap.objs.size + 4, s1.heap.objs.size + 2, s1.heap.objs.size + 3, s1.heap.objs.size, s1.heap.objs.size + 1], _, _, H1, rfl, J, turnH_zip (PySem.W.ktu_apart s1.heap.objs.size a b p1.lt p2.lt), ⟨hz, hTI, ⟨_, _, hTO⟩, h1, h2⟩, fun c hcm => ?_, q⟩
      have hle : s1.heap.objs.size ≤ c := by
        have e' : c = s1.heap.objs.size + 4 ∨ c = s1.heap.objs.size + 2 ∨ c = s1.heap.objs.size + 3 ∨ c = s1.heap.objs.size ∨ c = s1.heap.objs.size + 1 := by simpa using hcm
        rcases e' with e | e | e | e | e <;> rw [e] <;> first | exact Nat.le_add_right _ _ | exact Nat.le_refl _
      exact I1.fpOk hle (I1.hok.fresh hle)
end Fs
end
section
set_option Elab.async false
set_option linter.all false
set_option maxRecDepth 100000
set_option maxHeartbeats 4000000
namespace Fs
open PySem PySem.Spec PyProof.Rows L2 LamX HotX L2H

/-! ### a list comprehension, while an exception is handled -/
/-- the block's context: the exception is known there too -/
abbrev hblk (X : Cx) (s : Shared) (H : Hp) (scope : Scope) (cenv : Env) (fp : List Addr) (p : Addr × Obj) : Cx := { X.blk s H scope cenv fp with pn := [p] }
theorem inv_pin1 {X : Cx} {σ : L2.St} {H : Hp} {s : Shared} {s0 : Shared} {H0 : Hp} {scope : Scope} {ce : Env} {fp : List Addr} {p : Addr × Obj} (I : Inv (X.blk s0 H0 scope ce fp) [] σ H s) (g : s.heap.get? p.1 = some p.2) (n : H p.1 = none) (nl : p.1 ≠ ce.locals) (nf : p.1 ∉ frs X.stack) (nc : ∀ v, p.2.data ≠ .cell v) :
    Inv (hblk X s0 H0 scope ce fp p) [] σ H s :=
  ⟨⟨I.ok.mod, I.ok.kind, I.ok.glob, I.ok.blt, I.ok.above, I.ok.inj, I.ok.has, I.ok.cab, I.ok.hd, I.ok.frames, I.ok.stk, I.ok.exf, I.ok.bs, I.ok.bsz, I.ok.noex, I.ok.exfs, I.ok.funs, I.ok.frf⟩, I.os, I.bare, I.base, I.loc, I.cell, I.free, I.freeC, fun q hq => by
    have e : q = p := by simpa using (show q ∈ [p] ++ ([] : List (Addr × Obj)) from hq)
    rw [e]; exact ⟨g, n, nl, nf, nc⟩, I.hok, I.len⟩
theorem pe_lcH {X : Cx} {elt tg iter : Expr} {ifs : List Expr} {scope : Scope} {own : List (Str × Nat)} {pos : Pos} {wi : TI} {g : TG} {tt : TT} {te : TE} (hc : HotC X) (hN : X.N.Nodup) (hi : PIH X tg iter wi) (ok : BlkOk X.N X.env.scope scope own)
    (hg : ∀ (s : Shared) (H : Hp) (C : Addr) (cl : List (Str × Addr)) (fp : List Addr) (p : Addr × Obj), Hot1 X.A p → PG (hblk X s H scope (compEnvC scope cl C X.env) fp p) tg g)
    (ht : ∀ (s : Shared) (H : Hp) (C : Addr) (cl : List (Str × Addr)) (fp : List Addr) (p : Addr × Obj), Hot1 X.A p → PTs (hblk X s H scope (compEnvC scope cl C X.env) fp p) ifs tt)
    (he : ∀ (s : Shared) (H : Hp) (C : Addr) (cl : List (Str × Addr)) (fp : List Addr) (p : Addr × Obj), Hot1 X.A p → PE (hblk X s H scope (compEnvC scope cl C X.env) fp p) elt te) (hs : ∀ x, foldedSetIterable iter X.env x = pure x) :
    PE X (.ListComp elt [⟨tg, iter, ifs, 0⟩] scope pos) (tLc wi g tt te (own.map (·.2))) := by
  refine ⟨fun pins s σ H Q I h => ?_⟩
  rw [eval_ListComp]
  obtain ⟨p, hot, hp⟩ := hc
  have frees : ∀ y ∈ scope.names, y.2 = .free → ∃ c, X.env.cells.lookup y.1 = some c := fun y hy e => (ok.free y hy e).elim (fun k => I.ok.has _ (.inl k)) fun k => I.ok.has _ (.inr k)
  refine wpAny_comprehension_free (use := none) rfl hs (closure_ok frees) ok.kind (fun y hy e => by rw [ok.uniq y hy, e]) (thn (hi.run pins s σ H _ I h) fun xv sa hx => thn hx fun itv sb h2 => ?_)
  obtain ⟨it, fp, tn, J, Hb, e, Ib, T, stb, fb, q⟩ := h2
  subst e
  refine wpAny_newObj_type (newEnv_comp (?_)) (by show 0 ≤ sizeLine; decide)
  generalize hD : sb.heap.objs.size = D
  have nD : Hb D = none := Ib.hok.fresh (Nat.le_of_eq hD)
  obtain ⟨W, ⟨m0, w0⟩, turn⟩ := q D nD
  generalize hsc : ({ sb with heap := sb.heap.push { cls := .type "list", data := .seq ([] : List Value).toArray } } : Shared) = sc
  have hheap : sc.heap = sb.heap.push { cls := .type "list", data := .seq ([] : List Value).toArray } := by rw [← hsc]
  have Ic : Inv X pins σ (upd Hb D (.lst [])) sc := by
    rw [← hsc]
    exact Ib.laid (t' := sb.toks) (fun b o e => Heap.get?_push_of_some _ e) (Nat.le_of_eq hD) ⟨Nat.zero_le _, [], 0, .nil, by rw [← hD]; exact Heap.get?_push_size _ rfl⟩
  have small : ∀ b ∈ fp, b < sb.heap.objs.size := fun b hb => let ⟨o, e, _⟩ := T.obj _ _ stb b hb; Heap.lt_size e
  have fc : ∀ b ∈ fp, FpOk X pins (upd Hb D (.lst [])) b ∧ b < sc.heap.objs.size := fun b hb => by
    have lt := small b hb
    refine ⟨⟨?_, (fb b hb).2⟩, by rw [hheap, Heap.size_push]; exact Nat.lt_succ_of_lt lt⟩
    rw [upd_ne (by rw [← hD]; exact Nat.ne_of_lt lt)]
    exact (fb b hb).1
  have stc : tn 0 sc.heap := T.keep _ _ _ stb fun b _ o e => by rw [hheap]; exact Heap.get?_push_of_some _ e
  have Id := block_start Ic ok hN fc
  have Pp := Ic.pin p (List.mem_append_left _ hp)
  have nstk : p.1 ∉ frs X.stack := fun hm => (List.mem_cons.mp (Ic.stkSub p.1 hm)).elim Pp.2.2.1 Pp.2.2.2.1
  show codeAny _ _ (.compStart (.ListComp elt [⟨tg, iter, ifs, 0⟩] scope pos) 0 (.ref it) (.ref D) (compEnvC scope (cellsFrom (sc.heap.objs.size + 1) scope.names (cloFrom X.env.cells scope.names [])) sc.heap.objs.size X.env)) (compPost (model X.prog X.w) X.A X.xe none (EP X pins σ Q) (.ref D) sc.heap.objs.size) { sc with heap := pushCells (sc.heap.push { cls := .type "dict", data := .dict #[] }) scope.names }
  have pg := hg sc (upd Hb D (.lst [])) sc.heap.objs.size (cellsFrom (sc.heap.objs.size + 1) scope.names (cloFrom X.env.cells scope.names [])) fp p hot
  have pt := ht sc (upd Hb D (.lst [])) sc.heap.objs.size (cellsFrom (sc.heap.objs.size + 1) scope.names (cloFrom X.env.cells scope.names [])) fp p hot
  have pe := he sc (upd Hb D (.lst [])) sc.heap.objs.size (cellsFrom (sc.heap.objs.size + 1) scope.names (cloFrom X.env.cells scope.names [])) fp p hot
  have clear : ∀ b ∈ fp, (upd Hb D (.lst [])) b = none := fun b hb => (fc b hb).1.1
  generalize hce : compEnvC scope (cellsFrom (sc.heap.objs.size + 1) scope.names (cloFrom X.env.cells scope.names [])) sc.heap.objs.size X.env = ce at Id pg pt pe ⊢
  have cL : ce.locals = sc.heap.objs.size := by subst hce; rfl
  generalize hHc : upd Hb D (.lst []) = Hc at Ic Id pg pt pe w0 clear fc Pp
  generalize hsd : ({ sc with heap := pushCells (sc.heap.push { cls := .type "dict", data := .dict #[] }) scope.names } : Shared) = sd at Id ⊢
  have up : ∀ b o, sc.heap.get? b = some o → sd.heap.get? b = some o := fun b o e => by rw [← hsd]; exact pushCells_keeps _ _ _ _ (Heap.get?_push_of_some _ e)
  have std : tn 0 sd.heap := T.keep _ _ _ stc fun b _ o e => up b o e
  have Ie : Inv (hblk X sc Hc scope ce fp p) [] (L2.wipe σ (own.map (·.2))) Hc sd := inv_pin1 Id (up _ _ Pp.1) Pp.2.1 (by rw [cL]; exact Nat.ne_of_lt (Heap.lt_size Pp.1)) nstk Pp.2.2.2.2
  have hotB : HotC (hblk X sc Hc scope ce fp p) := ⟨p, hot, List.mem_singleton.mpr rfl⟩
  have stat : ∀ {σ' : L2.St} {H' : Hp} {s' : Shared}, Inv (hblk X sc Hc scope ce fp p) [] σ' H' s' → (∀ b ∈ fp, H' b = none) → ∀ b ∈ fp, FpOk (hblk X sc Hc scope ce fp p) [] H' b := fun {σ' H' s'} I' hn b hb =>
    ⟨hn b hb, (I'.ok.exf b hb).1, I'.ok.exfs b hb, .inl hb, fun x c e => (I'.ok.exf b hb).2 x c e, fun r hr => by
      have er : r = p := by simpa using (show r ∈ [p] ++ ([] : List (Addr × Obj)) from hr)
      rw [er]
      exact (fc b hb).1.2.2.2.2.2 p (List.mem_append_left _ hp)⟩
  refine codeAny_compStart_list ?_ (T.self X.A 0 _ _ _ std ?_) <;>
  · refine compLoop_any (fun n s' => ∃ i H', Inv (hblk X sc Hc scope ce fp p) [] (L2.wipe σ (own.map (·.2))) H' s' ∧ tn i s'.heap ∧ (∀ b ∈ fp, H' b = none) ∧ W i n H') (?_) m0 ⟨0, Hc, Ie, std, clear, w0⟩
    rintro n se ⟨i, He, Ig, ste, ne, we⟩
    rcases turn i n He we with ⟨stop, qq⟩ | ⟨go, Nx, hNx, step⟩
    · refine thnF (T.done (hblk X sc Hc scope ce fp p) rfl rfl rfl hotB i [] se _ He (fun _ _ => False) Ig (stat Ig ne) ste stop) fun r sf ⟨hr, Ih⟩ => ?_
      subst hr
      have Ix : Inv X pins σ He sf := Ic.call' (ch := fp) Ih.os Ih.base Ih.hok Ih.bare fun b hb => ⟨(fc b hb).1.2.2.2.1, (fc b hb).1.2.1, (fc b hb).1.2.2.2.2.1, (fc b hb).1.2.2.2.2.2⟩
      have nC : He sc.heap.objs.size = none := by
        have z : He ce.locals = none := Ih.free
        rw [cL] at z
        exact z
      obtain ⟨m, hns, _⟩ := Ih.loc
      have hns : sf.heap.Ns ce.locals m := hns
      rw [cL] at hns
      obtain ⟨f0, f1, f2, f3, f4, f5⟩ := Ic.fpOk (H' := He) (Nat.le_refl _) nC
      exact ⟨m, hns, fun hz sbz => ⟨.ref D, He, Ix.turned (t' := sf.toks) (fun b o hb e => (sbz.2 b hb).trans e) f0 f1 f3 f4 f5, rfl, qq⟩⟩
    · refine thnF (T.item (hblk X sc Hc scope ce fp p) rfl rfl rfl hotB i [] se _ He (fun _ _ => False) Ig (stat Ig ne) ste go) fun r sf ⟨u, hr, hf⟩ => ?_
      subst hr
      refine thnF hf fun _ sg ⟨x, Hg, Ih, rg, yg, stg, ng⟩ => ?_
      have Ij := Ih.pinned (stat Ih ng) (T.obj _ _ stg)
      refine thnF (pg.run _ sg _ Hg x u _ Ij rg (step x Hg yg)) fun _ sh ⟨σh, Hh, Ik, wh, qh⟩ => ?_
      refine thnF (pt.run _ sh σh Hh _ Ik qh) fun b si ⟨Hi, Il, qi⟩ => ?_
      have fin : ∀ {s' : Shared} {H' : Hp}, Inv (hblk X sc Hc scope ce fp p) ([] ++ pinsAt fp sg.heap) σh H' s' → Nx H' → ∃ m, m < n ∧ ∃ i H', Inv (hblk X sc Hc scope ce fp p) [] (L2.wipe σ (own.map (·.2))) H' s' ∧ tn i s'.heap ∧ (∀ b ∈ fp, H' b = none) ∧ W i m H' := fun {s' H'} I' nx => by
        obtain ⟨m', hm, w'⟩ := hNx H' nx
        have kept : ∀ b ∈ fp, ∀ o, sg.heap.get? b = some o → s'.heap.get? b = some o ∧ H' b = none := fun b hb o e => by
          have z := I'.pin (b, o) (List.mem_append_right _ (List.mem_append_right _ (mem_pinsAt hb e)))
          exact ⟨z.1, z.2.1⟩
        have hl : (L2.wipe σ (own.map (·.2))).length = σh.length := by rw [← wh, L2.wipe_length]
        refine ⟨m', hm, i + 1, H', (I'.unpinned (pins := [])).weak hl (fun j v e => ?_), T.keep _ _ _ stg fun b hb o e => (kept b hb o e).1, fun b hb => ?_, w'⟩
        · rw [← wh] at e
          exact (L2.wipe_some e).1
        · obtain ⟨o, e, _⟩ := T.obj _ _ stg b hb
          exact (kept b hb o e).2
      cases b with
      | false =>
        simp only [Bool.false_eq_true, if_false] at qi ⊢
        exact fin Il qi
      | true =>
        simp only [if_true] at qi ⊢
        refine thnF (pe.run _ si σh Hi _ Il qi) fun z sj ⟨yv, Hj, Im, rj, acc, hDj, hzj, nx⟩ => ?_
        exact app_ok (X := hblk X sc Hc scope ce fp p) Im hDj hzj rj fun sk In => fin In nx
end Fs
end
section
set_option Elab.async false
set_option linter.all false
set_option maxRecDepth 100000
set_option maxHeartbeats 4000000
namespace Fs
open PySem PySem.Spec PyProof.Rows L2 LamX HotX L2H

/-! ### a tuple taken apart, while an exception is handled -/
section
variable {prog : Program} {w : World} {A : Around} {E : Value → Shared → Prop} {s : Shared}
theorem next_tup_end_hot {x1 j t : Addr} {i : Nat} {items : Array Value} {Q : Option Value → Shared → Prop} (hot : HotAt A x1 s.heap) (hx1 : x1 ≠ j) (hit : IsTupIter s.heap j t i) (ht : IsTup s.heap t items) (hx : items[i]? = none)
    (hQ : ∀ h', Heap.ExtBut j s.heap h' → Q none { s with heap := h' }) : wpAny (model prog w) A (pyNext (.ref j)) Q E s := by
  obtain ⟨o, ho, hc, hd⟩ := id hit
  obtain ⟨ol, hol, _, nl, hdl⟩ := ht
  obtain ⟨hh, o1, vs1, g1, d1, c1⟩ := hot
  unfold pyNext
  refine wpAny_bind (wpAny_attempt (wpAny_callSpecial?_slot (name := Str.ofString "__next__") hit.typeIs slot_tupleiter_next (wpAny_call_entry slot_tupleiter_next hit.typeIs entry_tupleiter_next (?_) (args_tupleiter_next _))))
  show wpAny _ _ (field (.ref j) 0 >>= _) _ _ s
  refine wpAny_bind (wpAny_field ho hd (x := .ref t) rfl (?_))
  show wpAny _ _ (if (Value.ref t == Value.none) = true then _ else _) _ _ s
  rw [if_neg (show ¬ ((Value.ref t == Value.none) = true) from Bool.false_ne_true)]
  show wpAny _ _ (field (.ref j) 1 >>= _) _ _ s
  refine wpAny_bind (wpAny_field ho hd (x := .int i 0) rfl (?_))
  show wpAny _ _ (seqItems? (.ref t) >>= _) _ _ s
  refine wpAny_bind (wpAny_seqItems hol hdl (?_))
  simp only [Int.toNat_natCast, hx]
  refine wpAny_bind (wpAny_rule (wpAny_bind (wpAny_setField ho hd (by simp) (?_))))
  show wpAny _ _ (newExc (.type "StopIteration") [] >>= _) _ _ _
  refine wpAny_bind (?_)
  simp only [newExc, newTuple]
  refine wpAny_bind (wpAny_newObj_type (?_) (by size_fits))
  refine wpAny_bind (m := firstArgMember _ _) (wpAny_of_eq (a := Value.none) (by first | rfl | (simp only [firstArgMember]; rfl)) (?_))
  refine wpAny_newObj_type (?_) (by size_fits)
  have g2 := Heap.get?_push_of_some { cls := .type "tuple", dict := none, data := .seq ([] : List Value).toArray } ((Heap.get?_update_other s.heap (Obj.mapFields (·.setIfInBounds 0 .none)) (Ne.symm hx1)).trans g1)
  refine raiseNew_hot (x1 := x1) ⟨hh, o1, vs1, Heap.get?_push_of_some _ g2, d1, c1⟩ (Nat.ne_of_lt (Heap.lt_size g2)) (Heap.get?_push_size _ rfl) rfl (by first | (simp; done) | (simp; omega) | (simp only [Array.size_append]; simp; omega)) ?_
  refine wpAny_bind (wpAny_isInstance (T := "StopIteration") (b := true) ⟨_, Heap.get?_update_self _ (Heap.get?_push_size _ rfl) rfl, rfl⟩ isSubtype_stop ?_)
  refine wpAny_pure (hQ _ fun b ob nb e => ?_)
  have e2 := Heap.get?_push_of_some { cls := .type "tuple", dict := none, data := .seq ([] : List Value).toArray } ((Heap.get?_update_other s.heap (Obj.mapFields (·.setIfInBounds 0 .none)) (Ne.symm nb)).trans e)
  rw [Heap.get?_update_other _ _ (Nat.ne_of_gt (Heap.lt_size e2))]
  exact Heap.get?_push_of_some _ e2
theorem unpack_tup_hot {x1 t : Addr} {items : Array Value} {elts : List Expr} {k : Nat} {pos : Pos} {env : Env} {Q : Unit → Shared → Prop} (hot : HotAt A x1 s.heap) (ht : IsTup s.heap t items) (hn : (assignEach elts env).length = items.size) (hst : (assignEach elts env).findIdx? (·.1) = none)
    (h : ∀ h', Heap.ExtBut s.heap.objs.size s.heap h' → wpAny (model prog w) A (assignInOrder ((assignEach elts env).map (·.2)) items.toList) Q E { s with heap := h' }) : wpAny (model prog w) A (assign (.Tuple elts k pos) env (.ref t)) Q E s := by
  obtain ⟨hh, o1, vs1, g1, d1, c1⟩ := hot
  rw [assign_Tuple]
  refine wpAny_bind (wpAny_standAt ?_)
  unfold unpack
  rw [hn, hst]
  refine wpAny_bind (wpAny_holding ?_)
  have ne : t ≠ s.heap.objs.size := by obtain ⟨o, ho, _⟩ := ht; exact Nat.ne_of_lt (Heap.lt_size ho)
  unfold unpackItems
  refine wpAny_bind ?_
  unfold notIterableAtAll
  refine wpAny_bind (wpAny_specialOf ht.typeIs slot_tuple_iter.lookup (?_))
  refine wpAny_pure ?_
  simp only [Bool.false_eq_true, if_false]
  refine wpAny_bind (wpAny_holding (iter_tuple ht (?_)))
  refine wpAny_bind (wpAny_holding (draw_tuple ne items.size 0 _ _ ⟨_, Heap.get?_push_size _ rfl, rfl, rfl⟩ (ht.push _) (by omega) fun ha hita hsa => ?_))
  have whole : List.take items.size (List.drop 0 items.toList) = items.toList := by
    rw [List.drop_zero]; exact List.take_of_length_le (by simp)
  rw [whole, if_neg (by simp)]
  have n1 : x1 ≠ s.heap.objs.size := Nat.ne_of_lt (Heap.lt_size g1)
  refine wpAny_bind (wpAny_holding (next_tup_end_hot (x1 := x1) ⟨hh, o1, vs1, hsa.extBut _ _ n1 (Heap.get?_push_of_some _ g1), d1, c1⟩ n1 hita ((ht.push _).extBut hsa.extBut ne) (by simp) fun hb heb => ?_))
  simp only [Option.isSome_none, Bool.false_eq_true, if_false]
  exact wpAny_pure (h hb fun b o nb e => heb b o nb (hsa.extBut b o nb (Heap.get?_push_of_some _ e)))
end
theorem pg_tupH {X : Cx} {es : List Expr} {k : Nat} {t : TGs} {n : Nat} {pos : Pos} (hc : HotC X) (h : PGs X es t) (hn : (assignEach es X.env).length = n) (hst : (assignEach es X.env).findIdx? (·.1) = none) : PG X (.Tuple es k pos) (gTup X.K n t) := by
  refine ⟨fun pins s σ H v u Q I r hw => ?_⟩
  obtain ⟨a, xs, e1, hq, hl, hw⟩ := hw
  subst e1
  cases r
  obtain ⟨its, rv, ht, hz⟩ := I.tuple hq
  obtain ⟨x1, hot⟩ := hc.at I
  refine unpack_tup_hot hot ht (by simp [hn, ← hl, rv.length]) hst fun h' hx => ?_
  have J : Inv X pins σ H { s with heap := h' } := I.kept (t' := s.toks) fun b o e => hx b o (Nat.ne_of_lt (Heap.lt_size e)) e
  exact h.run pins _ σ H xs _ Q J (by simpa using rv) hw
end Fs
end
section
set_option Elab.async false
set_option linter.all false
set_option maxRecDepth 100000
set_option maxHeartbeats 4000000
namespace Fs
open PySem PySem.Spec PyProof.Rows L2 LamX HotX L2H

/-! ### readings over data, while an exception is handled -/
structure PIDH (X : Cx) (T : TB) (W : WX) (tg iter : Expr) (t : TAD) : Prop where
  pi : PIH X tg iter (upI X.K T W t)
  mo : MonoA t
theorem PIH.imp {X : Cx} {tg e : Expr} {t t' : TI} (h : PIH X tg e t) (i : ∀ σ H Q, t' σ H Q → t σ H Q) : PIH X tg e t' := ⟨fun pins s σ H Q I q => h.run pins s σ H Q I (i σ H Q q)⟩
def dZip1 (t : TAD) : TAD := fun env S Q E => t env S (fun xs S1 => match xs with
  | [.lst as, .lst bs] => as.length ≤ bs.length ∧ Q (List.zipWith (fun x y => D.tup [x, y]) as bs) S1
  | _ => False) E
theorem dZip1_mono {t : TAD} (h : MonoA t) : MonoA (dZip1 t) := fun env S Q Q' E E' hq he q => h _ _ _ _ _ _ (fun xs S1 h1 => by
  split at h1
  · exact ⟨h1.1, hq _ _ h1.2⟩
  · exact h1.elim) he q
section
variable {X : Cx} {T : TB} {W : WX}
theorem pidh_zip {e e2 : Expr} {t : TAD} {p pos tpos : Pos} {elts : List Expr} {kk : Nat} (hg : Gl X "zip") (hm : X.mg "zip" = none) (ha : PAD X T W [e, e2] t)
    (hs : starEach [e, e2] X.env = (false, eval e X.env) :: starEach [e2] X.env) (hpl : (backTo pos (starEach [e2] X.env)).any (·.1) = false) : PIDH X T W (.Tuple elts kk tpos) (.Call (.Name "zip" p) [e, e2] [] pos) (dZip1 t) := by
  refine ⟨PIH.imp (pih_zip hg hm ha.pa hs hpl) fun σ H R q => ?_, dZip1_mono ha.mo⟩
  obtain ⟨A, S, env, eo, st, q⟩ := q
  refine ⟨A, S, env, eo, st, ha.mo _ _ _ _ _ _ (fun xs S1 h1 => ?_) (fun _ _ e => e) q⟩
  intro A1 H1 vs l1 st1 r
  split at h1
  · rename_i as bs
    obtain ⟨hlen, h1⟩ := h1
    obtain ⟨v, w, rfl, ⟨a, vs, rfl, n1, h2, h3⟩, b, ws, rfl, n2, h4, h5⟩ := reps2 r
    refine ⟨a, b, vs, ws, rfl, SqL.of h2, SqL.of h4, h1 A1 H1 _ l1 st1 ⟨fun i d e A2 S2 H2 l2 st2 => ?_, fun A2 S2 H2 l2 st2 => ?_⟩⟩
    · rw [List.getElem?_zipWith] at e
      cases ea : as[i]? with
      | none => rw [ea] at e; cases e
      | some x =>
        cases eb : bs[i]? with
        | none => rw [ea, eb] at e; cases e
        | some y =>
          rw [ea, eb] at e
          cases e
          obtain ⟨vx, hx, rx⟩ := h3.get ea
          obtain ⟨vy, hy, ry⟩ := h5.get eb
          have s1 : SqL X.K H2 a vs := SqL.of (l2.ext _ _ h2 n1 fun ps z => by cases z)
          have s2 : SqL X.K H2 b ws := SqL.of (l2.ext _ _ h4 n2 fun ps z => by cases z)
          refine ⟨⟨vs, ws, vx, vy, s1, s2, hx, hy⟩, fun v H' hv => ?_⟩
          obtain ⟨p, x', y', rfl, hp, rfl, k1, k2⟩ := hv
          have e1 := k1 vs s1
          have e2 := k2 ws s2
          rw [hx] at e1
          rw [hy] at e2
          cases e1
          cases e2
          refine ⟨fun b o z => by rw [upd_ne (ne_of_none z hp)]; exact z, p, [vx, vy], rfl, .inl ⟨st2.fresh hp, upd_same⟩, vx, [vy], rfl, Rep.monoW (l2.trans (Le.upd hp).w) _ _ rx, vy, [], rfl, Rep.monoW (l2.trans (Le.upd hp).w) _ _ ry, rfl⟩
    · refine ⟨vs, ws, SqL.of (l2.ext _ _ h2 n1 fun ps z => by cases z), SqL.of (l2.ext _ _ h4 n2 fun ps z => by cases z), ?_⟩
      rw [List.length_zipWith, ← h3.length]
      omega
  · exact h1.elim
theorem pgo_tupH {es : List Expr} {k : Nat} {is : List Nat} {pos : Pos} {own : List Nat} (hc : HotC X) (h : PGs X es (gsAll is)) (hn : (assignEach es X.env).length = is.length) (hst : (assignEach es X.env).findIdx? (·.1) = none) (ho : ∀ i, i ∈ is → i ∈ own) : PGO X (.Tuple es k pos) own (gTH is) := by
  refine ⟨PG.imp (pg_tupH (n := is.length) hc h hn hst) fun v σ H Q h => ?_, gTH_mono⟩
  obtain ⟨A, d, env, eo, r, h⟩ := h
  cases d with
  | tup ds =>
    obtain ⟨a, vs, rfl, h1, h2⟩ := r
    exact ⟨a, vs, rfl, h1.sq, by rw [← h2.length]; exact h.1, gs_allo ho h.1 h2 eo h.2⟩
  | _ => exact h.elim
theorem pd_lcH {elt tg iter : Expr} {ifs : List Expr} {scope : Scope} {own : List (Str × Nat)} {pos : Pos} {ti : TAD} {g : GD} {tt : TTD} {te : TED} (hc : HotC X) (hN : X.N.Nodup) (hi : PIDH X T W tg iter ti) (ok : BlkOk X.N X.env.scope scope own)
    (hg : ∀ (s : Shared) (H : Hp) (C : Addr) (cl : List (Str × Addr)) (fp : List Addr) (p : Addr × Obj), Hot1 X.A p → PGO (hblk X s H scope (compEnvC scope cl C X.env) fp p) tg (own.map (·.2)) g) (mg : MonoG g)
    (ht : ∀ (s : Shared) (H : Hp) (C : Addr) (cl : List (Str × Addr)) (fp : List Addr) (p : Addr × Obj), Hot1 X.A p → PTsD (hblk X s H scope (compEnvC scope cl C X.env) fp p) T W0 ifs tt) (mt : MonoT tt)
    (he : ∀ (s : Shared) (H : Hp) (C : Addr) (cl : List (Str × Addr)) (fp : List Addr) (p : Addr × Obj), Hot1 X.A p → PD (hblk X s H scope (compEnvC scope cl C X.env) fp p) T W0 elt te) (me : MonoE te) (hs : ∀ x, foldedSetIterable iter X.env x = pure x) :
    PD X T W (.ListComp elt [⟨tg, iter, ifs, 0⟩] scope pos) (dLc ti (own.map (·.2)) g tt te) :=
  ⟨PE.imp (pe_lcH (g := upGo X.K (own.map (·.2)) g) (tt := upT X.K T W0 tt) (te := upE X.K T W0 te) hc hN hi.pi ok (fun s H C cl fp p h => (hg s H C cl fp p h).pg) (fun s H C cl fp p h => (ht s H C cl fp p h).pt) (fun s H C cl fp p h => (he s H C cl fp p h).pe) hs) fun σ H Q q => up_lc hi.mo mg mt me q, dLc_mono hi.mo mg mt me⟩
end
/-- isinstance(e, c), e an exception that the context knows -/
theorem isE_pn {X : Cx} {a D : Addr} {oe : Obj} (C : ExcC X.K D) (hp : (a, oe) ∈ X.pn) (hz : Zc (.ref D) none oe) (hf : ∃ vs, oe.data = .fields vs) : CallR X (.builtin "isinstance") (rIsE X.K D a) := by
  intro pins s σ H xs us Q I r h
  obtain ⟨c, cv, b, rfl, hcv, e, q⟩ := h
  cases r with
  | cons rx rr =>
    cases rr with
    | cons rt rr =>
      cases rr
      cases rx
      obtain rfl := hcv _ rt
      obtain ⟨hget, _⟩ := I.pin (a, oe) (List.mem_append_left _ hp)
      obtain ⟨vs, hv⟩ := hf
      have J : PySem.W.InstAt s.heap a oe D none := by
        obtain ⟨oc, od, oda, osl⟩ := oe
        obtain ⟨k1, k2⟩ := hz
        dsimp only at k1 k2 hv
        subst k1 k2 hv
        exact ⟨hget, rfl, rfl, trivial⟩
      exact PySem.W.kia_one (PySem.W.handS_kitx_exc C.hg C.hk C.hs C.hd C.ha C.hn C.ht C.hm) I.kIn J e (fun z => nomatch z) fun tk => ⟨.bl b, H, I.kept (t' := tk) fun _ _ z => z, rfl, q⟩
def isxD (K : PySem.W.Frag) (a D : Addr) : CallO := fun xs _ k => match xs with
  | [.ref x, .ref C] => x = a ∧ ∃ b, PySem.W.kitOne K (.ref D) (.ref C) = some b ∧ k (.bl b)
  | [.ref x, .ty n] => x = a ∧ ∃ b, PySem.W.kitOne K (.ref D) (.type n) = some b ∧ k (.bl b)
  | _ => False
theorem isxD_mono {K : PySem.W.Frag} {a D : Addr} : MonoC (isxD K a D) := by
  intro xs S k k' hk h
  unfold isxD at h ⊢
  split at h
  · obtain ⟨e, b, h1, h2⟩ := h
    exact ⟨e, b, h1, hk _ h2⟩
  · obtain ⟨e, b, h1, h2⟩ := h
    exact ⟨e, b, h1, hk _ h2⟩
  · exact h.elim
theorem isxD_l {K : PySem.W.Frag} {T : TB} {a D : Addr} : CallL K T (isxD K a D) (rIsE K D a) := by
  intro A S H xs vs Q st r h
  unfold isxD at h
  split at h
  · obtain ⟨rfl, b, h1, h2⟩ := h
    obtain ⟨v, w, rfl, r1, r2⟩ := reps2 r
    obtain rfl : v = V.ref _ := r1
    obtain rfl : w = V.ref _ := r2
    exact ⟨_, _, b, rfl, fun u hu => hu, h1, h2 A H _ (Le.refl _ _) st rfl⟩
  · obtain ⟨rfl, b, h1, h2⟩ := h
    obtain ⟨v, w, rfl, r1, r2⟩ := reps2 r
    obtain rfl : v = V.ref _ := r1
    obtain rfl : w = V.ty _ := r2
    exact ⟨_, _, b, rfl, fun u hu => hu, h1, h2 A H _ (Le.refl _ _) st rfl⟩
  · exact h.elim
end Fs
end
section
set_option Elab.async false
set_option linter.all false
set_option maxRecDepth 100000
set_option maxHeartbeats 4000000
namespace Fs
open PySem PySem.Spec PyProof.Rows L2 LamX NdefX

/-! ### what is told no more, and again -/
def backH (H : Hp) (Z : List Addr) (H' : Hp) : Hp := fun b => if b ∈ Z then H b else H' b
theorem back_in {H H' : Hp} {Z : List Addr} {b : Addr} (h : b ∈ Z) : backH H Z H' b = H b := by unfold backH; rw [if_pos h]
theorem back_out {H H' : Hp} {Z : List Addr} {b : Addr} (h : b ∉ Z) : backH H Z H' b = H' b := by unfold backH; rw [if_neg h]
theorem cut_none {H : Hp} {Z : List Addr} {b : Addr} (h : H b = none) : cutH H Z b = none := by
  by_cases hb : b ∈ Z
  · exact cut_in hb
  · rw [cut_out hb]; exact h
/-- the things at Z are known to the object -/
def Known (H : Hp) (Z : List Addr) : Prop := ∀ z ∈ Z, ∃ oc, H z = some (.frz oc (.own z))
section
variable {P : Program} {w : World} {H H' : Hp} {h h' B : Heap} {Z fs : List Addr}
theorem hok_cut (hz : Known H Z) (x : HOk P w H h) : HOk P w (cutH H Z) h := fun a o e => by
  obtain ⟨_, e⟩ := cut_some e
  refine (x a o e).stay (fun _ _ _ q => q) (fun d q => ?_) fun d xs q => ?_
  · rw [cut_out]; exact q
    intro hd
    obtain ⟨oc, ed⟩ := hz d hd
    rw [q] at ed; cases ed
  · rw [cut_out]; exact q
    intro hd
    obtain ⟨oc, ed⟩ := hz d hd
    rw [q] at ed; cases ed
theorem hok_back (hz : ∀ z ∈ Z, ∃ oc, H z = some (.frz oc (.own z)) ∧ h'.get? z = some oc) (n : ∀ z ∈ Z, H' z = none) (x : HOk P w H' h') : HOk P w (backH H Z H') h' := fun a o e => by
  by_cases ha : a ∈ Z
  · rw [back_in ha] at e
    obtain ⟨oc, e1, e2⟩ := hz a ha
    rw [e1] at e; cases e
    exact ⟨e2, oc, e2⟩
  · rw [back_out ha] at e
    refine (x a o e).stay (fun _ _ _ q => q) (fun d q => ?_) fun d xs q => ?_
    · rw [back_out]; exact q
      intro hd
      rw [n d hd] at q; cases q
    · rw [back_out]; exact q
      intro hd
      rw [n d hd] at q; cases q
theorem known_get (hz : Known H Z) (x : HOk P w H h) : ∀ z ∈ Z, ∃ oc, H z = some (.frz oc (.own z)) ∧ h.get? z = some oc := fun z hh => by
  obtain ⟨oc, e⟩ := hz z hh
  exact ⟨oc, e, (x z _ e).1⟩
theorem un_back (hz : Known H Z) (x : HOk P w H h) (hf : ∀ b ∈ fs, H b = none) (u : Un fs [] (cutH H Z) H' h h') : (∀ z ∈ Z, H' z = none ∧ ∃ oc, H z = some (.frz oc (.own z)) ∧ h'.get? z = some oc) ∧ Un fs [] H (backH H Z H') h h' := by
  have key : ∀ z ∈ Z, H' z = none ∧ ∃ oc, H z = some (.frz oc (.own z)) ∧ h'.get? z = some oc := fun z hh => by
    obtain ⟨oc, e, g⟩ := known_get hz x z hh
    have nf : z ∉ fs := fun q => by
      rw [hf z q] at e; cases e
    exact ⟨u.free z oc g (cut_in hh) (by simp), oc, e, u.keep z oc g (cut_in hh) nf (by simp)⟩
  have nz : ∀ b, H b = none → b ∉ Z := fun b e q => by
    obtain ⟨oc, e'⟩ := hz b q
    rw [e] at e'; cases e'
  refine ⟨key, ⟨fun b o e n nf nx => u.keep b o e (cut_none n) nf nx, fun b o e n hb nx => u.slot b o e (cut_none n) hb nx, fun b o e n nx => ?_, u.there, fun b xs e => ?_, fun b o q e => ?_, fun b ps e => ?_⟩⟩
  · rw [back_out (nz b n)]; exact u.free b o e (cut_none n) nx
  · have hb : b ∉ Z := fun q => by
      obtain ⟨oc, e'⟩ := hz b q
      rw [e] at e'; cases e'
    rw [back_out hb]; exact u.tups b xs (by rw [cut_out hb]; exact e)
  · by_cases hb : b ∈ Z
    · rw [back_in hb]; exact e
    · rw [back_out hb]; exact u.frzs b o q (by rw [cut_out hb]; exact e)
  · have hb : b ∉ Z := fun q => by
      obtain ⟨oc, e'⟩ := hz b q
      rw [e] at e'; cases e'
    rw [back_out hb]; exact u.tbls b ps (by rw [cut_out hb]; exact e)
theorem ub_back (hz : Known H Z) (x : HOk P w H h) (hf : ∀ b ∈ fs, H b = none) (u : UB fs (cutH H Z) H' h B h') : (∀ z ∈ Z, H' z = none ∧ ∃ oc, H z = some (.frz oc (.own z)) ∧ B.get? z = some oc) ∧ UB fs H (backH H Z H') h B h' := by
  have key : ∀ z ∈ Z, H' z = none ∧ ∃ oc, H z = some (.frz oc (.own z)) ∧ B.get? z = some oc := fun z hh => by
    obtain ⟨oc, e, g⟩ := known_get hz x z hh
    have nf : z ∉ fs := fun q => by
      rw [hf z q] at e; cases e
    exact ⟨u.free z oc g (cut_in hh), oc, e, u.keep z oc g (cut_in hh) nf⟩
  have nz : ∀ b, H b = none → b ∉ Z := fun b e q => by
    obtain ⟨oc, e'⟩ := hz b q
    rw [e] at e'; cases e'
  refine ⟨key, ⟨fun b o e n nf => u.keep b o e (cut_none n) nf, u.slot, fun b o e n => ?_, u.there, fun b xs e => ?_, fun b o q e => ?_, fun b ps e => ?_⟩⟩
  · rw [back_out (nz b n)]; exact u.free b o e (cut_none n)
  · have hb : b ∉ Z := fun q => by
      obtain ⟨oc, e'⟩ := hz b q
      rw [e] at e'; cases e'
    rw [back_out hb]; exact u.tups b xs (by rw [cut_out hb]; exact e)
  · by_cases hb : b ∈ Z
    · rw [back_in hb]; exact e
    · rw [back_out hb]; exact u.frzs b o q (by rw [cut_out hb]; exact e)
  · have hb : b ∉ Z := fun q => by
      obtain ⟨oc, e'⟩ := hz b q
      rw [e] at e'; cases e'
    rw [back_out hb]; exact u.tbls b ps (by rw [cut_out hb]; exact e)
theorem env0_cut {K : PySem.W.Frag} {mg : Str → Option Value} {base : Heap} {A : Around} {outer : List Env} {s : Shared} (hz : Known H Z) (e : Env0 P w K mg base A outer s H) : Env0 P w K mg base A outer s (cutH H Z) :=
  ⟨e.frames, e.mod, fun b o q => ⟨(e.bs b o q).1, cut_none (e.bs b o q).2⟩, e.bsz, e.funs, fun b hb => cut_none (e.frf b hb), hok_cut hz e.hok, e.bare⟩
/-- the wishes, where a part is told no more -/
def Qcut (H : Hp) (Z : List Addr) (Q : VK) : VK := fun v H' => (∀ z ∈ Z, H' z = none) → Q v (backH H Z H')
def Ecut (H : Hp) (Z : List Addr) (E : XK) : XK := fun cls d H' => (∀ z ∈ Z, H' z = none) → E cls d (backH H Z H')
theorem cr_back {outer : List Env} {s s' : Shared} {Q : VK} {E : XK} {r : Result} (hz : Known H Z) (x : HOk P w H s.heap) (hf : ∀ b ∈ frs outer, H b = none) (h : CR (L2N.CX P w) outer P w (cutH H Z) s (Qcut H Z Q) (Ecut H Z E) r s') :
    CR (L2N.CX P w) outer P w H s Q E r s' := by
  cases r with
  | ok fl =>
    cases fl with
    | ret u =>
      obtain ⟨v, H', os, bare, un, hok, rv, q⟩ := h
      obtain ⟨key, un'⟩ := un_back hz x hf un
      exact ⟨v, backH H Z H', os, bare, un', hok_back (fun z hh => (key z hh).2) (fun z hh => (key z hh).1) hok, rv, q fun z hh => (key z hh).1⟩
    | next => exact h
    | brk => exact h
    | cont => exact h
  | error e =>
    obtain ⟨a, B, H', cls, d, e1, fl, hok, ub, na, os, bare, q⟩ := h
    obtain ⟨key, ub'⟩ := ub_back hz x hf ub
    refine ⟨a, B, backH H Z H', cls, d, e1, fl, hok_back (fun z hh => (key z hh).2) (fun z hh => (key z hh).1) hok, ub', ?_, os, bare, q fun z hh => (key z hh).1⟩
    rw [back_out]
    · exact na
    · intro ha
      obtain ⟨_, oc, _, g⟩ := key a ha
      rw [fl.2.1] at g; cases g
end
/-- the lambda as a function -/
abbrev lamF (l : Lam) (cl : List (Str × Addr)) (c' : Addr) : NF := ⟨"<lambda>", l.qual, l.args, [], l.scope, cl, c'⟩
/-- a known lambda, called -/
theorem lam_code {G : Wd} {k : Nat} {l : Lam} {f c' : Addr} {pm ctv : Value} {cl : List (Str × Addr)} {ps fr : List Str} {A : Around} {outer : List Env} {s : Shared} {H : Hp} {us : List Value} {vs : List V} {ws : List (Option V)} {Q : VK} {E : XK} {tb : TE}
    (hr : Room (k + 1) A) (e0 : Env0 G.P G.w G.K G.mg G.base A outer s H) (hf : H f = some (.frz (lamO l cl pm c' ctv) (.own f))) (hc : H c' = some (CodeO c' l.qual)) (S : NScope (ps ++ fr) ps fr l.scope)
    (C : CellsAt cl fr ws s.heap H) (r : Vals vs us) (hl : vs.length = ps.length)
    (hb : bindArgs (PySem.W.kla_fn "<lambda>" l.qual l.args l.body l.scope cl pm (.ref c') ctv) ⟨us, []⟩ = pure (ps.zip us))
    (body : Room k (A.deeper (envF (lamF l cl c') f s.heap.objs.size)) → PE (ncx (L2N.CX G.P G.w) G.P G.w G.K G.mg G.base (ps ++ fr) (lamF l cl c') f A outer s H E) l.body tb) (q : tb (startF (ps ++ fr) vs ws) H Q) :
    codeAny (model G.P G.w) A (.call (.ref f) ⟨us, []⟩) (CR (L2N.CX G.P G.w) outer G.P G.w H s Q E) s := by
  have of1 : s.heap.get? f = some (lamO l cl pm c' ctv) := (e0.hok f _ hf).1
  have lim : s.heap.NoLimit := e0.mod.nolimit.keeps fun b o e => (e0.bs b o e).1
  refine PySem.W.kla_callFunE hr.depth of1 rfl S.co S.gen rfl (codeO_at e0.hok hc) ?_
  rw [hb]
  refine wpAny_pure (wpAny_newFunctionEnv S.nocell (fun ⟨n, _⟩ hy => S.par n (List.of_mem_zip hy).1) (fun h₁ hns hsb => ⟨lim.fresh _ hsb, ?_⟩) S.kind)
  show codeAny _ _ (.expr l.body (envF (lamF l cl c') f s.heap.objs.size)) _ _
  have kp : ∀ b o, s.heap.get? b = some o → h₁.get? b = some o := fun b o e => hsb.extBut b o (Nat.ne_of_lt (Heap.lt_size e)) (Heap.get?_push_of_some _ e)
  have J : Inv (ncx (L2N.CX G.P G.w) G.P G.w G.K G.mg G.base (ps ++ fr) (lamF l cl c') f A outer s H E) [] (startF (ps ++ fr) vs ws) H { s with heap := h₁, toks := s.toks + (ps.zip us).length } :=
    inv_startN S hr.hd e0 hl r C hns kp
  refine PySem.W.kla_codeExpr (wpAny_mono ((body (hr.deeper _)).run [] _ _ H Q J q) (fun v s' hq => ?_) fun e s' hq => hq)
  obtain ⟨w', H', J', rv, q⟩ := hq
  exact ⟨w', H', J'.os, J'.bare, J'.base, J'.hok, rv, q⟩
/-! ### readings, where a part is told no more -/
/-- captured cells, known -/
def Cells (H : Hp) (Z : List Addr) : Prop := ∀ z ∈ Z, ∃ oc v, H z = some (.frz oc (.own z)) ∧ oc.data = .cell v
theorem Cells.known {H : Hp} {Z : List Addr} (h : Cells H Z) : Known H Z := fun z hz => let ⟨oc, _, e, _⟩ := h z hz; ⟨oc, e⟩
section
variable {K : PySem.W.Frag} {T : TB} {A : Ad} {S : Store} {H : Hp} {Z : List Addr}
theorem Cells.not (h : Cells H Z) {b : Addr} {o : HO} (e : H b = some o) (n : ∀ oc, oc.data = .cell (match oc.data with | .cell v => v | _ => none) → o ≠ .frz oc (.own b)) : b ∉ Z := fun hb => by
  obtain ⟨oc, v, e1, e2⟩ := h b hb
  rw [e] at e1
  exact n oc (by rw [e2]) (Option.some.inj e1)
mutual
theorem Rep.cutZ (hz : Cells H Z) : ∀ (d : D) (v : V), Rep K A H d v → Rep K A (cutH H Z) d v
  | .non, v, h => h
  | .bl b, v, h => h
  | .int i, v, h => h
  | .str x, v, h => h
  | .ref a, v, h => h
  | .ty n, v, h => h
  | .loc n, v, h => h
  | .tup ds, v, h => by
    obtain ⟨a, vs, h1, h2, h3⟩ := h
    refine ⟨a, vs, h1, ?_, Reps.cutZ hz ds vs h3⟩
    rcases h2 with ⟨n, h2⟩ | h2
    · exact .inl ⟨n, by rw [cut_out (hz.not h2 fun oc _ z => by cases z)]; exact h2⟩
    · exact .inr h2
  | .lst ds, v, h => by
    obtain ⟨a, vs, h1, n, h2, h3⟩ := h
    exact ⟨a, vs, h1, n, by rw [cut_out (hz.not h2 fun oc _ z => by cases z)]; exact h2, Reps.cutZ hz ds vs h3⟩
  | .lam m, v, h => by
    obtain ⟨f, pm, c', ctv, h1, n, n', h2, h3⟩ := h
    refine ⟨f, pm, c', ctv, h1, n, n', ?_, ?_⟩
    · rw [cut_out (hz.not h2 fun oc q z => by injection z with z _; rw [← z] at q; exact absurd q (by simp [lamO]))]; exact h2
    · rw [cut_out (hz.not h3 fun oc _ z => by unfold CodeO at z; cases z)]; exact h3
  | .scr ns, v, h => by
    obtain ⟨a, h1, h2⟩ := h
    refine ⟨a, h1, ?_⟩
    rcases h2 with ⟨n, ⟨o, h2⟩ | h2⟩ | h2
    · exact .inl ⟨n, .inl ⟨o, by rw [cut_out (hz.not h2 fun oc _ z => by cases z)]; exact h2⟩⟩
    · exact .inl ⟨n, .inr (by rw [cut_out (hz.not h2 fun oc _ z => by cases z)]; exact h2)⟩
    · exact .inr h2
theorem Reps.cutZ (hz : Cells H Z) : ∀ (ds : List D) (vs : List V), Reps K A H ds vs → Reps K A (cutH H Z) ds vs
  | [], vs, h => h
  | d :: ds, vs, h => by
    obtain ⟨x, xs, h1, h2, h3⟩ := h
    exact ⟨x, xs, h1, Rep.cutZ hz d x h2, Reps.cutZ hz ds xs h3⟩
end
theorem CellOk.cutZ (hz : Cells H Z) {a : Addr} : ∀ {c : Cell}, CellOk K A H a c → CellOk K A (cutH H Z) a c
  | .lst xs, ⟨vs, h1, h2⟩ => ⟨vs, by rw [cut_out (hz.not h1 fun oc _ z => by cases z)]; exact h1, Reps.cutZ hz _ _ h2⟩
  | .ins C fs, ⟨dx, vfs, h1, h2, h3⟩ => ⟨dx, vfs, by rw [cut_out (hz.not h1 fun oc _ z => by cases z)]; exact h1, h2, Reps.cutZ hz _ _ h3⟩
  | .dct kvs, ⟨vkvs, h1, h2, h3⟩ => ⟨vkvs, by rw [cut_out (hz.not h1 fun oc _ z => by cases z)]; exact h1, h2, Reps.cutZ hz _ _ h3⟩
theorem Tabs.cutZ (hz : Cells H Z) (t : Tabs T.t H) : Tabs T.t (cutH H Z) := fun p hp => by
  obtain ⟨ps, h1, h2, h3⟩ := t p hp
  refine ⟨ps, by rw [cut_out (hz.not h1 fun oc _ z => by cases z)]; exact h1, h2, fun pos cv hc => ?_⟩
  obtain ⟨c, e1, e2⟩ := h3 pos cv hc
  exact ⟨c, e1, by rw [cut_out (hz.not e2 fun oc _ z => by unfold CodeO at z; cases z)]; exact e2⟩
theorem Stt.cutZ (hz : Cells H Z) (hm : ∀ z ∈ Z, z ∉ A.m) (st : Stt K T A S H) : Stt K T A S (cutH H Z) :=
  ⟨st.nd, st.len, fun i c e => let ⟨a, h1, h2⟩ := st.cell i c e; ⟨a, h1, h2.cutZ hz⟩, st.sub, fun a ha => by
    obtain ⟨o, e, q0⟩ := st.tr a ha
    exact ⟨o, by rw [cut_out fun q => hm a q ha]; exact e, q0⟩, Tabs.cutZ hz st.tabs, st.bas⟩
theorem back_ge {H1 : Hp} (n : ∀ z ∈ Z, H1 z = none) : ∀ b o, H1 b = some o → backH H Z H1 b = some o := fun b o e => by
  rw [back_out fun q => by rw [n b q] at e; cases e]; exact e
theorem Le.back {A1 : Ad} {S1 : Store} {H1 : Hp} (n : ∀ z ∈ Z, H1 z = none) (l : Le A (cutH H Z) A1 H1) (st : Stt K T A1 S1 H1) : Le A H A1 (backH H Z H1) := by
  have nz : ∀ a, a ∈ A1.m → a ∉ Z := fun a ha hz => by
    obtain ⟨o, e, _⟩ := st.tr a ha
    rw [n a hz] at e; cases e
  refine ⟨⟨l.w.pre, fun a o h m e => l.w.new a o h m (by rw [cut_out (nz a h)]; exact e), fun b o e m q => ?_, fun b o e q => ?_, l.w.msub, fun a o h m e => l.w.cnew a o h m (by rw [cut_out (nz a (st.sub a h))]; exact e), l.w.bsm⟩, fun b o e m q => ?_⟩
  · by_cases hb : b ∈ Z
    · rw [back_in hb]; exact e
    · rw [back_out hb]; exact l.w.ext b o (by rw [cut_out hb]; exact e) m q
  · by_cases hb : b ∈ Z
    · rw [back_in hb]; exact ⟨o, e, q⟩
    · rw [back_out hb]; exact l.w.som b o (by rw [cut_out hb]; exact e) q
  · by_cases hb : b ∈ Z
    · rw [back_in hb]; exact e
    · rw [back_out hb]; exact l.exs b o (by rw [cut_out hb]; exact e) m q
end

/-! ### a value is called -/
structure LamOk (G : Wd) (k : Nat) (l : Lam) (ps fr : List Str) (t : TED) : Prop where
  sc : NScope (ps ++ fr) ps fr l.scope
  bind : ∀ (cl : List (Str × Addr)) (pm cv ctv : Value) (us : List Value), us.length = ps.length → bindArgs (PySem.W.kla_fn "<lambda>" l.qual l.args l.body l.scope cl pm cv ctv) ⟨us, []⟩ = pure (ps.zip us)
  mo : MonoE t
  rd : ∀ (X : Cx) (W : WX), XIs G X → X.N = ps ++ fr → X.env.scope = l.scope → X.calm = true → Room k X.A → L2N.Takes X W → PD X G.T W l.body t
def RunL (G : Wd) (k : Nat) (l : Lam) (caps : List (Str × Va)) : List D → Store → QD → EX → Prop := fun xs S Q E =>
  ∃ ps t, LamOk G k l ps (caps.map (·.1)) t ∧ xs.length = ps.length ∧ t (xs.map (fun d => some (Va.d d)) ++ caps.map fun p => some p.2) S Q E
def RunV (G : Wd) (k : Nat) (v : Va) (xs : List D) (S : Store) (Q : QD) (E : EX) : Prop := match v with
  | .d (.ref f) => ∃ n c, FnD G k n f c ∧ xs.length = n ∧ c (xs.map Va.d) S Q E
  | .d (.lam l) => RunL G k l [] xs S Q E
  | .clo l caps => RunL G k l caps xs S Q E
  | _ => False
theorem RunL.mono {G : Wd} {k : Nat} {l : Lam} {caps : List (Str × Va)} {xs : List D} {S : Store} {Q Q' : QD} {E E' : EX} (hq : ∀ d S, Q d S → Q' d S) (he : ∀ x S, E x S → E' x S) (h : RunL G k l caps xs S Q E) : RunL G k l caps xs S Q' E' := by
  obtain ⟨ps, t, L, hl, h⟩ := h
  exact ⟨ps, t, L, hl, L.mo _ _ _ _ _ _ hq he h⟩
theorem RunV.mono {G : Wd} {k : Nat} {v : Va} {xs : List D} {S : Store} {Q Q' : QD} {E E' : EX} (hq : ∀ d S, Q d S → Q' d S) (he : ∀ x S, E x S → E' x S) (h : RunV G k v xs S Q E) : RunV G k v xs S Q' E' := by
  unfold RunV at h ⊢
  split at h
  · obtain ⟨n, c, F, hl, h⟩ := h
    exact ⟨n, c, F, hl, F.mo _ _ _ _ _ _ hq he h⟩
  · exact h.mono hq he
  · exact h.mono hq he
  · exact h.elim
theorem RepCs.get {K : PySem.W.Frag} {A : Ad} {H : Hp} {cl : List (Str × Addr)} : ∀ {caps : List (Str × Va)}, RepCs K A H cl caps →
    ∃ ws : List (Option V), ws.length = caps.length ∧ ∀ (i : Nat) (y : Str) (d : Va), caps[i]? = some (y, d) → ∃ x c oc u, ws[i]? = some (some x) ∧ cl.lookup y = some c ∧ ((c ∉ A.m ∧ H c = some (.frz oc (.own c))) ∨ A.b c = some oc) ∧ oc.data = .cell (some u) ∧ L2.RelV x u ∧ RepV K A (cutH H (cl.map (·.2))) d x
  | [], _ => ⟨[], rfl, fun i y d e => by simp at e⟩
  | (y, d) :: r, h => by
    obtain ⟨⟨c, oc, u, x, h1, h2, h3, h4, h5⟩, h6⟩ := h
    obtain ⟨ws, hl, hw⟩ := RepCs.get h6
    refine ⟨some x :: ws, by rw [List.length_cons, List.length_cons, hl], fun i y' d' e => ?_⟩
    cases i with
    | zero =>
      simp at e
      obtain ⟨rfl, rfl⟩ := e
      exact ⟨x, c, oc, u, rfl, h1, h2, h3, h4, h5⟩
    | succ i =>
      obtain ⟨x', c', oc', u', q⟩ := hw i y' d' (by simpa using e)
      exact ⟨x', c', oc', u', by simpa using q⟩
section
variable {X : Cx} {G : Wd} {W : WX} {k : Nat}
theorem run_lam {pins : List (Addr × Obj)} {σ : L2.St} {s : Shared} {A : Ad} {S : Store} {H : Hp} {Q : VK} {l : Lam} {ps : List Str} {caps : List (Str × Va)} {t : TED} {f c' : Addr} {pm ctv : Value} {cl : List (Str × Addr)} {xs : List D} {vs : List V} {us : List Value}
    (gx : XIs G X) (tk : L2N.Takes X W) (hr : Room (k + 1) X.A) (I : Inv X pins σ H s) (L : LamOk G k l ps (caps.map (·.1)) t) (hf : H f = some (.frz (lamO l cl pm c' ctv) (.own f))) (hc : H c' = some (CodeO c' l.qual)) (ho : ClOk l A H cl) (hz : f ∉ cl.map (·.2))
    (rc : RepCs G.K A H cl caps) (st : Stt G.K G.T A S H) (rx : Reps G.K A H xs vs) (r : Vals vs us) (hl : xs.length = ps.length)
    (q : t (xs.map (fun d => some (Va.d d)) ++ caps.map fun p => some p.2) S (Bk G.K G.T A H Q) (BkX G.K G.T A H fun x d H' => W x d σ H')) : wpAny (model X.prog X.w) X.A (call (.ref f) us) (EP X pins σ Q) X.xe s := by
  obtain ⟨g1, g2, g3, g4, g5⟩ := gx
  have hvl : vs.length = ps.length := by rw [← rx.length, hl]
  obtain ⟨ws, hwl, hw⟩ := rc.get
  have e0 : Env0 G.P G.w G.K G.mg G.base X.A X.stack s H := by rw [← g1, ← g2, ← g3, ← g4, ← g5]; exact I.env0
  have hbase : ∀ c oc, A.b c = some oc → s.heap.get? c = some oc ∧ H c = none := fun c oc e => e0.bs c oc (by rw [st.bas] at e; exact e)
  obtain ⟨Z, hZ⟩ : ∃ Z, Z = (cl.map (·.2)).filter fun c => (H c).isSome := ⟨_, rfl⟩
  have inZ : ∀ z, z ∈ Z → ∃ p ∈ cl, p.2 = z ∧ (H z).isSome = true := fun z hz => by
    rw [hZ] at hz
    obtain ⟨h1, h2⟩ := List.mem_filter.mp hz
    obtain ⟨p, hp, e⟩ := List.mem_map.mp h1
    exact ⟨p, hp, e, h2⟩
  have facts : ∀ z ∈ Z, z ∉ A.m ∧ ∃ oc v, H z = some (.frz oc (.own z)) ∧ oc.data = .cell v := fun z hz => by
    obtain ⟨p, hp, rfl, hs⟩ := inZ z hz
    obtain ⟨oc, v, e1 | e1, e2⟩ := ho.all p hp
    · exact ⟨e1.1, oc, v, e1.2, e2⟩
    · rw [(hbase _ _ e1).2] at hs; cases hs
  have hcell : Cells H Z := fun z hz => (facts z hz).2
  have hm : ∀ z ∈ Z, z ∉ A.m := fun z hz => (facts z hz).1
  have hz : f ∉ Z := fun q => by
    obtain ⟨p, hp, e, _⟩ := inZ f q
    exact hz (List.mem_map.mpr ⟨p, hp, e⟩)
  have cutE : cutH H (cl.map (·.2)) = cutH H Z := by
    funext b
    by_cases hb : b ∈ cl.map (·.2)
    · rw [cut_in hb]
      by_cases hb2 : b ∈ Z
      · rw [cut_in hb2]
      · rw [cut_out hb2]
        cases e : H b with
        | none => rfl
        | some o => exact absurd (by rw [hZ]; exact List.mem_filter.mpr ⟨hb, by rw [e]; rfl⟩) hb2
    · rw [cut_out hb, cut_out fun q => hb (by rw [hZ] at q; exact (List.mem_filter.mp q).1)]
  have getc : ∀ c oc, ((c ∉ A.m ∧ H c = some (.frz oc (.own c))) ∨ A.b c = some oc) → s.heap.get? c = some oc := fun c oc h => by
    rcases h with h | h
    · exact (e0.hok c _ h.2).1
    · exact (hbase c oc h).1
  have C : CellsAt cl (caps.map (·.1)) ws s.heap (cutH H Z) := by
    rw [← cutE]
    refine ⟨by rw [List.length_map]; exact hwl, fun y c e => ⟨cut_in (List.mem_map.mpr ⟨_, PySem.mem_of_lookup e, rfl⟩), ?_⟩, ho.inj, fun i y e => ?_⟩
    · obtain ⟨oc, v, e1, e2⟩ := ho.all _ (PySem.mem_of_lookup e)
      exact ⟨v, oc, getc c oc e1, e2⟩
    · rw [List.getElem?_map] at e
      cases ei : caps[i]? with
      | none => rw [ei] at e; cases e
      | some p =>
        rw [ei] at e
        obtain ⟨y', d⟩ := p
        have ey : y' = y := Option.some.inj (show some y' = some y from e)
        subst ey
        obtain ⟨x, c, oc, u, h1, h2, h3, h4, h5, h6⟩ := hw i y' d ei
        refine ⟨c, h2, fun v hv => ⟨u, ?_, oc, getc c oc h3, h4⟩⟩
        rw [h1] at hv
        have ex : x = v := by injection (Option.some.inj hv)
        exact ex ▸ h5
  have rc0 : codeAny (model G.P G.w) X.A (.call (.ref f) ⟨us, []⟩) (CR (L2N.CX G.P G.w) X.stack G.P G.w H s Q (fun cls d H' => W cls d σ H')) s := by
    refine codeAny_mono (lam_code (k := k) (Q := Qcut H Z Q) (E := Ecut H Z fun cls d H' => W cls d σ H') hr (env0_cut hcell.known e0) (by rw [cut_out hz]; exact hf) (by rw [cut_out (hcell.not hc fun oc _ z => by unfold CodeO at z; cases z)]; exact hc) L.sc C r hvl (L.bind _ _ _ _ us (by rw [← r.length, hvl]))
      (fun hr' => (L.rd (ncx (L2N.CX G.P G.w) G.P G.w G.K G.mg G.base (ps ++ caps.map (·.1)) (lamF l cl c') f X.A X.stack s (cutH H Z) (Ecut H Z fun cls d H' => W cls d σ H')) (fun cls d _ H' => Ecut H Z (fun cls d H' => W cls d σ H') cls d H') ⟨rfl, rfl, rfl, rfl, rfl⟩ rfl rfl rfl hr' (L2N.takes_of rfl rfl rfl rfl)).pe) ?_) fun r s' h => cr_back hcell.known e0.hok e0.frf h
    refine ⟨A, S, _, ⟨?_, fun i x hx => ?_⟩, st.cutZ hcell hm, L.mo _ _ _ _ _ _ (fun d S1 h => ?_) (fun x S1 h => ?_) q⟩
    · simp only [startF, List.length_append, List.length_map, List.length_replicate, rx.length, hwl]
      omega
    · unfold startF
      by_cases hi : i < xs.length
      · rw [List.getElem?_append_left (by rw [List.length_map]; exact hi), List.getElem?_map] at hx
        rw [List.getElem?_append_left (by rw [List.length_map, ← rx.length]; exact hi), List.getElem?_map]
        cases ex : xs[i]? with
        | none => rw [ex] at hx; cases hx
        | some d =>
          rw [ex] at hx
          have hx : Va.d d = x := by injection (Option.some.inj hx)
          subst hx
          obtain ⟨v, h1, h2⟩ := rx.get ex
          exact ⟨v, by rw [h1]; rfl, Rep.cutZ hcell d v h2⟩
      · rw [List.getElem?_append_right (by rw [List.length_map]; omega), List.length_map, List.getElem?_map] at hx
        rw [List.getElem?_append_right (by rw [List.length_map, ← rx.length]; omega), List.length_map, ← rx.length]
        cases ei : caps[i - xs.length]? with
        | none => rw [ei] at hx; cases hx
        | some p =>
          rw [ei] at hx
          obtain ⟨y, d⟩ := p
          have hx : d = x := by injection (Option.some.inj hx)
          subst hx
          obtain ⟨x, c, oc, u, h1, h2, h3, h4, h5, h6⟩ := hw _ y d ei
          rw [cutE] at h6
          refine ⟨x, ?_, h6⟩
          rw [List.getElem?_append_left (List.getElem?_eq_some_iff.mp h1).1]
          exact h1
    · intro A1 H1 v l1 st1 r1 n
      exact h A1 _ v (l1.back n st1) (st1.same (back_ge n)) (Rep.monoW (Le.same (A := A1) (back_ge n)).w _ _ r1)
    · intro A1 H1 l1 st1 n
      exact h A1 _ (l1.back n st1) (st1.same (back_ge n))
  rw [g1, g2]
  refine wpAny_call (codeAny_mono rc0 fun r s' hq => ?_)
  rw [← g1, ← g2] at hq
  cases r with
  | error e => exact L2N.passAt tk σ pins H s e s' I hq
  | ok fl =>
    cases fl with
    | ret u => exact I.after hq
    | next => exact False.elim hq
    | brk => exact False.elim hq
    | cont => exact False.elim hq
end
end Fs
end
section
set_option Elab.async false
set_option linter.all false
set_option maxRecDepth 100000
set_option maxHeartbeats 4000000
namespace Fs
open PySem PySem.Spec PyProof.Rows L2 LamX NdefX

/-! ### a lambda is made: its object is new, and told from now on -/
/-- where the frame's lambdas have their code -/
structure LamAt (T : TB) (X : Cx) (q : Str) : Prop where
  ex : ∃ c P, X.env.code = .ref c ∧ TabB X.base X.mg c P ∧ (P, q) ∈ T.t ∧ ∀ p ∈ T.t, p.1 = P → p.2 = q
  qu : X.env.qual ++ "<lambda>" = q
/-- the lambda's reading -/
def tLamE (T : TB) (X : Cx) (l : Lam) : TE := fun σ H Q => Tabs T.t H ∧ ∀ (f c' : Addr) (pm ctv : Value) (H1 : Hp), ExtN H H1 → Tabs T.t H1 → H f = none →
  H1 f = some (.frz (lamO l (cloFrom X.env.cells l.scope.names []) pm c' ctv) (.own f)) → H1 c' = some (CodeO c' l.qual) → (∀ y c, X.env.cells.lookup y = some c → c ≠ f) → Q (.ref f) H1
section
variable {X : Cx} {pins : List (Addr × Obj)} {σ : L2.St} {H : Hp} {s : Shared}
/-- a new thing is told -/
theorem inv_tell {f : Addr} {ob : Obj} (I : Inv X pins σ H s) (h0 : X.s_0.heap.objs.size ≤ f) (hg : s.heap.get? f = some ob) (hn : H f = none) (hb : ∀ b o, X.base.get? b = some o → b ≠ f) (hl : f ≠ X.env.locals) (hc : ∀ y c, X.env.cells.lookup y = some c → c ≠ f) (hp : ∀ p ∈ X.pn ++ pins, p.1 ≠ f) :
    Inv X pins σ (upd H f (.frz ob (.own f))) s := by
  have keep : ∀ b o, H b = some o → upd H f (.frz ob (.own f)) b = some o := fun b o e => by
    rw [upd_ne (ne_of_none e hn)]; exact e
  have old : ∀ b o, X.s_0.heap.get? b = some o → b ≠ f := fun b o e z => by
    have lt := Heap.lt_size e
    rw [z] at lt
    exact Nat.lt_irrefl _ (Nat.lt_of_lt_of_le lt h0)
  refine ⟨I.ok, I.os, I.bare, ⟨I.base.keep, I.base.slot, fun b o e n x => ?_, I.base.there, fun b xs e => keep _ _ (I.base.tups b xs e), fun b o u e => keep _ _ (I.base.frzs b o u e), fun b ps e => ?_⟩, I.loc, I.cell, ?_, fun y c e => ?_, fun p h => ?_, fun a o e => ?_, I.len⟩
  · rw [upd_ne (old b o e)]; exact I.base.free b o e n x
  · obtain ⟨more, q⟩ := I.base.tbls b ps e
    exact ⟨more, keep _ _ q⟩
  · rw [upd_ne (Ne.symm hl)]; exact I.free
  · rw [upd_ne (hc y c e)]; exact I.freeC y c e
  · obtain ⟨a1, a2, a3⟩ := I.pin p h
    exact ⟨a1, by rw [upd_ne (hp p h)]; exact a2, a3⟩
  · by_cases ha : a = f
    · subst ha
      rw [upd_same] at e
      cases e
      exact ⟨hg, ob, hg⟩
    · rw [upd_ne ha] at e
      exact (I.hok a o e).stay (fun _ _ _ q => q) (fun d q => keep _ _ q) fun d xs q => keep _ _ q
theorem lam_tell {l : Lam} {c' : Addr} {pm ctv : Value} {h' : Heap} {tk : Tok} {H1 : Hp} {T : TB} {Q : VK} {cl : List (Str × Addr)} {s0 : Shared} (I0 : Inv X pins σ H s0) (I : Inv X pins σ H1 { s with heap := h'.push (lamO l cl pm c' ctv), toks := tk }) (eN : ExtN H H1) (T1 : Tabs T.t H1)
    (hsz : s0.heap.objs.size ≤ h'.objs.size) (hn : H1 h'.objs.size = none) (hco : H1 c' = some (CodeO c' l.qual)) (hcl : cl = cloFrom X.env.cells l.scope.names [])
    (q : ∀ (f c' : Addr) (pm ctv : Value) (H1 : Hp), ExtN H H1 → Tabs T.t H1 → H f = none → H1 f = some (.frz (lamO l (cloFrom X.env.cells l.scope.names []) pm c' ctv) (.own f)) → H1 c' = some (CodeO c' l.qual) → (∀ y c, X.env.cells.lookup y = some c → c ≠ f) → Q (.ref f) H1) :
    EP X pins σ Q (.ref h'.objs.size) { s with heap := h'.push (lamO l cl pm c' ctv), toks := tk } := by
  have hg : (h'.push (lamO l cl pm c' ctv)).get? h'.objs.size = some (lamO l cl pm c' ctv) := Heap.get?_push_size _ rfl
  have apart : ∀ b o, s0.heap.get? b = some o → b ≠ h'.objs.size := fun b o e z => by
    have lt := Heap.lt_size e
    rw [z] at lt
    exact Nat.lt_irrefl _ (Nat.lt_of_lt_of_le lt hsz)
  have nl : h'.objs.size ≠ X.env.locals := fun z => by
    obtain ⟨m, hns, _⟩ := I0.loc
    obtain ⟨oL, _, _, hoL, _⟩ := hns
    exact apart _ _ hoL z.symm
  have nc : ∀ y c, X.env.cells.lookup y = some c → c ≠ h'.objs.size := fun y c e => by
    obtain ⟨v, o, ho, _⟩ := I0.cell y c e
    exact apart c o ho
  have J := inv_tell (f := h'.objs.size) (ob := lamO l cl pm c' ctv) I (Nat.le_trans I0.sz hsz) hg hn (fun b o e => apart b o (I0.bk b o e)) nl nc fun p hp => apart p.1 p.2 (I0.pin p hp).1
  have nH : H h'.objs.size = none := I0.hok.fresh hsz
  refine ⟨.ref h'.objs.size, _, J, rfl, q h'.objs.size c' pm ctv _ (fun b o e n => ?_) (T1.ext fun b o e => ?_) nH (by rw [upd_same, hcl]) ?_ nc⟩
  · have e1 := eN b o e n
    rw [upd_ne (ne_of_none e1 hn)]; exact e1
  · rw [upd_ne (ne_of_none e hn)]; exact e
  · rw [upd_ne (ne_of_none hco hn)]; exact hco
theorem pe_lam {T : TB} {l : Lam} {lpos : Pos} (L : LamAt T X l.qual) (hfree : ∀ y ∈ l.scope.names, y.2 = .free → X.env.scope.names.lookup y.1 = some .cell ∨ X.env.scope.names.lookup y.1 = some .free) (hd0 : l.args.defaults = []) (hk0 : l.args.kw_defaults = []) :
    PE X (.Lambda l.args l.body l.scope lpos) (tLamE T X l) := by
  refine ⟨fun pins s σ H Q I h => ?_⟩
  obtain ⟨⟨c, P, hcode, TB, hm, hu⟩, hq⟩ := L
  obtain ⟨hT, h⟩ := h
  obtain ⟨ps, hP, ht, ha⟩ := hT _ hm
  have has : ∀ y ∈ l.scope.names, y.2 = .free → ∃ c, X.env.cells.lookup y.1 = some c := fun y hy e => (hfree y hy e).elim (fun k => I.ok.has _ (.inl k)) fun k => I.ok.has _ (.inr k)
  have hP2 : s.heap.get? P = some { cls := .none, data := .fields ps } := I.hok P _ hP
  refine PySem.W.kla_eval (by rw [defaultsOf_eq, hd0, hk0]; rfl) ?_
  rw [hq]
  rcases hcase : codeAmong lpos ps.toList with _ | cv
  · refine PySem.W.kla_makeFunction (mg := X.mg) (c := c) (P := P) (ps := ps) (closure_ok has) I.ok.glob (I.mod.glob.keeps I.bk) hcode (TB.code.keeps I.bk) hP2 ht hcase TB.gP (TB.bm.keeps I.bk) fun d ctv hp tk hx hge hlt hrec htb => ?_
    obtain ⟨c2, oc, vs, t, e2, hoc, hdd, hv⟩ := hrec
    cases e2
    have sz : s.heap.objs.size ≤ hp.objs.size := Nat.le_trans hge (Nat.le_of_lt hlt)
    have nD : H d = none := I.hok.fresh hge
    have J := inv_table (t' := tk) (q := l.qual) (more := #[rawInt lpos.line, rawInt lpos.col, .ref d]) (h' := hp.push (lamO l (cloFrom X.env.cells l.scope.names []) ((X.mg "__name__").getD .none) d ctv)) I hP (fun b o hb e => Heap.get?_push_of_some _ (hx b o hb e))
      (Heap.get?_push_of_some _ htb) hge ⟨oc, vs, t, Heap.get?_push_of_some _ hoc, hdd, hv⟩
    have grow : ExtN H (upd (upd H P (.tbl (ps ++ #[rawInt lpos.line, rawInt lpos.col, .ref d]))) d (CodeO d l.qual)) := fun b o e n => by
      have b1 : b ≠ d := ne_of_none e nD
      have b2 : b ≠ P := fun z => by
        rw [z, hP] at e
        exact n ps (Option.some.inj e).symm
      rw [upd_ne b1, upd_ne b2]
      exact e
    have lst : (ps ++ #[rawInt lpos.line, rawInt lpos.col, .ref d]).toList = ps.toList ++ [rawInt lpos.line, rawInt lpos.col, .ref d] := by simp
    refine lam_tell (T := T) I J grow (fun p hpp => ?_) sz ?_ upd_same rfl h
    · by_cases e : p.1 = P
      · rw [hu p hpp e, e]
        refine ⟨ps ++ #[rawInt lpos.line, rawInt lpos.col, .ref d], ?_, ?_, fun p2 w hw => ?_⟩
        · rw [upd_ne (ne_of_none hP nD), upd_same]
        · rw [lst]; exact PySem.TriplesOk_snoc _ _ _ _ ht
        · rw [lst] at hw
          rcases among_app _ ht hw with z | z
          · obtain ⟨c0, k1, k2⟩ := ha p2 w z
            exact ⟨c0, k1, grow _ _ k2 codeO_ne⟩
          · exact ⟨d, z, upd_same⟩
      · obtain ⟨qs, a1, a2, a3⟩ := hT p hpp
        refine ⟨qs, ?_, a2, fun p2 w hw => ?_⟩
        · rw [upd_ne (ne_of_none a1 nD), upd_ne e]; exact a1
        · obtain ⟨c0, k1, k2⟩ := a3 p2 w hw
          exact ⟨c0, k1, grow _ _ k2 codeO_ne⟩
    · have n1 : hp.objs.size ≠ d := Nat.ne_of_gt hlt
      have n2 : hp.objs.size ≠ P := Nat.ne_of_gt (Nat.lt_of_lt_of_le (Heap.lt_size hP2) sz)
      rw [upd_ne n1, upd_ne n2]
      exact I.hok.fresh sz
  · obtain ⟨d, e, hco⟩ := ha lpos cv hcase
    subst e
    refine PySem.W.kla_makeFunctionHit (mg := X.mg) (c := c) (P := P) (ps := ps) (closure_ok has) I.ok.glob (I.mod.glob.keeps I.bk) hcode (TB.code.keeps I.bk) hP2 ht hcase (TB.bm.keeps I.bk) fun ctv hp tk hx sz => ?_
    have J : Inv X pins σ H { s with heap := hp.push (lamO l (cloFrom X.env.cells l.scope.names []) ((X.mg "__name__").getD .none) d ctv), toks := tk } := I.kept fun b o e => Heap.get?_push_of_some _ (hx b o e)
    exact lam_tell (T := T) I J (ExtN.refl H) hT sz (I.hok.fresh sz) hco rfl h
end
end Fs
end
section
set_option Elab.async false
set_option linter.all false
set_option maxRecDepth 100000
set_option maxHeartbeats 4000000
namespace Fs
open PySem PySem.Spec PyProof.Rows L2 LamX NdefX

/-! ### a name that holds a function is called -/
/-- what calling a value does, and which values are called -/
structure RV where
  ok : Va → Prop
  run : Va → List D → Store → QD → EX → Prop
def rv0 : RV := ⟨fun _ => False, fun _ _ _ _ _ => False⟩
def rvG (G : Wd) (k : Nat) : RV := ⟨fun v => match v with
  | .d (.ref f) => PySem.W.keepIn G.K (.ref f) = true
  | .d (.lam _) => True
  | .clo _ _ => True
  | _ => False, RunV G k⟩
structure MonoRv (rv : RV) : Prop where
  mo : ∀ v xs S Q Q' E E', (∀ d S, Q d S → Q' d S) → (∀ x S, E x S → E' x S) → rv.run v xs S Q E → rv.run v xs S Q' E'
/-- the reading of calls is true at this room -/
def RvOk (G : Wd) (k : Nat) (rv : RV) : Prop := (∀ v, ¬ rv.ok v) ∨ ∃ j, j + 1 ≤ k ∧ (∀ v, rv.ok v → (rvG G j).ok v) ∧ ∀ v xs S Q E, rv.run v xs S Q E → RunV G j v xs S Q E
theorem RvOk.mono {G : Wd} {j k : Nat} {rv : RV} (h : RvOk G j rv) (hk : j ≤ k) : RvOk G k rv := h.elim .inl fun ⟨i, h1, h2, h3⟩ => .inr ⟨i, Nat.le_trans h1 hk, h2, h3⟩
theorem rvG_mono {G : Wd} {k : Nat} : MonoRv (rvG G k) := ⟨fun v xs S Q Q' E E' hq he h => RunV.mono hq he h⟩
theorem rv0_mono : MonoRv rv0 := ⟨fun v xs S Q Q' E E' hq he h => h⟩
def dCallV (rv : RV) (i : Nat) (t : TAD) : TED := fun env S Q E => match env[i]? with
  | some (some v) => rv.ok v ∧ t env S (fun xs S1 => rv.run v xs S1 Q E) E
  | _ => False
theorem dCallV_mono {rv : RV} {i : Nat} {t : TAD} (hr : MonoRv rv) (ht : MonoA t) : MonoE (dCallV rv i t) := by
  intro env S Q Q' E E' hq he h
  unfold dCallV at h ⊢
  split at h
  · exact ⟨h.1, ht _ _ _ _ _ _ (fun xs S1 h1 => hr.mo _ _ _ _ _ _ _ hq he h1) he h.2⟩
  · exact h.elim
section
variable {X : Cx} {G : Wd} {W : WX} {k : Nat}
theorem run_v {pins : List (Addr × Obj)} {σ : L2.St} {s : Shared} {A : Ad} {S : Store} {H : Hp} {Q : VK} {v : Va} {f : Addr} {xs : List D} {vs : List V} {us : List Value} (gx : XIs G X) (tk : L2N.Takes X W) (hr : Room (k + 1) X.A) (I : Inv X pins σ H s)
    (st : Stt G.K G.T A S H) (rv : RepV G.K A H v (.ref f)) (rx : Reps G.K A H xs vs) (r : Vals vs us) (q : RunV G k v xs S (Bk G.K G.T A H Q) (BkX G.K G.T A H fun x d H' => W x d σ H')) : wpAny (model X.prog X.w) X.A (call (.ref f) us) (EP X pins σ Q) X.xe s := by
  unfold RunV at q
  split at q
  · rename_i a
    have e : V.ref f = V.ref a := rv
    cases e
    obtain ⟨n, c, F, hl, q⟩ := q
    obtain ⟨fd, ps, hb, hn, ok⟩ := F.ok
    obtain ⟨g1, g2, g3, g4, g5⟩ := gx
    refine run_fnS (E := WE W) (by rw [g1, g2, g3, g4, g5]; exact ok) (hr.mono (Nat.le_succ k)) (by rw [g3]; exact hb) (by rw [← g1, ← g2]; exact L2N.passAt tk σ) I r ?_
    exact ⟨A, S, xs.map Va.d, by rw [List.length_map]; exact hl, RepVs.of rx, st, q⟩
  · rename_i l
    obtain ⟨f', pm, c', ctv, e, n1, n2, h1, h2⟩ := rv
    cases e
    obtain ⟨ps, t, L, hl, q⟩ := q
    refine run_lam (cl := []) (caps := []) gx tk hr I L h1 h2 ⟨fun p hp => by simp at hp, fun y z c e => by simp at e, fun y hy e => ?_⟩ (by simp) trivial st rx r hl q
    have := L.sc.free y hy e
    simp at this
  · rename_i l caps
    obtain ⟨f', pm, c', ctv, cl, e, n1, n2, h1, h2, h3, h4, h5⟩ := rv
    cases e
    obtain ⟨ps, t, L, hl, q⟩ := q
    exact run_lam gx tk hr I L h1 h2 h3 h4 h5 st rx r hl q
  · exact q.elim
/-- a value that is called is a function -/
theorem callable {A : Ad} {H : Hp} {v : Va} {x : V} (h : (rvG G k).ok v) (r : RepV G.K A H v x) : ∃ f, x = .ref f ∧ ((v = .d (.ref f) ∧ PySem.W.keepIn G.K (.ref f) = true) ∨ ∃ l cl pm c' ctv, f ∉ A.m ∧ H f = some (.frz (lamO l cl pm c' ctv) (.own f))) := by
  cases v with
  | d x' =>
    cases x' with
    | ref a => exact ⟨a, r, .inl ⟨rfl, h⟩⟩
    | lam l =>
      obtain ⟨f, pm, c', ctv, e, n1, n2, h1, h2⟩ := r
      exact ⟨f, e, .inr ⟨l, [], pm, c', ctv, n1, h1⟩⟩
    | _ => exact (show False from h).elim
  | clo l caps =>
    obtain ⟨f, pm, c', ctv, cl, e, n1, n2, h1, _⟩ := r
    exact ⟨f, e, .inr ⟨l, cl, pm, c', ctv, n1, h1⟩⟩
theorem fnAt_frz {pins : List (Addr × Obj)} {σ : L2.St} {s : Shared} {H : Hp} {f : Addr} {l : Lam} {cl : List (Str × Addr)} {pm ctv : Value} {c' : Addr} (I : Inv X pins σ H s) (h : H f = some (.frz (lamO l cl pm c' ctv) (.own f))) : PySem.W.FnAt f s.heap :=
  ⟨_, none, _, _, (I.hok f _ h).1⟩
theorem up_callV {rv : RV} {i : Nat} {x : Str} {es : List Expr} {t : TAD} {p pos : Pos} (gx : XIs G X) (tk : L2N.Takes X W) (hrv : RvOk G k rv) (hr : Room k X.A) (hN : X.N[i]? = some x) (hv : Vis X.env.scope x) (hd : (x == ("__debug__" : Str)) = false) (hcd : (x == ("__classdict__" : Str)) = false)
    (hcall : ∀ (f : Addr) (pins : List (Addr × Obj)) (s : Shared) (σ : L2.St) (H : Hp) (Q : Value → Shared → Prop) (P : List V → Hp → Prop), Inv X pins σ H s → (PySem.W.keepIn X.K (.ref f) = true ∨ ∃ (l : Lam) (cl : List (Str × Addr)) (pm : Value) (c' : Addr) (ctv : Value), H f = some (.frz (lamO l cl pm c' ctv) (.own f)) ∧ ∀ vs H2, P vs H2 → H2 f = some (.frz (lamO l cl pm c' ctv) (.own f))) →
      upA X.K G.T W t σ H P → (∀ vs us H2 s2, Inv X pins σ H2 s2 → Vals vs us → P vs H2 → wpAny (model X.prog X.w) X.A (call (.ref f) us) Q X.xe s2) → wpAny (model X.prog X.w) X.A (callWith pos (.ref f) [] (backTo pos (starEach es X.env)) []) Q X.xe s)
    (mt : MonoA t) {σ : L2.St} {H : Hp} {Q : VK} {pins : List (Addr × Obj)} {s : Shared} (I : Inv X pins σ H s) (q : upE X.K G.T W (dCallV rv i t) σ H Q) : wpAny (model X.prog X.w) X.A (eval (.Call (.Name x p) es [] pos) X.env) (EP X pins σ Q) X.xe s := by
  obtain ⟨A, S, env, eo, st, q⟩ := q
  unfold dCallV at q
  split at q
  · rename_i v hx
    obtain ⟨hok, q⟩ := q
    rcases hrv with z | ⟨j, hj, ok1, ok2⟩
    · exact absurd hok (z v)
    have g3 := gx.K
    obtain ⟨y, hs, rv1⟩ := eo.at_ i _ hx
    rw [g3] at rv1
    obtain ⟨f, rfl, hcase⟩ := callable (ok1 v hok) rv1
    refine wpAny_Call_Name_kw (thn ((pe_var (pos := p) (i := i) hN hv hd hcd).run pins s σ H (fun v H1 => v = .ref f ∧ H1 = H) I ⟨.ref f, hs, rfl, rfl⟩) fun u s1 ⟨w, H1, I1, r1, q1⟩ => ?_)
    obtain ⟨ew, eH⟩ := q1
    subst ew
    rw [eH] at I1
    obtain rfl : u = Value.ref f := r1
    refine hcall f pins s1 σ H _ (fun vs H2 => ∃ A2 S2 xs, Le A H A2 H2 ∧ Stt X.K G.T A2 S2 H2 ∧ Reps X.K A2 H2 xs vs ∧ rv.run v xs S2 (Bk X.K G.T A H Q) (BkX X.K G.T A H fun x d H' => W x d σ H')) I1 ?_ ?_ fun vs us H2 s2 I2 r h => ?_
    · rcases hcase with ⟨_, h⟩ | ⟨l, cl, pm, c', ctv, n, h⟩
      · exact .inl (by rw [g3]; exact h)
      · refine .inr ⟨l, cl, pm, c', ctv, h, fun vs H2 ⟨A2, S2, xs, l2, _⟩ => l2.exs _ _ h (fun z => n (st.sub f z)) fun ps z => by cases z⟩
    · exact ⟨A, S, env, eo, st, mt _ _ _ _ _ _ (fun ds S1 h A2 H2 vs l2 st2 rs => ⟨A2, S1, ds, l2, st2, rs, h⟩) (fun _ _ z => z) q⟩
    · obtain ⟨A2, S2, xs, l2, st2, rx, h⟩ := h
      rw [g3] at st2 rx h
      exact run_v (k := j) gx tk (hr.mono hj) I2 st2 (RepV.mono l2 _ _ rv1) rx r (RunV.mono (fun d S h => Bk.mono l2 (fun _ _ z => z) h) (fun x S h => BkX.mono l2 (fun _ _ _ z => z) h) (ok2 _ _ _ _ _ h))
  · exact q.elim
theorem pd_callV {rv : RV} {i : Nat} {x : Str} {e : Expr} {es : List Expr} {t : TAD} {p pos : Pos} (gx : XIs G X) (tk : L2N.Takes X W) (mr : MonoRv rv) (hrv : RvOk G k rv) (hr : Room k X.A) (hN : X.N[i]? = some x) (hv : Vis X.env.scope x) (hd : (x == ("__debug__" : Str)) = false) (hcd : (x == ("__classdict__" : Str)) = false)
    (ha : PAD X G.T W (e :: es) t) (he : starEach (e :: es) X.env = (false, eval e X.env) :: starEach es X.env) (hpl : (backTo pos (starEach es X.env)).any (·.1) = false) : PD X G.T W (.Call (.Name x p) (e :: es) [] pos) (dCallV rv i t) := by
  refine ⟨⟨fun pins s σ H Q I q => up_callV gx tk hrv hr hN hv hd hcd (fun f pins s σ H Q P I hk ht hf => ?_) ha.mo I q⟩, dCallV_mono mr ha.mo⟩
  rcases hk with hk | ⟨l, cl, pm, c', ctv, h1, h2⟩
  · exact PySem.W.callWith_K (first := []) (h₀ := X.base) I.ok.mod.kin hk (thn (ha.pa.run pos pins s σ H P I ht) fun us s2 ⟨vs, H2, I2, r, q⟩ => ⟨I2.kIn, hf vs us H2 s2 I2 r q⟩) he hpl
  · exact PySem.W.callWith_F (first := []) (fnAt_frz I h1) (thn (ha.pa.run pos pins s σ H P I ht) fun us s2 ⟨vs, H2, I2, r, q⟩ => ⟨fnAt_frz I2 (h2 _ _ q), hf vs us H2 s2 I2 r q⟩) he hpl
theorem pd_callV0 {rv : RV} {i : Nat} {x : Str} {p pos : Pos} (gx : XIs G X) (tk : L2N.Takes X W) (mr : MonoRv rv) (hrv : RvOk G k rv) (hr : Room k X.A) (hN : X.N[i]? = some x) (hv : Vis X.env.scope x) (hd : (x == ("__debug__" : Str)) = false) (hcd : (x == ("__classdict__" : Str)) = false) :
    PD X G.T W (.Call (.Name x p) [] [] pos) (dCallV rv i dNil) := by
  have mN := (pad_nil (X := X) (T := G.T) (W := W)).mo
  refine ⟨⟨fun pins s σ H Q I q => up_callV gx tk hrv hr hN hv hd hcd (fun f pins s σ H Q P I hk ht hf => ?_) mN I q⟩, dCallV_mono mr mN⟩
  obtain ⟨A, S, env, eo, st, ht⟩ := ht
  have ht := ht A H [] (Le.refl _ _) st rfl
  rcases hk with hk | ⟨l, cl, pm, c', ctv, h1, h2⟩
  · exact PySem.W.callWith_K0 (first := []) I.kIn hk (hf [] [] H s I .nil ht)
  · exact PySem.W.callWith_F0 (first := []) (fnAt_frz I h1) (hf [] [] H s I .nil ht)
end
end Fs
end
section
set_option Elab.async false
set_option linter.all false
set_option maxRecDepth 100000
set_option maxHeartbeats 4000000
namespace Fs
open PySem PySem.Spec PyProof.Rows L2 LamX NdefX

theorem cloFrom_no {cells : List (Str × Addr)} : ∀ {names : List (Str × NameKind)} {acc : List (Str × Addr)}, (∀ y ∈ names, y.2 ≠ .free) → cloFrom cells names acc = acc
  | [], acc, _ => rfl
  | (n, k) :: r, acc, h => by
    have hk : (k == NameKind.free) = false := by
      have := h (n, k) List.mem_cons_self
      simpa using this
    show (if k == .free then cloFrom cells r ((n, (cells.lookup n).getD 0) :: acc) else cloFrom cells r acc) = acc
    rw [hk]
    exact cloFrom_no fun y hy => h y (List.mem_cons_of_mem _ hy)
section
variable {K : PySem.W.Frag} {T : TB} {A : Ad} {S : Store} {H H1 : Hp}
theorem CellOk.plain0 {a : Addr} : ∀ {c : Cell}, CellOk K A H a c → ∃ o, H a = some o ∧ plainO o
  | .lst xs, ⟨vs, h1, _⟩ => ⟨_, h1, trivial⟩
  | .ins C fs, ⟨dx, vfs, h1, _⟩ => ⟨_, h1, trivial⟩
  | .dct kvs, ⟨vkvs, h1, _⟩ => ⟨_, h1, trivial⟩
theorem Stt.sameT (st : Stt K T A S H) (h : ExtN H H1) (t : Tabs T.t H1) : Stt K T A S H1 := by
  refine ⟨st.nd, st.len, fun i c e => ?_, st.sub, fun a ha => ?_, t, st.bas⟩
  · obtain ⟨a, h1, h2⟩ := st.cell i c e
    obtain ⟨o, ho, hp⟩ := h2.plain0
    exact ⟨a, h1, h2.leW (Le.sameT h).w fun o' e' => h a o' e' (by rw [ho] at e'; cases e'; exact plainO_tbl hp)⟩
  · obtain ⟨o, e, p⟩ := st.tr a ha
    exact ⟨o, h a o e (plainO_tbl p), p⟩
theorem Stt.code_out (st : Stt K T A S H) {c : Addr} {q : Str} (h : H c = some (CodeO c q)) : c ∉ A.m := fun z => by
  obtain ⟨o, e, p⟩ := st.tr c z
  rw [h] at e
  cases e
  exact plainO_code p rfl
end
section
variable {X : Cx} {G : Wd} {W : WX} {k : Nat}
/-- a lambda that captures nothing -/
theorem pd_lam0 {l : Lam} {lpos : Pos} (gx : XIs G X) (L : LamAt G.T X l.qual) (hno : ∀ y ∈ l.scope.names, y.2 ≠ .free) (hd0 : l.args.defaults = []) (hk0 : l.args.kw_defaults = []) : PD X G.T W (.Lambda l.args l.body l.scope lpos) (dC (.lam l)) := by
  refine ⟨PE.imp (pe_lam L (fun y hy e => absurd e (hno y hy)) hd0 hk0) fun σ H Q q => ?_, dC_mono _⟩
  obtain ⟨A, S, env, eo, st, q⟩ := q
  refine ⟨st.tabs, fun f c' pm ctv H1 eN T1 nf hf hc _ => ?_⟩
  have st1 := st.sameT eN T1
  refine q A H1 _ (Le.sameT eN) st1 ⟨f, pm, c', ctv, rfl, st.fresh nf, st1.code_out hc, ?_, hc⟩
  rw [cloFrom_no hno] at hf
  exact hf
/-- the context of the lambda's body, over the maker's names -/
def lamCxN (X : Cx) (A : Around) (outer : List Env) (s : Shared) (H : Hp) (E : XK) (scope : Scope) (f c' : Addr) : Cx :=
  { lamCx X A outer s H E scope f c' with
    xe := fun e s' => wpAny (model X.prog X.w) (A.deeper (lamEnv X scope s.heap.objs.size f c')) (leaving (lamEnv X scope s.heap.objs.size f c') e) (fun _ s'' => L2N.CX X.prog X.w outer H s E e s'') (fun e' s'' => L2N.CX X.prog X.w outer H s E e' s'') s' }
theorem inv_lamN {A : Around} {outer : List Env} {s s1 : Shared} {H H1 : Hp} {E : XK} {scope : Scope} {f c' : Addr} {σ : L2.St} (I : Inv (lamCx X A outer s H E scope f c') [] σ H1 s1) : Inv (lamCxN X A outer s H E scope f c') [] σ H1 s1 :=
  ⟨⟨I.ok.mod, I.ok.kind, I.ok.glob, I.ok.blt, I.ok.above, I.ok.inj, I.ok.has, I.ok.cab, I.ok.hd, I.ok.frames, I.ok.stk, I.ok.exf, I.ok.bs, I.ok.bsz, I.ok.noex, I.ok.exfs, I.ok.funs, I.ok.frf⟩, I.os, I.bare, I.base, I.loc, I.cell, I.free, I.freeC, I.pin, I.hok, I.len⟩
theorem takes_lamN {A : Around} {outer : List Env} {s : Shared} {H : Hp} {E : XK} {scope : Scope} {f c' : Addr} : L2N.Takes (lamCxN X A outer s H E scope f c') (fun cls d _ H' => E cls d H') := L2N.takes_of rfl rfl rfl rfl
/-- the lambda is called, within the def that got it -/
theorem act_pe {Ng : List Str} {qg : Str} {sg : Scope} {g f c' : Addr} {cdg pm ctv : Value} {l : Lam} {i : Nat} {a : Str} {pn : List (Addr × Obj)} {xe : Value → Shared → Prop} {W' : WX} {E Eg : XK} {tb : TE} {p1 p2 : Pos} {pins : List (Addr × Obj)} {σ : L2.St} {H : Hp} {s : Shared} (I : Inv X pins σ H s) (L : LamS X.env.scope l.scope)
    (hbind : bindArgs (PySem.W.kla_fn "<lambda>" l.qual l.args l.body l.scope (cloFrom X.env.cells l.scope.names []) pm (.ref c') ctv) ⟨[], []⟩ = pure []) (hq : X.env.qual ++ "<lambda>" = l.qual)
    (tk : L2N.Takes ((cxOf (L2N.CX X.prog X.w) X.prog X.w X.K X.mg X.base Ng qg sg g cdg X.A X.stack s H Eg).tr pn xe) W') (hW : ∀ cls d σ' H', E cls d H' → W' cls d σ' H') (hr : Room (k + 1) (X.A.deeper (envOfC qg sg s.heap.objs.size g cdg)))
    (hbody : ∀ (A : Around) (outer : List Env) (s : Shared) (H : Hp), Room k (A.deeper (lamEnv X l.scope s.heap.objs.size f c')) → PE (lamCxN X A outer s H E l.scope f c') l.body tb)
    (hN : Ng[i]? = some a) (hv : Vis sg a) (hd : (a == ("__debug__" : Str)) = false) (hcd : (a == ("__classdict__" : Str)) = false) :
    PE ((cxOf (L2N.CX X.prog X.w) X.prog X.w X.K X.mg X.base Ng qg sg g cdg X.A X.stack s H Eg).tr pn xe) (.Call (.Name a p1) [] [] p2)
      (fun σZ HZ Q => σZ[i]? = some (some (.ref f)) ∧ HZ f = some (.frz (lamO l (cloFrom X.env.cells l.scope.names []) pm c' ctv) (.own f)) ∧ HZ c' = some (CodeO c' l.qual) ∧ tb σ HZ Q) := by
  refine ⟨fun pz sz σz HZ Q IZ h => ?_⟩
  obtain ⟨hs, hff, hcc, ht⟩ := h
  refine wpAny_Call_Name_kw (thn ((pe_var (pos := p1) (i := i) hN hv hd hcd).run pz sz σz HZ (fun v H1 => v = .ref f ∧ H1 = HZ) IZ ⟨.ref f, hs, rfl, rfl⟩) fun u s1 ⟨v, H1, I1, r1, q1⟩ => ?_)
  obtain ⟨ev, eH⟩ := q1
  subst ev
  rw [eH] at I1
  obtain rfl : u = Value.ref f := r1
  have of1 : s1.heap.get? f = some (lamO l (cloFrom X.env.cells l.scope.names []) pm c' ctv) := (I1.hok f _ hff).1
  refine PySem.W.callWith_F0 ⟨_, none, _, _, of1⟩ ?_
  have un : Un (frs X.stack) [] H HZ s.heap s1.heap := I1.base
  have rc : codeAny (model X.prog X.w) (X.A.deeper (envOfC qg sg s.heap.objs.size g cdg)) (.call (.ref f) ⟨[], []⟩) (CR (L2N.CX X.prog X.w) (envOfC qg sg s.heap.objs.size g cdg :: X.stack) X.prog X.w HZ s1 Q E) s1 := by
    refine PySem.W.kla_callFunE hr.depth of1 rfl L.co L.gen rfl (codeO_at I1.hok hcc) ?_
    rw [hbind]
    refine wpAny_pure (wpAny_newFunctionEnv (fun y hy => (L.own y hy).2) (fun y hy => absurd hy (by simp)) (fun h₁ hns hsb => ⟨I1.nolimit.fresh _ hsb, ?_⟩) L.kind)
    have keeps : ∀ b o, s1.heap.get? b = some o → h₁.get? b = some o := fun b o e => hsb.extBut b o (Nat.ne_of_lt (Heap.lt_size e)) (Heap.get?_push_of_some _ e)
    have J := inv_lamN (lam_start2 (c' := c') (f := f) (E := E) (tk := s1.toks + ([] : List (Str × Value)).length) I L I1.env0 hr.hd un hns keeps)
    have body := (hbody _ _ s1 HZ (hr.deeper _)).run [] _ _ HZ Q J ht
    unfold lamCxN lamCx lamEnv at body
    rw [hq] at body
    refine PySem.W.kla_codeExpr (wpAny_mono body (fun v s' hh => ?_) fun e s' hh => hh)
    obtain ⟨w', H', J', rv, q⟩ := hh
    exact ⟨w', H', J'.os, J'.bare, J'.base, J'.hok, rv, q⟩
  have hx : Passes (L2N.CX X.prog X.w) ((cxOf (L2N.CX X.prog X.w) X.prog X.w X.K X.mg X.base Ng qg sg g cdg X.A X.stack s H Eg).tr pn xe) E := L2N.passes_call tk hW
  refine wpAny_call (codeAny_mono rc fun r s' hh => ?_)
  cases r with
  | error e => exact hx pz σz HZ s1 e s' I1 hh
  | ok fl =>
    cases fl with
    | ret u => exact I1.after hh
    | next => exact False.elim hh
    | brk => exact False.elim hh
    | cont => exact False.elim hh
/-! ### a def that calls the lambda it gets -/
structure Runner (G : Wd) (k : Nat) (x : Str) (r : TED → TED) : Prop where
  mo : ∀ t, MonoE t → MonoE (r t)
  run : ∀ (X : Cx) (W : WX) (l : Lam) (tb : TED) (p lpos pos : Pos), XIs G X → Room (k + 2) X.A → Gl X x → L2N.Takes X W → LamAt G.T X l.qual → LamS X.env.scope l.scope → l.args.defaults = [] → l.args.kw_defaults = [] →
    (∀ (q : Str) (cl : List (Str × Addr)) (pm cv ctv : Value), bindArgs (PySem.W.kla_fn "<lambda>" q l.args l.body l.scope cl pm cv ctv) ⟨[], []⟩ = pure []) →
    (∀ (A : Around) (outer : List Env) (s : Shared) (H : Hp) (E : XK) (f c' : Addr), Room k (A.deeper (lamEnv X l.scope s.heap.objs.size f c')) → PD (lamCxN X A outer s H E l.scope f c') G.T (fun cls d _ H' => E cls d H') l.body tb) → MonoE tb →
    PD X G.T W (.Call (.Name x p) [.Lambda l.args l.body l.scope lpos] [] pos) (r tb)
theorem Runner.mono {j : Nat} {x : Str} {r : TED → TED} (R : Runner G j x r) (h : j ≤ k) (hk : True) : ∀ t, MonoE t → MonoE (r t) := R.mo
/-- lambda: .., the answer of its call (what), or the error's word (nm) -/
def dTold (what : D → D) (nm : Addr → Option D) (tb : TED) : TED := fun env S Q E => tb env S (fun d S1 => Q (what d) S1) (fun x S1 => match x with
  | .ref C => (match nm C with
    | some w => Q w S1
    | none => False)
  | _ => False)
theorem dTold_mono {what : D → D} {nm : Addr → Option D} {tb : TED} (h : MonoE tb) : MonoE (dTold what nm tb) := fun env S Q Q' E E' hq he q => h _ _ _ _ _ _ (fun d S1 h1 => hq _ _ h1) (fun x S1 h1 => by
  cases x with
  | ref C =>
    dsimp only at h1 ⊢
    split at h1
    · exact hq _ _ h1
    · exact h1.elim
  | _ => exact h1.elim) q
end
end Fs
end
section
set_option Elab.async false
set_option linter.all false
set_option maxRecDepth 100000
set_option maxHeartbeats 4000000
namespace Fs
open PySem PySem.Spec PyProof.Rows L2 LamX NdefX

/-! ### g(lambda ..: .., ..), the lambda captures names of the def -/
/-- the cells are told -/
def tellH (H : Hp) (h : Heap) (Z : List Addr) : Hp := fun b => if b ∈ Z then (h.get? b).map (fun oc => HO.frz oc (.own b)) else H b
theorem tell_out {H : Hp} {h : Heap} {Z : List Addr} {b : Addr} (hb : b ∉ Z) : tellH H h Z b = H b := by unfold tellH; rw [if_neg hb]
theorem tell_in {H : Hp} {h : Heap} {Z : List Addr} {b : Addr} {oc : Obj} (hb : b ∈ Z) (e : h.get? b = some oc) : tellH H h Z b = some (.frz oc (.own b)) := by unfold tellH; rw [if_pos hb, e]; rfl
section
variable {P : Program} {w : World} {H H' : Hp} {h h' B : Heap} {Z fs : List Addr}
theorem un_forget (hz : ∀ z ∈ Z, H z = none ∧ ∃ oc, h.get? z = some oc) (hf : ∀ b ∈ fs, b ∉ Z) (x : HOk P w H' h') (u : Un fs [] (tellH H h Z) H' h h') : (∀ z ∈ Z, H' z = tellH H h Z z) ∧ Un fs [] H (cutH H' Z) h h' := by
  have key : ∀ z ∈ Z, H' z = tellH H h Z z := fun z hh => by
    obtain ⟨_, oc, e⟩ := hz z hh
    rw [tell_in hh e]
    exact u.frzs z oc _ (tell_in hh e)
  have same : ∀ b, b ∉ Z → tellH H h Z b = H b := fun b hb => tell_out hb
  refine ⟨key, ⟨fun b o e n nf nx => ?_, fun b o e n hb nx => u.slot b o e (by rw [same b (hf b hb)]; exact n) hb nx, fun b o e n nx => ?_, u.there, fun b xs e => ?_, fun b o q e => ?_, fun b ps e => ?_⟩⟩
  · by_cases hb : b ∈ Z
    · have k := key b hb
      rw [tell_in hb e] at k
      exact (x b _ k).1
    · exact u.keep b o e (by rw [same b hb]; exact n) nf nx
  · by_cases hb : b ∈ Z
    · exact cut_in hb
    · rw [cut_out hb]; exact u.free b o e (by rw [same b hb]; exact n) nx
  · have hb : b ∉ Z := fun q => by rw [(hz b q).1] at e; cases e
    rw [cut_out hb]; exact u.tups b xs (by rw [same b hb]; exact e)
  · have hb : b ∉ Z := fun q => by rw [(hz b q).1] at e; cases e
    rw [cut_out hb]; exact u.frzs b o q (by rw [same b hb]; exact e)
  · have hb : b ∉ Z := fun q => by rw [(hz b q).1] at e; cases e
    rw [cut_out hb]; exact u.tbls b ps (by rw [same b hb]; exact e)
theorem ub_forget (hz : ∀ z ∈ Z, H z = none ∧ ∃ oc, h.get? z = some oc) (hf : ∀ b ∈ fs, b ∉ Z) (x : HOk P w H' B) (u : UB fs (tellH H h Z) H' h B h') : (∀ z ∈ Z, H' z = tellH H h Z z) ∧ UB fs H (cutH H' Z) h B h' := by
  have key : ∀ z ∈ Z, H' z = tellH H h Z z := fun z hh => by
    obtain ⟨_, oc, e⟩ := hz z hh
    rw [tell_in hh e]
    exact u.frzs z oc _ (tell_in hh e)
  have same : ∀ b, b ∉ Z → tellH H h Z b = H b := fun b hb => tell_out hb
  refine ⟨key, ⟨fun b o e n nf => ?_, u.slot, fun b o e n => ?_, u.there, fun b xs e => ?_, fun b o q e => ?_, fun b ps e => ?_⟩⟩
  · by_cases hb : b ∈ Z
    · have k := key b hb
      rw [tell_in hb e] at k
      exact (x b _ k).1
    · exact u.keep b o e (by rw [same b hb]; exact n) nf
  · by_cases hb : b ∈ Z
    · exact cut_in hb
    · rw [cut_out hb]; exact u.free b o e (by rw [same b hb]; exact n)
  · have hb : b ∉ Z := fun q => by rw [(hz b q).1] at e; cases e
    rw [cut_out hb]; exact u.tups b xs (by rw [same b hb]; exact e)
  · have hb : b ∉ Z := fun q => by rw [(hz b q).1] at e; cases e
    rw [cut_out hb]; exact u.frzs b o q (by rw [same b hb]; exact e)
  · have hb : b ∉ Z := fun q => by rw [(hz b q).1] at e; cases e
    rw [cut_out hb]; exact u.tbls b ps (by rw [same b hb]; exact e)
def Qtell (H : Hp) (h : Heap) (Z : List Addr) (Q : VK) : VK := fun v H' => (∀ z ∈ Z, H' z = tellH H h Z z) → Q v (cutH H' Z)
def Etell (H : Hp) (h : Heap) (Z : List Addr) (E : XK) : XK := fun cls d H' => (∀ z ∈ Z, H' z = tellH H h Z z) → E cls d (cutH H' Z)
theorem cr_forget {outer : List Env} {s s' : Shared} {Q : VK} {E : XK} {r : Result} (hz : ∀ z ∈ Z, H z = none ∧ ∃ oc, s.heap.get? z = some oc) (hf : ∀ b ∈ frs outer, b ∉ Z) (h : CR (L2N.CX P w) outer P w (tellH H s.heap Z) s (Qtell H s.heap Z Q) (Etell H s.heap Z E) r s') :
    CR (L2N.CX P w) outer P w H s Q E r s' := by
  have known : ∀ {H' : Hp}, (∀ z ∈ Z, H' z = tellH H s.heap Z z) → Known H' Z := fun k z hh => by
    obtain ⟨_, oc, e⟩ := hz z hh
    exact ⟨oc, by rw [k z hh]; exact tell_in hh e⟩
  cases r with
  | ok fl =>
    cases fl with
    | ret u =>
      obtain ⟨v, H', os, bare, un, hok, rv, q⟩ := h
      obtain ⟨key, un'⟩ := un_forget hz hf hok un
      exact ⟨v, cutH H' Z, os, bare, un', hok_cut (known key) hok, rv, q key⟩
    | next => exact h
    | brk => exact h
    | cont => exact h
  | error e =>
    obtain ⟨a, B, H', cls, d, e1, fl, hok, ub, na, os, bare, q⟩ := h
    obtain ⟨key, ub'⟩ := ub_forget hz hf hok ub
    exact ⟨a, B, cutH H' Z, cls, d, e1, fl, hok_cut (known key) hok, ub', cut_none na, os, bare, q key⟩
end
/-- what is captured -/
def capsOf (env : En) : List (Str × Nat) → Option (List (Str × Va))
  | [] => some []
  | (y, i) :: r => match env[i]?, capsOf env r with
    | some (some v), some cs => some ((y, v) :: cs)
    | _, _ => none
def dCallL (n : Nat) (c : SpD) (l : Lam) (cs : List (Str × Nat)) (t : TAD) : TED := fun env S Q E => t env S (fun xs S1 => match capsOf env cs with
  | some caps => xs.length + 1 = n ∧ c (.clo l caps :: xs.map Va.d) S1 Q E
  | none => False) E
theorem dCallL_mono {n : Nat} {c : SpD} {l : Lam} {cs : List (Str × Nat)} {t : TAD} (hc : MonoSp c) (ht : MonoA t) : MonoE (dCallL n c l cs t) := fun env S Q Q' E E' hq he h => ht _ _ _ _ _ _ (fun xs S1 h1 => by
  split at h1
  · exact ⟨h1.1, hc _ _ _ _ _ _ hq he h1.2⟩
  · exact h1.elim) he h
section
variable {X : Cx} {G : Wd} {W : WX} {k : Nat}
theorem caps_rep {K : PySem.W.Frag} {A : Ad} {H : Hp} {σ : L2.St} {env : En} {pins : List (Addr × Obj)} {s : Shared} {cl : List (Str × Addr)} (I : Inv X pins σ H s) (eo : EnOk K A H σ env) (hm : ∀ p ∈ cl, H p.2 = none ∧ p.2 ∉ A.m)
    (hcl : ∀ y c, X.env.cells.lookup y = some c → (∃ c', cl.lookup y = some c') → cl.lookup y = some c) (hcut : cutH (tellH H s.heap (cl.map (·.2))) (cl.map (·.2)) = H) : ∀ {cs : List (Str × Nat)} {caps : List (Str × Va)}, capsOf env cs = some caps →
      (∀ p ∈ cs, X.N[p.2]? = some p.1 ∧ (X.env.scope.names.lookup p.1 = some .cell ∨ X.env.scope.names.lookup p.1 = some .free) ∧ ∃ c', cl.lookup p.1 = some c') → RepCs K A (tellH H s.heap (cl.map (·.2))) cl caps
  | [], caps, e, _ => by cases e; exact trivial
  | (y, i) :: r, caps, e, hp => by
    unfold capsOf at e
    split at e
    · rename_i v cs' e1 e2
      cases e
      refine ⟨?_, caps_rep I eo hm hcl hcut e2 fun p hq => hp p (List.mem_cons_of_mem _ hq)⟩
      obtain ⟨hN, hk, hc'⟩ := hp _ List.mem_cons_self
      obtain ⟨x, hs, rv⟩ := eo.at_ i v e1
      obtain ⟨m, hns, hl⟩ := I.loc
      obtain ⟨u, ru, look⟩ := hl i y x hN hs (hk.elim (fun z => .inr (.inl z)) fun z => .inr (.inr z))
      rcases look with ⟨z, _⟩ | ⟨_, c, e3, oc, ho, hd⟩
      · have z : X.env.scope.names.lookup y = some .local := z
        rcases hk with hk | hk <;> rw [show X.env.scope.names.lookup y = _ from hk] at z <;> cases z
      · have e4 := hcl y c e3 hc'
        have mem : (y, c) ∈ cl := PySem.mem_of_lookup e4
        exact ⟨c, oc, u, x, e4, .inl ⟨(hm _ mem).2, tell_in (List.mem_map.mpr ⟨_, mem, rfl⟩) ho⟩, hd, ru, by rw [hcut]; exact rv⟩
    · cases e
theorem pd_callL {n : Nat} {c : SpD} {l : Lam} {cs : List (Str × Nat)} {g : Str} {es : List Expr} {t : TAD} {p pos lpos : Pos} (gx : XIs G X) (F : GFn G k n g c) (hr : Room k X.A) (hg : Gl X g) (tk : L2N.Takes X W) (LA : LamAt G.T X l.qual)
    (hfree : ∀ y ∈ l.scope.names, y.2 = .free → X.env.scope.names.lookup y.1 = some .cell ∨ X.env.scope.names.lookup y.1 = some .free) (d0 : l.args.defaults = []) (k0 : l.args.kw_defaults = []) (hfn : ∀ y, X.fn y = true) (ha : PAD X G.T W es t)
    (hcs : ∀ p ∈ cs, X.N[p.2]? = some p.1 ∧ (p.1, NameKind.free) ∈ l.scope.names) (hdb : (g == ("__debug__" : Str)) = false) (hpl : (backTo pos (starEach es X.env)).any (·.1) = false) :
    PD X G.T W (.Call (.Name g p) (.Lambda l.args l.body l.scope lpos :: es) [] pos) (dCallL n c l cs t) := by
  obtain ⟨f0, hm0, F⟩ := F
  refine ⟨⟨fun pins s σ H Q I q => ?_⟩, dCallL_mono F.mo ha.mo⟩
  obtain ⟨fd, ps, hb, hn, ok⟩ := F.ok
  obtain ⟨A, S0, env, eo, st, q⟩ := q
  obtain ⟨g1, g2, g3, g4, g5⟩ := gx
  have has : ∀ y ∈ l.scope.names, y.2 = .free → ∃ c, X.env.cells.lookup y.1 = some c := fun y hy e => (hfree y hy e).elim (fun k => I.ok.has _ (.inl k)) fun k => I.ok.has _ (.inr k)
  refine wpAny_Call_Name_kw (ld_glob I hg (by rw [g4]; exact hm0) ?_ hdb)
  refine PySem.W.callWith_K (h₀ := X.base) I.ok.mod.kin (by rw [g3]; exact F.kp) ?_ (by rfl) hpl
  show wpAny _ _ (spliced ((false, eval (.Lambda l.args l.body l.scope lpos) X.env) :: backTo pos (starEach es X.env))) _ _ s
  refine Calls.spliced_cons (thn ((pe_lam (T := G.T) LA hfree d0 k0).run pins s σ H (fun v H1 => ∃ f c' pm ctv, v = .ref f ∧ ExtN H H1 ∧ Tabs G.T.t H1 ∧ H f = none ∧ H1 f = some (.frz (lamO l (cloFrom X.env.cells l.scope.names []) pm c' ctv) (.own f)) ∧ H1 c' = some (CodeO c' l.qual)) I
    ⟨st.tabs, fun f c' pm ctv H1 eN T1 nf hf hc _ => ⟨f, c', pm, ctv, rfl, eN, T1, nf, hf, hc⟩⟩) fun u s1 ⟨v, H1, I1, r1, f, c', pm, ctv, ev, eN, T1, nf, hf, hc⟩ => ?_)
  subst ev
  obtain rfl : u = Value.ref f := r1
  have st1 := st.sameT eN T1
  have l1 : Le A H A H1 := Le.sameT eN
  refine thn (ha.pa.run pos pins s1 σ H1 (fun vs H2 => ∃ A2 S2 xs, Le A H1 A2 H2 ∧ Stt X.K G.T A2 S2 H2 ∧ Reps X.K A2 H2 xs vs ∧ (match capsOf env cs with
      | some caps => xs.length + 1 = n ∧ c (.clo l caps :: xs.map Va.d) S2 (Bk X.K G.T A H Q) (BkX X.K G.T A H fun x d H' => W x d σ H')
      | none => False)) I1 ⟨A, S0, env, eo.mono l1, st1, ha.mo _ _ _ _ _ _ (fun ds S1 h A2 H2 vs l2 st2 rs => ⟨A2, S1, ds, l2, st2, rs, h⟩) (fun x S1 h => BkX.mono l1 (fun _ _ _ z => z) h) q⟩) fun us s2 ⟨vs, H2, I2, r2, A2, S2, xs, l2, st2, rx, q2⟩ => ⟨I2.kIn, ?_⟩
  split at q2
  · rename_i caps ecaps
    obtain ⟨hlen, q2⟩ := q2
    show wpAny _ _ (call (.ref f0) (.ref f :: us)) _ _ s2
    have e2 := I2.env0
    obtain ⟨cl, hcl⟩ : ∃ cl, cl = cloFrom X.env.cells l.scope.names [] := ⟨_, rfl⟩
    rw [← hcl] at hf
    obtain ⟨Z, hZ⟩ : ∃ Z, Z = cl.map (·.2) := ⟨_, rfl⟩
    -- the cells
    have inCl : ∀ p ∈ cl, X.env.cells.lookup p.1 = some p.2 := fun p hp => by
      rw [hcl] at hp
      rcases cloFrom_mem hp with h | ⟨h1, h2⟩
      · cases h
      · obtain ⟨c1, e⟩ := has _ h1 rfl
        have e : X.env.cells.lookup p.1 = some c1 := e
        rw [e] at h2
        rw [h2]
        exact e
    have inZ : ∀ z ∈ Z, ∃ y, X.env.cells.lookup y = some z := fun z hz => by
      rw [hZ] at hz
      obtain ⟨p, hp, rfl⟩ := List.mem_map.mp hz
      exact ⟨p.1, inCl p hp⟩
    have zH : ∀ z ∈ Z, H2 z = none ∧ ∃ oc v, s2.heap.get? z = some oc ∧ oc.data = .cell v := fun z hz => by
      obtain ⟨y, e⟩ := inZ z hz
      obtain ⟨v, oc, ho, hd⟩ := I2.cell y z e
      exact ⟨I2.freeC y z e, oc, v, ho, hd⟩
    have old : ∀ z ∈ Z, X.s_0.heap.objs.size ≤ z := fun z hz => let ⟨y, e⟩ := inZ z hz; I2.ok.cab y z (hfn y) e
    have notBase : ∀ b o, X.base.get? b = some o → b ∉ Z := fun b o e hb => by
      have lt := Heap.lt_size (I2.ok.bs b o e).1
      exact Nat.lt_irrefl _ (Nat.lt_of_lt_of_le lt (old b hb))
    have notFr : ∀ b ∈ frs X.stack, b ∉ Z := fun b hb hz => by
      obtain ⟨y, e⟩ := inZ b hz
      rcases List.mem_cons.mp (I2.stkSub b hb) with z | z
      · exact I2.cne y b e z
      · obtain ⟨_, o, ho, _⟩ := I2.ok.funs.mem z
        exact Nat.lt_irrefl _ (Nat.lt_of_lt_of_le (Heap.lt_size ho) (old b hz))
    have tellZ : ∀ z ∈ Z, ∃ oc v, tellH H2 s2.heap Z z = some (.frz oc (.own z)) ∧ s2.heap.get? z = some oc ∧ oc.data = .cell v := fun z hz => by
      obtain ⟨_, oc, v, ho, hd⟩ := zH z hz
      exact ⟨oc, v, tell_in hz ho, ho, hd⟩
    have ge : ∀ b o, H2 b = some o → tellH H2 s2.heap Z b = some o := fun b o e => by
      rw [tell_out fun hb => by rw [(zH b hb).1] at e; cases e]; exact e
    have cutE : cutH (tellH H2 s2.heap Z) Z = H2 := by
      funext b
      by_cases hb : b ∈ Z
      · rw [cut_in hb, (zH b hb).1]
      · rw [cut_out hb, tell_out hb]
    have zm : ∀ z ∈ Z, z ∉ A2.m := fun z hz => st2.fresh (zH z hz).1
    have hokT : HOk X.prog X.w (tellH H2 s2.heap Z) s2.heap := by
      have := hok_back (H := tellH H2 s2.heap Z) (Z := Z) (fun z hz => let ⟨oc, v, a, b, _⟩ := tellZ z hz; ⟨oc, a, b⟩) (fun z hz => (zH z hz).1) I2.hok
      have eq : backH (tellH H2 s2.heap Z) Z H2 = tellH H2 s2.heap Z := by
        funext b
        by_cases hb : b ∈ Z
        · rw [back_in hb]
        · rw [back_out hb, tell_out hb]
      rw [eq] at this
      exact this
    have eT : Env0 X.prog X.w X.K X.mg X.base X.A X.stack s2 (tellH H2 s2.heap Z) :=
      ⟨e2.frames, e2.mod, fun b o e => ⟨(e2.bs b o e).1, by rw [tell_out (notBase b o e)]; exact (e2.bs b o e).2⟩, e2.bsz, e2.funs, fun b hb => by rw [tell_out (notFr b hb)]; exact e2.frf b hb, hokT, e2.bare⟩
    have hf2 : H2 f = some (.frz (lamO l cl pm c' ctv) (.own f)) := l2.exs f _ hf (fun z => by
      obtain ⟨o, e, _⟩ := st.tr f (st.sub f z)
      rw [nf] at e; cases e) fun ps z => by cases z
    have hc2 : H2 c' = some (CodeO c' l.qual) := l2.exs c' _ hc (fun z => st1.code_out hc (st1.sub c' z)) codeO_ne
    have fZ : f ∉ Z := fun hz => by rw [(zH f hz).1] at hf2; cases hf2
    have fm : f ∉ A2.m := fun z => by
      obtain ⟨o, e, pl⟩ := st2.tr f z
      rw [hf2] at e; cases e
      exact pl
    have hclu : ∀ y c1, X.env.cells.lookup y = some c1 → (∃ c2, cl.lookup y = some c2) → cl.lookup y = some c1 := fun y c1 e ⟨c2, e3⟩ => by
      have := inCl _ (PySem.mem_of_lookup e3)
      rw [e] at this
      cases this
      exact e3
    have repC : RepV X.K A2 (tellH H2 s2.heap Z) (.clo l caps) (.ref f) := by
      refine ⟨f, pm, c', ctv, cl, rfl, fm, st2.code_out hc2, ge _ _ hf2, ge _ _ hc2, ⟨fun p hp => ?_, fun y z c1 ea eb => I2.ok.inj y z c1 (inCl _ (PySem.mem_of_lookup ea)) (inCl _ (PySem.mem_of_lookup eb)), fun y hy e => ?_⟩, by rw [← hZ]; exact fZ, ?_⟩
      · have hz : p.2 ∈ Z := by rw [hZ]; exact List.mem_map.mpr ⟨p, hp, rfl⟩
        obtain ⟨oc, v, a, b, d⟩ := tellZ p.2 hz
        exact ⟨oc, v, .inl ⟨zm _ hz, a⟩, d⟩
      · obtain ⟨c1, e1⟩ := has y hy e
        obtain ⟨y1, y2⟩ := y
        dsimp only at e e1 ⊢
        subst e
        rw [hcl]
        exact ⟨c1, clo_has has hy e1⟩
      · rw [hZ]
        refine caps_rep I2 (eo.mono (l1.trans l2)) (fun p hp => ?_) hclu (by rw [← hZ]; exact cutE) ecaps fun p hp => ?_
        · have hz : p.2 ∈ Z := by rw [hZ]; exact List.mem_map.mpr ⟨p, hp, rfl⟩
          exact ⟨(zH _ hz).1, zm _ hz⟩
        · obtain ⟨h1, h2⟩ := hcs p hp
          obtain ⟨c1, e1⟩ := has _ h2 rfl
          exact ⟨h1, hfree _ h2 rfl, c1, by rw [hcl]; exact clo_has has h2 e1⟩
    have stT : Stt X.K G.T A2 S2 (tellH H2 s2.heap Z) := st2.same ge
    have rxT : Reps X.K A2 (tellH H2 s2.heap Z) xs vs := Reps.monoW (Le.same (A := A2) ge).w _ _ rx
    have bind := hb s2 (.ref f :: us) (by rw [← g3]; exact I2.kIn) (by
      rw [List.append_nil, List.length_cons, ← r2.length, ← rx.length, hn]; exact hlen)
    rw [List.append_nil] at bind
    have fin : ∀ {A3 : Ad} {S3 : Store} {H3 : Hp}, (∀ z ∈ Z, H3 z = tellH H2 s2.heap Z z) → Le A2 (tellH H2 s2.heap Z) A3 H3 → Stt X.K G.T A3 S3 H3 → Cells H3 Z ∧ (∀ z ∈ Z, z ∉ A3.m) ∧ Le A H A3 (cutH H3 Z) := fun {A3 S3 H3} key l3 st3 => by
      have hcell : Cells H3 Z := fun z hz => by
        obtain ⟨oc, v, a, b, d⟩ := tellZ z hz
        exact ⟨oc, v, by rw [key z hz]; exact a, d⟩
      have hm3 : ∀ z ∈ Z, z ∉ A3.m := fun z hz => by
        obtain ⟨oc, v, a, b, d⟩ := tellZ z hz
        exact l3.w.out a (zm z hz) fun ps e => by cases e
      refine ⟨hcell, hm3, (l1.trans l2).trans ⟨?_, fun b o e m nt => ?_⟩⟩
      · have := l3.w.cut Z
        rw [cutE] at this
        exact this
      · have hb : b ∉ Z := fun hz => by rw [(zH b hz).1] at e; cases e
        rw [cut_out hb]
        exact l3.exs b o (ge b o e) m nt
    rw [g1, g2, g3, g4, g5] at eT
    have rc := ok.run X.A X.stack s2 (tellH H2 s2.heap Z) ⟨.ref f :: us, []⟩ (.ref f :: us) (.ref f :: vs) (Qtell H2 s2.heap Z Q) (Etell H2 s2.heap Z fun cls d H' => W cls d σ H') hr eT bind (.cons rfl r2)
      ⟨A2, S2, .clo l caps :: xs.map Va.d, by rw [List.length_cons, List.length_map]; exact hlen, ⟨_, _, rfl, by rw [← g3]; exact repC, by rw [← g3]; exact RepVs.of rxT⟩, by rw [← g3]; exact stT, F.mo _ _ _ _ _ _ (fun d S3 h => by
        intro A3 H3 v l3 st3 r3 key
        rw [← g3] at st3 r3
        obtain ⟨k1, k2, k3⟩ := fin key l3 st3
        exact h A3 (cutH H3 Z) v k3 (st3.cutZ k1 k2) (Rep.cutZ k1 _ _ r3)) (fun x S3 h => by
        intro A3 H3 l3 st3 key
        rw [← g3] at st3
        obtain ⟨k1, k2, k3⟩ := fin key l3 st3
        exact h A3 (cutH H3 Z) k3 (st3.cutZ k1 k2)) q2⟩
    rw [g1, g2]
    refine wpAny_call (codeAny_mono rc fun r s' hq => ?_)
    have hq := cr_forget (P := G.P) (w := G.w) (fun z hz => let ⟨a, oc, v, b, _⟩ := zH z hz; ⟨a, oc, b⟩) notFr hq
    rw [← g1, ← g2] at hq
    cases r with
    | error e => exact L2N.passAt tk σ pins H2 s2 e s' I2 hq
    | ok fl =>
      cases fl with
      | ret u => exact I2.after hq
      | next => exact False.elim hq
      | brk => exact False.elim hq
      | cont => exact False.elim hq
  · exact q2.elim
end
end Fs
end
section
set_option Elab.async false
set_option linter.all false
set_option maxRecDepth 100000
set_option maxHeartbeats 4000000
namespace Fs
open PySem PySem.Spec PyProof.Rows L2 LamX

/-! ### dicts that a store tells: keys ints and texts -/
def kD : Key → D
  | .inl i => .int i
  | .inr x => .str x
def keyD : D → Option Key
  | .int i => some (.inl i)
  | .str x => some (.inr x)
  | _ => none
theorem keyD_eq {d : D} {k : Key} (h : keyD d = some k) : d = kD k := by
  cases d <;> first | (cases h; rfl) | cases h
theorem rep_kD {K : PySem.W.Frag} {A : Ad} {H : Hp} {k : Key} {v : V} (h : Rep K A H (kD k) v) : v = kV k := by
  cases k <;> exact h
/-- in its place, or at the end -/
def putD (kvs : List (Key × D)) (k : Key) (d : D) : List (Key × D) :=
  if (kvs.any fun kv => decide (kv.1 = k)) = true then kvs.map (fun kv => if kv.1 = k then (kv.1, d) else kv) else kvs ++ [(k, d)]
def getD (kvs : List (Key × D)) (k : Key) : Option D := (kvs.find? fun kv => decide (kv.1 = k)).map (·.2)
section
variable {K : PySem.W.Frag} {A : Ad} {H : Hp}
/-- the pairs of a dict, told -/
def RepK (K : PySem.W.Frag) (A : Ad) (H : Hp) (kvs : List (Key × D)) (vkvs : List (Key × V)) : Prop := kvs.map (·.1) = vkvs.map (·.1) ∧ Reps K A H (kvs.map (·.2)) (vkvs.map (·.2))
theorem repK_nil : RepK K A H [] [] := ⟨rfl, rfl⟩
theorem repK_cons {k : Key} {d : D} {v : V} {kvs : List (Key × D)} {vkvs : List (Key × V)} (r : Rep K A H d v) (h : RepK K A H kvs vkvs) : RepK K A H ((k, d) :: kvs) ((k, v) :: vkvs) :=
  ⟨by rw [List.map_cons, List.map_cons, h.1], v, _, rfl, r, h.2⟩
theorem repK_inv : ∀ {kvs : List (Key × D)} {vkvs : List (Key × V)}, RepK K A H kvs vkvs → (kvs = [] ∧ vkvs = []) ∨ ∃ k d v r vr, kvs = (k, d) :: r ∧ vkvs = (k, v) :: vr ∧ Rep K A H d v ∧ RepK K A H r vr
  | [], [], _ => .inl ⟨rfl, rfl⟩
  | [], _ :: _, h => by cases h.1
  | _ :: _, [], h => by cases h.1
  | (k, d) :: r, (k', v) :: vr, h => by
    obtain ⟨h1, x, xs, e, h2, h3⟩ := h
    injection h1 with h1 h1'
    injection e with e1 e2
    have ek : k = k' := h1
    subst ek
    have ev : v = x := e1
    subst ev
    refine .inr ⟨k, d, v, r, vr, rfl, rfl, h2, h1', ?_⟩
    have e2 : vr.map (·.2) = xs := e2
    rw [e2]
    exact h3
theorem repK_any {k : Key} : ∀ {kvs : List (Key × D)} {vkvs : List (Key × V)}, RepK K A H kvs vkvs → (kvs.any fun kv => decide (kv.1 = k)) = vkvs.any fun kv => decide (kv.1 = k)
  | kvs, vkvs, h => by
    have e1 : (kvs.any fun kv => decide (kv.1 = k)) = (kvs.map (·.1)).any fun x => decide (x = k) := by rw [List.any_map]; rfl
    have e2 : (vkvs.any fun kv => decide (kv.1 = k)) = (vkvs.map (·.1)).any fun x => decide (x = k) := by rw [List.any_map]; rfl
    rw [e1, e2, h.1]
theorem repK_repl {k : Key} {d : D} {v : V} (r : Rep K A H d v) : ∀ {kvs : List (Key × D)} {vkvs : List (Key × V)}, RepK K A H kvs vkvs → RepK K A H (kvs.map fun kv => if kv.1 = k then (kv.1, d) else kv) (vkvs.map fun kv => if kv.1 = k then (kv.1, v) else kv)
  | [], vkvs, h => by
    rcases repK_inv h with ⟨_, rfl⟩ | ⟨_, _, _, _, _, e, _⟩
    · exact repK_nil
    · cases e
  | p :: kvs, vkvs, h => by
    rcases repK_inv h with ⟨e, _⟩ | ⟨k', d', v', r', vr, e, rfl, q1, q2⟩
    · cases e
    · injection e with e1 e2
      subst e1 e2
      rw [List.map_cons, List.map_cons]
      by_cases z : k' = k
      · simp only [z, if_true]
        exact repK_cons r (repK_repl r q2)
      · simp only [z, if_false]
        exact repK_cons q1 (repK_repl r q2)
theorem repK_snoc {k : Key} {d : D} {v : V} (r : Rep K A H d v) : ∀ {kvs : List (Key × D)} {vkvs : List (Key × V)}, RepK K A H kvs vkvs → RepK K A H (kvs ++ [(k, d)]) (vkvs ++ [(k, v)])
  | [], vkvs, h => by
    rcases repK_inv h with ⟨_, rfl⟩ | ⟨_, _, _, _, _, e, _⟩
    · exact repK_cons r repK_nil
    · cases e
  | p :: kvs, vkvs, h => by
    rcases repK_inv h with ⟨e, _⟩ | ⟨k', d', v', r', vr, e, rfl, q1, q2⟩
    · cases e
    · injection e with e1 e2
      subst e1 e2
      exact repK_cons q1 (repK_snoc r q2)
theorem repK_put {k : Key} {d : D} {v : V} {kvs : List (Key × D)} {vkvs : List (Key × V)} (r : Rep K A H d v) (h : RepK K A H kvs vkvs) : RepK K A H (putD kvs k d) (putK vkvs k v) := by
  unfold putD putK
  rw [repK_any h]
  split
  · exact repK_repl r h
  · exact repK_snoc r h
theorem repK_get {k : Key} : ∀ {kvs : List (Key × D)} {vkvs : List (Key × V)}, RepK K A H kvs vkvs → (getD kvs k = none ∧ valV vkvs k = none) ∨ ∃ d v, getD kvs k = some d ∧ valV vkvs k = some v ∧ Rep K A H d v
  | [], vkvs, h => by
    rcases repK_inv h with ⟨_, rfl⟩ | ⟨_, _, _, _, _, e, _⟩
    · exact .inl ⟨rfl, rfl⟩
    · cases e
  | p :: kvs, vkvs, h => by
    rcases repK_inv h with ⟨e, _⟩ | ⟨k', d', v', r', vr, e, rfl, q1, q2⟩
    · cases e
    · injection e with e1 e2
      subst e1 e2
      by_cases z : k' = k
      · exact .inr ⟨d', v', by simp [getD, List.find?_cons, z], valV_pos z, q1⟩
      · have g : getD ((k', d') :: kvs) k = getD kvs k := by simp [getD, List.find?_cons, z]
        rw [g, valV_neg z]
        exact repK_get q2
end
theorem repK_monoW {K : PySem.W.Frag} {A A' : Ad} {H H' : Hp} (l : Lw A H A' H') {kvs : List (Key × D)} {vkvs : List (Key × V)} (h : RepK K A H kvs vkvs) : RepK K A' H' kvs vkvs := ⟨h.1, Reps.monoW l _ _ h.2⟩
theorem Stt.dct {K : PySem.W.Frag} {T : TB} {A : Ad} {S : Store} {H : Hp} (st : Stt K T A S H) {n : Nat} {kvs : List (Key × D)} {v : V} (e : S[n]? = some (.dct kvs)) (r : Rep K A H (.loc n) v) : ∃ a vkvs, v = .ref a ∧ A.c[n]? = some a ∧ H a = some (.dK vkvs) ∧ RepK K A H kvs vkvs := by
  obtain ⟨a, ea, rfl⟩ := r
  obtain ⟨a', h1, vkvs, h2, h3, h4⟩ := st.cell n _ e
  rw [ea] at h1
  cases h1
  exact ⟨a, vkvs, rfl, ea, h2, h3, h4⟩
def cellK (S : Store) (x : D) (k : Nat → List (Key × D) → Prop) : Prop := match x with
  | .loc n => (match S[n]? with
    | some (.dct kvs) => k n kvs
    | _ => False)
  | _ => False
theorem cellK_get {S : Store} {x : D} {k : Nat → List (Key × D) → Prop} (h : cellK S x k) : ∃ n kvs, x = .loc n ∧ S[n]? = some (.dct kvs) ∧ k n kvs := by
  unfold cellK at h
  split at h
  · split at h
    · rename_i n _ xs e
      exact ⟨n, xs, rfl, e, h⟩
    · exact h.elim
  · exact h.elim
theorem cellK_mk {S : Store} {n : Nat} {kvs : List (Key × D)} {k : Nat → List (Key × D) → Prop} (e : S[n]? = some (.dct kvs)) (h : k n kvs) : cellK S (.loc n) k := by
  show (match S[n]? with
    | some (.dct xs) => k n xs
    | _ => False)
  rw [e]
  exact h
theorem cellK_mono {S : Store} {x : D} {k k' : Nat → List (Key × D) → Prop} (hk : ∀ n xs, k n xs → k' n xs) (h : cellK S x k) : cellK S x k' := by
  obtain ⟨n, xs, rfl, e, q⟩ := cellK_get h
  exact cellK_mk e (hk _ _ q)
section
variable {X : Cx} {T : TB} {W : WX} {pos : Pos}
/-- {} -/
def dDNew : TED := fun _ S Q _ => Q (.loc S.length) (S ++ [.dct []])
theorem pd_dnew : PD X T W (.Dict [] [] pos) dDNew := by
  refine ⟨PE.imp pe_dnewK fun σ H Q q => ?_, fun _ _ _ _ _ _ hq _ h => hq _ _ h⟩
  obtain ⟨A, S, env, eo, st, q⟩ := q
  intro p hp
  exact q _ _ _ (le_new (o := .dK []) hp st) (stt_new st hp ⟨[], upd_same, rfl, rfl⟩) ⟨p, new_ix st, rfl⟩
/-- {k: v}: one pair, the key a text -/
def dDOne (k : Str) (tv : TED) : TED := fun env S Q E => tv env (S ++ [.dct []]) (fun d S1 => S1[S.length]? = some (.dct []) ∧ Q (.loc S.length) (S1.set S.length (.dct [(.inr k, d)]))) E
theorem dDOne_mono {k : Str} {tv : TED} (h : MonoE tv) : MonoE (dDOne k tv) := fun env S Q Q' E E' hq he q => h _ _ _ _ _ _ (fun d S1 h1 => ⟨h1.1, hq _ _ h1.2⟩) he q
theorem pd_done {k : Str} {j : Nat} {p2 : Pos} {v : Expr} {tv : TED} (hv : PD X T W v tv) : PD X T W (.Dict [some (.Constant (.str k) j p2)] [v] pos) (dDOne k tv) := by
  refine ⟨PE.imp (pe_disp (pps_cons (k := .Constant (.str k) j p2) pe_str hv.pe pps_nil) rfl rfl (by simp) (Nat.le_of_ble_eq_true rfl)) fun σ H Q q => ?_, dDOne_mono hv.mo⟩
  obtain ⟨A, S, env, eo, st, q⟩ := q
  intro p hp
  have l0 := le_new (o := .dK []) hp st
  have st0 : Stt X.K T _ (S ++ [.dct []]) (upd H p (.dK [])) := stt_new st hp ⟨[], upd_same, rfl, rfl⟩
  refine ⟨_, _, env, eo.mono l0, st0, hv.mo _ _ _ _ _ _ (fun d S1 h1 => ?_) (fun x S1 h1 => BkX.mono l0 (fun _ _ _ z => z) h1) q⟩
  intro A1 H1 w l1 st1 rw1
  obtain ⟨h1, h2⟩ := h1
  have rl : Rep X.K A1 H1 (.loc S.length) (.ref p) := ⟨p, l1.w.pre _ _ (new_ix st), rfl⟩
  obtain ⟨a, vk, ev, ea, ha, hk⟩ := st1.dct h1 rl
  cases ev
  have e0 : vk = [] := by
    have := hk.1
    simpa using this.symm
  subst e0
  refine ⟨ha, [(.inr k, w)], rfl, Nat.le_of_ble_eq_true rfl, ?_⟩
  have em : mergeK ([] : List (Key × V)) [(Sum.inr k, w)] = [(Sum.inr k, w)] := rfl
  rw [em]
  have l2 := le_set (o' := .dK [(.inr k, w)]) st1 ha (List.mem_of_getElem? ea) (fun ps z => by cases z)
  exact h2 A1 _ _ ((l0.trans l1).trans l2) (stt_set st1 ea (lt_of_some h1) ⟨_, upd_same, repK_monoW l2.w (repK_cons rw1 repK_nil)⟩) ⟨p, ea, rfl⟩
/-- d[k] = v -/
def dDPut (te tx ti : TED) : TSD := fun D env S => te env S (fun y S1 => tx env S1 (fun x S2 => ti env S2 (fun i S3 => cellK S3 x fun n kvs => match keyD i with
  | some k => kvs.length < sizeLine ∧ D.nx env (S3.set n (.dct (putD kvs k y)))
  | none => False) (fun x S1 => D.ex x env S1)) (fun x S1 => D.ex x env S1)) (fun x S1 => D.ex x env S1)
theorem dDPut_mono {te tx ti : TED} (he : MonoE te) (hx : MonoE tx) (hi : MonoE ti) : MonoS (dDPut te tx ti) := fun D D' env S l q => he _ _ _ _ _ _ (fun y S1 q1 => hx _ _ _ _ _ _ (fun x S2 q2 => hi _ _ _ _ _ _ (fun i S3 q3 => cellK_mono (fun n xs h => by
  revert h
  cases keyD i with
  | none => exact fun h => h
  | some j => exact fun h => ⟨h.1, l.nx _ _ h.2⟩) q3) (fun x S h => l.ex _ _ _ h) q2) (fun x S h => l.ex _ _ _ h) q1) (fun x S h => l.ex _ _ _ h) q
theorem psd_dput {o i e : Expr} {te tx ti : TED} {p2 pos : Pos} (hu : X.A.units + 1 < cLine) (he : PD X T W e te) (ho : PD X T W o tx) (hi : PD X T W i ti) (hs : swapsWith e (some (.Subscript o i p2)) pos.line X.env = pure false) : PSD X T W (.Assign [.Subscript o i p2] e pos) (dDPut te tx ti) := by
  refine ⟨PS.imp (ps_dput hu ho.pe hi.pe he.pe hs) fun D σ H q => ?_, dDPut_mono he.mo ho.mo hi.mo⟩
  obtain ⟨A, S, env, eo, st, q⟩ := q
  refine ⟨A, S, env, eo, st, he.mo _ _ _ _ _ _ (fun y S1 h1 => ?_) (fun x S1 h1 A' H' l st => h1 A' H' σ l st (eo.mono l)) q⟩
  intro A1 H1 vy l1 st1 ry
  refine ⟨A1, S1, env, eo.mono l1, st1, ho.mo _ _ _ _ _ _ (fun x S2 h2 => ?_) (fun x S e A' H' l st => e A' H' σ (l1.trans l) st ((eo.mono l1).mono l)) h1⟩
  intro A2 H2 vx l2 st2 rx
  refine ⟨A2, S2, env, (eo.mono l1).mono l2, st2, hi.mo _ _ _ _ _ _ (fun i S3 h3 => ?_) (fun x S e A' H' l st => e A' H' σ ((l1.trans l2).trans l) st (((eo.mono l1).mono l2).mono l)) h2⟩
  intro A3 H3 vi l3 st3 ri
  obtain ⟨n, kvs, rfl, e3, q3⟩ := cellK_get h3
  cases ek : keyD i with
  | none => rw [ek] at q3; exact q3.elim
  | some k =>
    rw [ek] at q3
    rw [keyD_eq ek] at ri
    have ei := rep_kD ri
    subst ei
    obtain ⟨a, vkvs, rfl, ea, k2, k3⟩ := st3.dct e3 (Rep.mono l3 _ _ rx)
    have l4 := le_set (o' := .dK (putK vkvs k vy)) st3 k2 (List.mem_of_getElem? ea) (fun ps z => by cases z)
    have hl : vkvs.length < sizeLine := by
      have := congrArg List.length k3.1
      rw [List.length_map, List.length_map] at this
      omega
    refine ⟨a, _, rfl, DPut.k k2 hl, ?_⟩
    have ry3 := Rep.mono (l2.trans l3) _ _ ry
    exact q3.2 A3 _ σ (((l1.trans l2).trans l3).trans l4) (stt_set st3 ea (lt_of_some e3) ⟨_, upd_same, repK_monoW l4.w (repK_put ry3 k3)⟩) ((((eo.mono l1).mono l2).mono l3).mono l4)
/-- d.get(k, x) -/
def dDGet2 (tx ti td : TED) : TED := fun env S Q E => tx env S (fun x S1 => cellK S1 x fun _ _ => ti env S1 (fun i S2 => td env S2 (fun z S3 => cellK S3 x fun n kvs => match keyD i with
  | some k => Q ((getD kvs k).getD z) S3
  | none => False) E) E) E
theorem dDGet2_mono {tx ti td : TED} (hx : MonoE tx) (hi : MonoE ti) (hd : MonoE td) : MonoE (dDGet2 tx ti td) := fun env S Q Q' E E' hq he q => hx _ _ _ _ _ _ (fun x S1 q1 => cellK_mono (fun _ _ q1 => hi _ _ _ _ _ _ (fun i S2 q2 => hd _ _ _ _ _ _ (fun z S3 q3 => cellK_mono (fun n kvs h => by
  revert h
  cases keyD i with
  | none => exact fun h => h
  | some k => exact fun h => hq _ _ h) q3) he q2) he q1) q1) he q
theorem pd_dget2 {o e f : Expr} {tx ti td : TED} {apos cpos : Pos} (hu : X.A.units + 1 < cLine) (ho : PD X T W o tx) (he : PD X T W e ti) (hf : PD X T W f td) (m : M2 X o "get" apos e f cpos) : PD X T W (.Call (.Attribute o "get" apos) [e, f] [] cpos) (dDGet2 tx ti td) := by
  refine ⟨PE.imp (pe_dget2 hu ho.pe he.pe hf.pe m) fun σ H Q q => ?_, dDGet2_mono ho.mo he.mo hf.mo⟩
  obtain ⟨A, S, env, eo, st, q⟩ := q
  refine ⟨A, S, env, eo, st, ho.mo _ _ _ _ _ _ (fun x S1 h1 => ?_) (fun _ _ e => e) q⟩
  intro A1 H1 vx l1 st1 rx
  obtain ⟨n, kvs, rfl, e1, q1⟩ := cellK_get h1
  obtain ⟨a, vk, rfl, ea, ha, hk⟩ := st1.dct e1 rx
  refine ⟨a, rfl, .inl ⟨vk, .inl ha⟩, A1, S1, env, eo.mono l1, st1, he.mo _ _ _ _ _ _ (fun i S2 h2 => ?_) (fun x S e => BkX.mono l1 (fun _ _ _ z => z) e) q1⟩
  intro A2 H2 vi l2 st2 ri
  refine ⟨A2, S2, env, (eo.mono l1).mono l2, st2, hf.mo _ _ _ _ _ _ (fun z S3 h3 => ?_) (fun x S e => BkX.mono (l1.trans l2) (fun _ _ _ z => z) e) h2⟩
  intro A3 H3 vz l3 st3 rz
  obtain ⟨n', kvs', en, e3, q3⟩ := cellK_get h3
  cases en
  obtain ⟨a', vk', ev, ea', ha', hk'⟩ := st3.dct e3 (Rep.mono (l2.trans l3) _ _ rx)
  cases ev
  cases ek : keyD i with
  | none => rw [ek] at q3; exact q3.elim
  | some k =>
    rw [ek] at q3
    rw [keyD_eq ek] at ri
    have ei := rep_kD ri
    subst ei
    refine ⟨_, DGet.k ha', ?_⟩
    have l13 := (l1.trans l2).trans l3
    dsimp only at q3
    rcases repK_get (k := k) hk' with ⟨g1, g2⟩ | ⟨d, v, g1, g2, r⟩
    · rw [g1] at q3
      rw [g2]
      exact q3 A3 H3 _ l13 st3 rz
    · rw [g1] at q3
      rw [g2]
      exact q3 A3 H3 _ l13 st3 r
end
end Fs
end
section
set_option Elab.async false
set_option linter.all false
set_option maxRecDepth 100000
set_option maxHeartbeats 4000000
namespace Fs
open PySem PySem.Spec PyProof.Rows L2 LamX HotX L2H

/-! ### the text of a def, read into a reading over data -/
inductive GE where
  | val (d : D)
  | fn (n : Nat) (c : SpD)
  | fv (f : Addr) (n : Nat) (c : SpD)
  | run (j : Nat) (r : TED → TED)
  | exc (C : Addr)
  | blt
/-- a class of errors of the program's own, over ValueError, without an __init__ -/
structure ExcD (G : Wd) (C : Addr) : Prop where
  ex : PySem.W.excIn G.K C [.type "ValueError", .type "Exception", .type "BaseException", .type "object"] "ValueError.__new__" = true
  kp : PySem.W.keepIn G.K (.ref C) = true
  sb : PySem.W.subIn G.K (.ref C) (.type "BaseException") = some true
  ty : PySem.W.typeIn G.K (.ref C) = some (.type "type")
structure CC where
  N : List Str
  sc : Scope
  gl : List (Str × GE)
  mu : List Str := []
  hot : Option (Option (PySem.W.Frag × Addr × Addr)) := none
  lq : Option Str := none
  lj : Nat := 0
  lg : List (Str × GE) := []
  rv : RV := rv0
  cf : Bool := false
  dc : List Str := []
def noStar (es : List Expr) : Bool := es.all fun e => match e with
  | .Starred _ _ => false
  | _ => true
theorem starEach_cons {e : Expr} {es : List Expr} {env : Env} (h : noStar (e :: es) = true) : starEach (e :: es) env = (false, eval e env) :: starEach es env := by
  cases e <;> first | rfl | (simp [noStar] at h)
theorem noStar_tail {e : Expr} {es : List Expr} (h : noStar (e :: es) = true) : noStar es = true := by
  unfold noStar at h ⊢
  rw [List.all_cons, Bool.and_eq_true] at h
  exact h.2
theorem backTo_no {pos : Pos} {env : Env} : ∀ {es : List Expr}, noStar es = true → (backTo pos (starEach es env)).any (·.1) = false
  | [], _ => rfl
  | e :: es, h => by
    rw [starEach_cons h]
    show (false || (backTo pos (starEach es env)).any (·.1)) = false
    rw [backTo_no (noStar_tail h)]
    rfl
/-- what a context tells -/
structure Ct (G : Wd) (c : CC) (k : Nat) (X : Cx) : Prop where
  gx : XIs G X
  N : X.N = c.N
  nd : c.N.Nodup
  sc : X.env.scope = c.sc
  calm : c.hot = none → X.calm = true
  room : c.hot = none → Room k X.A
  un : X.A.units + 64 < cLine
  hx : ∀ m, c.hot = some m → HotC X ∧ ∀ K a D, m = some (K, a, D) → X.K = K ∧ ExcC X.K D ∧ ∃ oe : Obj, (a, oe) ∈ X.pn ∧ Zc (.ref D) none oe ∧ ∃ vs, oe.data = .fields vs
  lam : ∀ q, c.lq = some q → LamAt G.T X q
  cf : c.cf = true → ∀ y, X.fn y = true
def GOk (G : Wd) (k : Nat) (gl : List (Str × GE)) : Prop := ∀ x e, gl.lookup x = some e → match e with
  | .val d => ∃ u v, G.mg x = some u ∧ RelV v u ∧ ∀ A H, Rep G.K A H d v
  | .fn n c => GFn G k n x c
  | .fv f n c => G.mg x = some (.ref f) ∧ FnD G k n f c
  | .run j r => j + 2 ≤ k ∧ Runner G j x r
  | .exc C => G.mg x = some (.ref C) ∧ ExcD G C
  | .blt => G.mg x = none
def visB (sc : Scope) (x : Str) : Bool := match sc.names.lookup x with
  | some .local => true
  | some .cell => true
  | some .free => true
  | _ => false
def locB (sc : Scope) (x : Str) : Bool := match sc.names.lookup x with
  | some .local => true
  | some .cell => true
  | _ => false
def glbB (sc : Scope) (x : Str) : Bool := match sc.names.lookup x with
  | some .globalImplicit => true
  | _ => false
theorem visB_ok {sc : Scope} {x : Str} (h : visB sc x = true) : Vis sc x := by
  unfold visB at h
  unfold Vis
  split at h <;> simp_all
theorem locB_ok {sc : Scope} {x : Str} (h : locB sc x = true) : L2.Loc sc x := by
  unfold locB at h
  unfold L2.Loc
  split at h <;> simp_all
theorem glbB_ok {sc : Scope} {x : Str} (h : glbB sc x = true) : sc.names.lookup x = some .globalImplicit := by
  unfold glbB at h
  split at h <;> simp_all
def plainN (x : Str) : Bool := !(x == ("__debug__" : Str)) && !(x == ("__classdict__" : Str)) && !(x == ("__name__" : Str))
theorem plainN_ok {x : Str} (h : plainN x = true) : (x == ("__debug__" : Str)) = false ∧ (x == ("__classdict__" : Str)) = false ∧ x ≠ ("__name__" : Str) := by
  unfold plainN at h
  rw [Bool.and_eq_true, Bool.and_eq_true, Bool.not_eq_true', Bool.not_eq_true', Bool.not_eq_true'] at h
  exact ⟨h.1.1, h.1.2, fun e => by rw [e] at h; simp at h⟩
def idxN (N : List Str) (x : Str) : Option Nat := match N with
  | [] => none
  | y :: r => if y == x then some 0 else (idxN r x).map (· + 1)
theorem idxN_ok : ∀ {N : List Str} {x : Str} {i : Nat}, idxN N x = some i → N[i]? = some x
  | [], x, i, h => by cases h
  | y :: r, x, i, h => by
    unfold idxN at h
    split at h
    · rename_i e
      cases h
      rw [beq_iff_eq.mp e]
      rfl
    · cases e : idxN r x with
      | none => rw [e] at h; cases h
      | some j =>
        rw [e] at h
        cases h
        show r[j]? = some x
        exact idxN_ok e
/-- a built-in class as a value -/
def tyOf (x : Str) : Option String := match bootBuiltins x with
  | some (.type n) => some n
  | _ => none
def cName (c : CC) (x : Str) : Option TED :=
  if plainN x then
    if visB c.sc x then (idxN c.N x).map dVar
    else if glbB c.sc x then (match c.gl.lookup x with
      | some (.val d) => some (dC d)
      | some (.fv f _ _) => some (dC (.ref f))
      | some (.exc C) => some (dC (.ref C))
      | some .blt => (tyOf x).map fun n => dC (.ty n)
      | _ => none)
    else none
  else none
def cConst : Const → Option TED
  | .none => some (dC .non)
  | .bool b => some (dC (.bl b))
  | .int i => some (dC (.int i))
  | .str s => some (dC (.str s))
  | _ => none
def cBin (op : Operator) : Option OpD := match op with
  | .Add => some addD
  | .Sub => some subD
  | .Mult => some mulD
  | .FloorDiv => some fdivD
  | .Mod => some modD
  | .Pow => some powD
  | _ => none
def cCmpO (op : CmpOp) : Option OpD := match op with
  | .Lt => some ltD
  | .LtE => some leD
  | .Gt => some gtD
  | .GtE => some geD
  | .Eq => some eqD
  | .NotEq => some neD
  | .Is => some (isD false)
  | .IsNot => some (isD true)
  | .In => some (inD false)
  | .NotIn => some (inD true)
def cArgs (f : Expr → Option TED) : List Expr → Option TAD
  | [] => some dNil
  | e :: es => if noStar (e :: es) then (match f e, cArgs f es with
    | some te, some t => some (dCons te t)
    | _, _ => none) else none
def cBoolV (f : Expr → Option TED) (op : BoolOp) : List Expr → Option TED
  | [] => none
  | [e] => f e
  | e :: e2 :: es => match f e, cBoolV f op (e2 :: es) with
    | some te, some t => some (match op with | .And => dAndV te t | .Or => dOrV te t)
    | _, _ => none
def cBoolT (f : Expr → Option TTD) (op : BoolOp) : List Expr → Option TTD
  | [] => none
  | [e] => f e
  | e :: e2 :: es => match f e, cBoolT f op (e2 :: es) with
    | some te, some t => some (match op with | .And => dAnd te t | .Or => dOr te t)
    | _, _ => none
def plainIxB : Expr → Bool
  | .Slice _ _ _ _ => false
  | _ => true
def cPart (f : Expr → Option TED) : Option Expr → Option TOD
  | none => some dNoP
  | some e => (f e).map dPart
def cCmp (f : Expr → Option TED) (a : Expr) (ops : List CmpOp) (bs : List Expr) : Option TED := match ops, bs with
  | [op], [b] => if behindInMarks op b then none else (match f a, f b, cCmpO op with
    | some ta, some tb, some o => some (dBin o ta tb)
    | _, _, _ => none)
  | [op, op'], [b, b'] => if lastMarks [op, op'] [b, b'] then none else (match f a, f b, f b', cCmpO op, cCmpO op' with
    | some ta, some tb, some tc, some o, some o' => some (dChain o o' ta tb tc)
    | _, _, _, _, _ => none)
  | _, _ => none
/-- built-ins by name: a function (false) or a class (true), its identity, what it does -/
def bltn (x : Str) : Option (Bool × String × CallO) :=
  if x = "len" then some (false, "len", lenD) else if x = "abs" then some (false, "abs", absD) else if x = "isinstance" then some (false, "isinstance", isiD)
  else if x = "max" then some (false, "max", maxD) else if x = "min" then some (false, "min", minD) else if x = "sum" then some (false, "sum", sumD)
  else if x = "int" then some (true, "int", intD) else if x = "str" then some (true, "str", strD) else if x = "bool" then some (true, "bool", boolD)
  else if x = "list" then some (true, "list", listD) else if x = "tuple" then some (true, "tuple", tupleD) else none
/-- .. and more of them -/
def bltn2 (x : Str) : Option (Bool × String × CallO) := if x = "sorted" then some (false, "sorted", sortedD) else bltn x
/-- the built-ins, where an exception is handled -/
def bltnM (c : CC) (x : Str) : Option (Bool × String × CallO) := match c.hot with
  | none => bltn2 x
  | some (some (K, a, D)) => if x = "isinstance" then some (false, "isinstance", isxD K a D) else if x = "int" then some (true, "int", intD) else none
  | some none => none
def noArgs (a : Arguments) : Bool := a.posonlyargs.isEmpty && a.args.isEmpty && a.vararg.isNone && a.kwonlyargs.isEmpty && a.kw_defaults.isEmpty && a.kwarg.isNone && a.defaults.isEmpty
theorem noArgs_bind {a : Arguments} (h : noArgs a = true) (q : Str) (body : Expr) (scope : Scope) (cl : List (Str × Addr)) (pm cv ctv : Value) : bindArgs (PySem.W.kla_fn "<lambda>" q a body scope cl pm cv ctv) ⟨[], []⟩ = pure [] := by
  obtain ⟨a1, a2, a3, a4, a5, a6, a7⟩ := a
  simp only [noArgs, Bool.and_eq_true, List.isEmpty_iff, Option.isNone_iff_eq_none] at h
  obtain ⟨⟨⟨⟨⟨⟨rfl, rfl⟩, rfl⟩, rfl⟩, rfl⟩, rfl⟩, rfl⟩ := h
  rfl
theorem noArgs_d {a : Arguments} (h : noArgs a = true) : a.defaults = [] ∧ a.kw_defaults = [] := by
  simp only [noArgs, Bool.and_eq_true, List.isEmpty_iff, Option.isNone_iff_eq_none] at h
  exact ⟨h.2, h.1.1.2⟩
/-- a lambda's body, over the maker's names -/
def lamCC (c : CC) (ls : Scope) : CC := { N := c.N, sc := ls, gl := c.lg, rv := c.rv }
def cRun (c : CC) (fl : Scope → Expr → Option TED) (j : Nat) (r : TED → TED) (args : List Expr) : Option TED := match args with
  | [.Lambda la lb ls _] => (match c.lq with
    | some _ => if noArgs la && lamSB c.sc ls && decide (c.lj ≤ j) then (fl ls lb).map r else none
    | none => none)
  | _ => none
def cFn (f : Expr → Option TED) (n : Nat) (p : SpD) : List Expr → Option TED
  | [] => if n = 0 then some (dCall 0 p dNil) else none
  | e :: es => (cArgs f (e :: es)).map (dCall n p)
def cBlt (f : Expr → Option TED) (o : CallO) : List Expr → Option TED
  | [] => none
  | e :: es => (cArgs f (e :: es)).map (dCB o)
def cVal (c : CC) (f : Expr → Option TED) (i : Nat) : List Expr → Option TED
  | [] => some (dCallV c.rv i dNil)
  | e :: es => (cArgs f (e :: es)).map (dCallV c.rv i)
/-- the captured names, with their slots -/
def frees (N : List Str) : List (Str × NameKind) → Option (List (Str × Nat))
  | [] => some []
  | (y, k) :: r => if k == .free then (match idxN N y, frees N r with
    | some i, some cs => some ((y, i) :: cs)
    | _, _ => none) else frees N r
theorem frees_ok {N : List Str} : ∀ {names : List (Str × NameKind)} {cs : List (Str × Nat)}, frees N names = some cs → ∀ p ∈ cs, N[p.2]? = some p.1 ∧ (p.1, NameKind.free) ∈ names
  | [], cs, h, p, hp => by cases h; cases hp
  | (y, k) :: r, cs, h, p, hp => by
    unfold frees at h
    split at h
    · rename_i hk
      split at h
      · rename_i i cs' e1 e2
        cases h
        rcases List.mem_cons.mp hp with e | hp
        · subst e
          have hk : k = .free := beq_iff_eq.mp hk
          subst hk
          exact ⟨idxN_ok e1, List.mem_cons_self⟩
        · obtain ⟨a, b⟩ := frees_ok e2 p hp
          exact ⟨a, List.mem_cons_of_mem _ b⟩
      · cases h
    · obtain ⟨a, b⟩ := frees_ok h p hp
      exact ⟨a, List.mem_cons_of_mem _ b⟩
def cLamC (c : CC) (f : Expr → Option TED) (n : Nat) (p : SpD) : List Expr → Option TED
  | .Lambda la lb ls _ :: es => (match c.lq with
    | some q => if c.cf && la.defaults.isEmpty && la.kw_defaults.isEmpty && noStar es && (ls.names.all fun y => !(y.2 == .free) || (c.sc.names.lookup y.1 == some .cell) || (c.sc.names.lookup y.1 == some .free)) then (match frees c.N ls.names, cArgs f es with
      | some cs, some t => some (dCallL n p ⟨q, la, lb, ls⟩ cs t)
      | _, _ => none) else none
    | none => none)
  | _ => none
def cFn2 (c : CC) (f : Expr → Option TED) (n : Nat) (p : SpD) (args : List Expr) : Option TED := match cFn f n p args with
  | some t => some t
  | none => cLamC c f n p args
def cCall (c : CC) (f : Expr → Option TED) (fl : Scope → Expr → Option TED) (x : Str) (args : List Expr) : Option TED :=
  if plainN x && glbB c.sc x then (match c.gl.lookup x with
    | some (.fn n p) => if c.hot.isNone then cFn2 c f n p args else none
    | some (.fv _ n p) => if c.hot.isNone then cFn2 c f n p args else none
    | some (.run j r) => if c.hot.isNone then cRun c fl j r args else none
    | some .blt => (match bltnM c x with
      | some (_, _, o) => cBlt f o args
      | none => none)
    | _ => none)
  else if plainN x && visB c.sc x && c.hot.isNone then (match idxN c.N x with
    | some i => cVal c f i args
    | none => none)
  else none
def cMeth (f : Expr → Option TED) (o : Expr) (m : Str) (e : Expr) : Option TED := match f o, f e with
  | some tx, some te => if m = ("split" : Str) then some (dM1 splitD tx te) else if m = ("join" : Str) then some (dM1 joinD tx te) else none
  | _, _ => none
/-- a name, an item, a text: attributeBase leaves it alone -/
def plainA : Expr → Bool
  | .Call _ _ _ _ => false
  | _ => true
theorem plainA_ok {e : Expr} {x : Str} {env : Env} (h : plainA e = true) : attributeBase e x env (eval e env) = eval e env := by
  cases e <;> first | rfl | cases h
/-- what is walked -/
def cIter (c : CC) (f : Expr → Option TED) (tg : Expr) (iter : Expr) : Option TAD := match iter with
  | .Call (.Name x _) args [] _ =>
    if x = ("range" : Str) then (if glbB c.sc "range" then (match c.gl.lookup (("range" : Str)) with
      | some .blt => (match args with
        | [a] => (cArgs f [a]).map dRng1
        | [a, b] => (cArgs f [a, b]).map dRng2
        | _ => none)
      | _ => none) else none)
    else if x = ("zip" : Str) then (if glbB c.sc "zip" then (match c.gl.lookup (("zip" : Str)), tg with
      | some .blt, .Tuple _ _ _ => (match args with
        | [a, b] => (cArgs f [a, b]).map dZip
        | _ => none)
      | _, _ => none) else none)
    else (f iter).map dItS
  | .Set _ _ _ => none
  | _ => (f iter).map dItS
def cIterH (c : CC) (f : Expr → Option TED) (tg : Expr) (iter : Expr) : Option TAD := match iter with
  | .Call (.Name x _) [a, b] [] _ => if x = ("zip" : Str) then (if glbB c.sc "zip" then (match c.gl.lookup (("zip" : Str)), tg with
      | some .blt, .Tuple _ _ _ => (cArgs f [a, b]).map dZip1
      | _, _ => none) else none) else none
  | _ => none
def nameOf : Expr → Option Str
  | .Name x _ => some x
  | _ => none
def namesOf : List Expr → Option (List Str)
  | [] => some []
  | e :: es => match nameOf e, namesOf es with
    | some x, some xs => some (x :: xs)
    | _, _ => none
def idxs (N : List Str) : List Str → Option (List Nat)
  | [] => some []
  | x :: xs => match idxN N x, idxs N xs with
    | some i, some is => some (i :: is)
    | _, _ => none
/-- the comprehension's own names, with their slots -/
def ownOf (N : List Str) : List (Str × NameKind) → List (Str × Nat)
  | [] => []
  | (x, k) :: r => match k with
    | .local => (match idxN N x with
      | some i => (x, i) :: ownOf N r
      | none => ownOf N r)
    | .cell => (match idxN N x with
      | some i => (x, i) :: ownOf N r
      | none => ownOf N r)
    | _ => ownOf N r
def stoB (scope sc : Scope) (x : Str) : Bool := locB sc x && ((scope.names.lookup x == some .cell) || (sc.names.lookup x == some .local))
def cTgO (hot : Bool) (N : List Str) (scope sc : Scope) (own : List Nat) : Expr → Option GD
  | .Name x _ => if stoB scope sc x then (match idxN N x with
    | some i => if own.contains i then some (gN i) else none
    | none => none) else none
  | .Tuple es _ _ => (match namesOf es with
    | some xs => if xs.all (stoB scope sc) then (match idxs N xs with
      | some is => if is.all own.contains then some (if hot then gTH is else gT is) else none
      | none => none) else none
    | none => none)
  | _ => none
def inner (c : CC) (scope : Scope) : CC := { c with sc := relS scope c.sc, hot := c.hot.map fun _ => none, cf := false }
def cLc (c : CC) (f : Expr → Option TED) (f' : Expr → Option TED) (ft' : Expr → Option TTD) (elt tg iter : Expr) (ifs : List Expr) (scope : Scope) : Option TED :=
  let own := ownOf c.N scope.names
  if blkC c.N c.sc scope own then (match (if c.hot.isNone then cIter c f tg iter else cIterH c f tg iter), cTgO c.hot.isSome c.N scope (relS scope c.sc) (own.map (·.2)) tg, (match ifs with
      | [] => some dYes
      | [e] => ft' e
      | _ => none), f' elt with
    | some ti, some g, some tt, some te => some (dLc ti (own.map (·.2)) g tt te)
    | _, _, _, _ => none) else none
/-- a name that holds a dict -/
def isDc (c : CC) : Expr → Bool
  | .Name x _ => c.dc.contains x
  | _ => false
/-- dicts -/
def cMore (c : CC) (f : Expr → Option TED) (e : Expr) : Option TED := match e with
  | .Dict [] [] _ => some dDNew
  | .Dict [some (.Constant (.str k) _ _)] [v] _ => (f v).map (dDOne k)
  | .Call (.Attribute o m apos) [e, g] [] pos => if m == ("get" : Str) && isDc c o && plainA o && apos.endLine == pos.line && noStar [e, g] then (match f o, f e, f g with
    | some to, some te, some tg => some (dDGet2 to te tg)
    | _, _, _ => none) else none
  | _ => none
def stepE (c : CC) (f : Expr → Option TED) (ft : Expr → Option TTD) (sub : CC → (Expr → Option TED) × (Expr → Option TTD)) (e : Expr) : Option TED := match cMore c f e with
 | some t => some t
 | none => match e with
  | .Name x _ => cName c x
  | .Constant k _ _ => cConst k
  | .Tuple es _ _ => (cArgs f es).map dTup
  | .List es _ => (cArgs f es).map dLst
  | .BinOp a op b _ => (match f a, f b, cBin op with
    | some ta, some tb, some o => some (dBin o ta tb)
    | _, _, _ => none)
  | .UnaryOp .USub a _ => (f a).map dNeg
  | .UnaryOp .Not a _ => (f a).map dNotV
  | .Compare a ops bs _ => cCmp f a ops bs
  | .BoolOp op vs _ => cBoolV f op vs
  | .IfExp t a b _ => (match ft t, f a, f b with
    | some tt, some ta, some tb => some (dIf tt ta tb)
    | _, _, _ => none)
  | .Subscript a (.Slice lo hi none _) _ => (match f a, cPart f lo, cPart f hi with
    | some ta, some tl, some th => some (dSlice ta tl th)
    | _, _, _ => none)
  | .Subscript a (.Slice none none (some (.UnaryOp .USub (.Constant (.int 1) _ _) _)) _) _ => (f a).map dRev
  | .Subscript a b _ => if plainIxB b then (match f a, f b with
    | some ta, some tb => some (dBin ixD ta tb)
    | _, _ => none) else none
  | .Call (.Name x _) args [] _ => cCall c f (fun ls => (sub (lamCC c ls)).1) x args
  | .Call (.Attribute o m apos) [e] [] pos => if plainA o && apos.endLine == pos.line && noStar [e] then cMeth f o m e else none
  | .Lambda la lb ls _ => (match c.lq with
    | some q => if la.defaults.isEmpty && la.kw_defaults.isEmpty && (ls.names.all fun y => !(y.2 == .free)) then some (dC (.lam ⟨q, la, lb, ls⟩)) else none
    | none => none)
  | .ListComp elt [⟨tg, iter, ifs, 0⟩] scope _ => cLc c f (sub (inner c scope)).1 (sub (inner c scope)).2 elt tg iter ifs scope
  | _ => none
def plainT : Expr → Bool
  | .UnaryOp .Not _ _ | .BoolOp _ _ _ | .IfExp _ _ _ _ | .Compare _ _ _ _ => false
  | _ => true
def stepT (f : Expr → Option TED) (ft : Expr → Option TTD) (e : Expr) : Option TTD := match e with
  | .UnaryOp .Not a _ => (ft a).map dNot
  | .BoolOp op vs _ => cBoolT ft op vs
  | .Compare a ops bs _ => (cCmp f a ops bs).map dTest
  | e => if plainT e then (f e).map dTru else none
def cA : Nat → CC → (Expr → Option TED) × (Expr → Option TTD)
  | 0, _ => (fun _ => none, fun _ => none)
  | n + 1, c => (stepE c (cA n c).1 (cA n c).2 (cA n), stepT (cA n c).1 (cA n c).2)

/-! ### it is so -/
section
variable {G : Wd} {k : Nat}
def SE (G : Wd) (k : Nat) (c : CC) (f : Expr → Option TED) : Prop := ∀ e t, f e = some t → ∀ X W, Ct G c k X → L2N.Takes X W → PD X G.T W e t
structure COk (G : Wd) (k : Nat) (c : CC) : Prop where
  gl : GOk G k c.gl
  mr : MonoRv c.rv
  rv : RvOk G k c.rv
  lg : ∀ q, c.lq = some q → GOk G c.lj c.lg ∧ RvOk G c.lj c.rv
def ST (G : Wd) (k : Nat) (c : CC) (f : Expr → Option TTD) : Prop := ∀ e t, f e = some t → ∀ X W, Ct G c k X → L2N.Takes X W → PTD X G.T W e t
variable {c : CC} {X : Cx} {W : WX}
theorem Ct.gl_ok {x : Str} (ct : Ct G c k X) (h : glbB c.sc x = true) : Gl X x := by
  show X.env.scope.names.lookup x = some .globalImplicit
  rw [ct.sc]
  exact glbB_ok h
theorem cName_ok (go : COk G k c) (ct : Ct G c k X) {x : Str} {pos : Pos} {t : TED} (h : cName c x = some t) : PD X G.T W (.Name x pos) t := by
  unfold cName at h
  split at h
  · rename_i hp
    obtain ⟨p1, p2, p3⟩ := plainN_ok hp
    split at h
    · rename_i hv
      cases e : idxN c.N x with
      | none => rw [e] at h; cases h
      | some i =>
        rw [e] at h
        cases h
        exact pd_var (by rw [ct.N]; exact idxN_ok e) (by rw [ct.sc]; exact visB_ok hv) p1 p2
    · split at h
      · rename_i hg
        have gx := ct.gl_ok hg
        split at h
        · rename_i d e
          cases h
          obtain ⟨u, v, h1, h2, h3⟩ := go.gl _ _ e
          exact pd_c (pe_glob gx (by rw [ct.gx.mg]; exact h1) h2 p1) (by rw [ct.gx.K]; exact h3)
        · rename_i f n sp e
          cases h
          obtain ⟨h1, h2⟩ := go.gl _ _ e
          exact pd_c (pe_glob (v := .ref f) gx (by rw [ct.gx.mg]; exact h1) rfl p1) fun _ _ => rfl
        · rename_i C e
          cases h
          obtain ⟨h1, h2⟩ := go.gl _ _ e
          exact pd_c (pe_glob (v := .ref C) gx (by rw [ct.gx.mg]; exact h1) rfl p1) fun _ _ => rfl
        · rename_i e
          have hm : G.mg x = none := go.gl _ _ e
          cases e2 : tyOf x with
          | none => rw [e2] at h; cases h
          | some n =>
            rw [e2] at h
            cases h
            unfold tyOf at e2
            split at e2
            · rename_i m e3
              cases e2
              exact pd_c (pe_bltn (v := .ty n) gx (by rw [ct.gx.mg]; exact hm) e3 rfl p3 p1) fun A H => rfl
            · cases e2
        · cases h
      · cases h
  · cases h
theorem cConst_ok {v : Const} {j : Nat} {pos : Pos} {t : TED} (h : cConst v = some t) {T : TB} : PD X T W (.Constant v j pos) t := by
  cases v with
  | none => cases h; exact pd_c pe_non fun _ _ => rfl
  | bool b => cases h; exact pd_c pe_bl fun _ _ => rfl
  | int b => cases h; exact pd_c pe_int fun _ _ => rfl
  | str b => cases h; exact pd_c pe_str fun _ _ => rfl
  | _ => cases h
theorem cBin_ok {op : Operator} {o : OpD} {a b : Expr} {ta tb : TED} {pos : Pos} {T : TB} (h : cBin op = some o) (ha : PD X T W a ta) (hb : PD X T W b tb) : PD X T W (.BinOp a op b pos) (dBin o ta tb) := by
  cases op <;> first | cases h | skip
  · exact pd_bin op_addA addD_l addD_mono ha hb
  · exact pd_bin op_sub subD_l subD_mono ha hb
  · exact pd_bin op_mulA mulD_l mulD_mono ha hb
  · exact pd_bin op_mod modD_l modD_mono ha hb
  · exact pd_bin op_pow powD_l powD_mono ha hb
  · exact pd_bin op_fdivW fdivD_l fdivD_mono ha hb
theorem cCmpO_ok {op : CmpOp} {o : OpD} (hu : X.A.units + 64 < cLine) {T : TB} (h : cCmpO op = some o) : ∃ r, OpR X (compareOp op) r ∧ OpL X.K T o r ∧ MonoOp o := by
  cases op <;> cases h
  · exact ⟨_, op_eqD hu, eqD_l, eqD_mono⟩
  · exact ⟨_, op_neD hu, neD_l, neD_mono⟩
  · exact ⟨_, op_ltA, cmpD_l, cmpD_mono⟩
  · exact ⟨_, op_leA, cmpD_l, cmpD_mono⟩
  · exact ⟨_, op_gtA, cmpD_l, cmpD_mono⟩
  · exact ⟨_, op_geA, cmpD_l, cmpD_mono⟩
  · exact ⟨_, op_isA, isD_l, isD_mono⟩
  · exact ⟨_, op_isnotA, isD_l, isD_mono⟩
  · exact ⟨_, op_inA hu, inD_l, inD_mono⟩
  · exact ⟨_, op_notinA hu, inD_l, inD_mono⟩
variable {f : Expr → Option TED} {ft : Expr → Option TTD}
theorem cArgs_ok (sf : SE G k c f) (ct : Ct G c k X) (tk : L2N.Takes X W) : ∀ {es : List Expr} {t : TAD}, cArgs f es = some t → noStar es = true ∧ PAD X G.T W es t
  | [], t, h => by cases h; exact ⟨rfl, pad_nil⟩
  | e :: es, t, h => by
    unfold cArgs at h
    split at h
    · rename_i hn
      split at h
      · rename_i te tr e1 e2
        cases h
        exact ⟨hn, pad_cons (sf _ _ e1 X W ct tk) (cArgs_ok sf ct tk e2).2 (starEach_cons hn)⟩
      · cases h
    · cases h
theorem cBoolV_ok (sf : SE G k c f) (ct : Ct G c k X) (tk : L2N.Takes X W) {op : BoolOp} {pos : Pos} : ∀ {es : List Expr} {t : TED}, cBoolV f op es = some t → PD X G.T W (.BoolOp op es pos) t
  | [], t, h => by cases h
  | [e], t, h => pd_one (sf _ _ h X W ct tk)
  | e :: e2 :: es, t, h => by
    unfold cBoolV at h
    split at h
    · rename_i te tr h1 h2
      cases h
      cases op with
      | And => exact pd_and (sf _ _ h1 X W ct tk) (cBoolV_ok sf ct tk h2)
      | Or => exact pd_or (sf _ _ h1 X W ct tk) (cBoolV_ok sf ct tk h2)
    · cases h
theorem cBoolT_ok (sf : ST G k c ft) (ct : Ct G c k X) (tk : L2N.Takes X W) {op : BoolOp} {pos : Pos} : ∀ {es : List Expr} {t : TTD}, cBoolT ft op es = some t → PWD X G.T W (.BoolOp op es pos) t
  | [], t, h => by cases h
  | [e], t, h => by
    cases op with
    | And => exact pwd_and1 (sf _ _ h X W ct tk)
    | Or => exact pwd_or1 (sf _ _ h X W ct tk)
  | e :: e2 :: es, t, h => by
    unfold cBoolT at h
    split at h
    · rename_i te tr h1 h2
      cases h
      cases op with
      | And => exact pwd_and (sf _ _ h1 X W ct tk) (cBoolT_ok sf ct tk h2)
      | Or => exact pwd_or (sf _ _ h1 X W ct tk) (cBoolT_ok sf ct tk h2)
    · cases h
theorem plainIx_of {b : Expr} (h : plainIxB b = true) : PlainIx b := by
  intro o i
  cases b <;> first | rfl | cases h
theorem cPart_ok (sf : SE G k c f) (ct : Ct G c k X) (tk : L2N.Takes X W) : ∀ {e : Option Expr} {t : TOD}, cPart f e = some t → POD X G.T W e t
  | none, t, h => by cases h; exact pod_none
  | some e, t, h => by
    have h' : (f e).map dPart = some t := h
    cases e1 : f e with
    | none => rw [e1] at h'; cases h'
    | some te =>
      rw [e1] at h'
      cases h'
      exact pod_some (sf _ _ e1 X W ct tk)
theorem cCmp_ok (sf : SE G k c f) (ct : Ct G c k X) (tk : L2N.Takes X W) {a : Expr} {ops : List CmpOp} {bs : List Expr} {t : TED} {pos : Pos} (h : cCmp f a ops bs = some t) : PD X G.T W (.Compare a ops bs pos) t ∧ PTD X G.T W (.Compare a ops bs pos) (dTest t) := by
  have hu := ct.un
  unfold cCmp at h
  split at h
  · split at h
    · cases h
    · rename_i hm
      split at h
      · rename_i ta tb o e1 e2 e3
        cases h
        obtain ⟨r, r1, r2, r3⟩ := cCmpO_ok (X := X) (T := G.T) hu e3
        have hm' := Bool.eq_false_iff.mpr hm
        exact ⟨pd_cmp r1 r2 r3 (sf _ _ e1 X W ct tk) (sf _ _ e2 X W ct tk) hm', ptd_cmp r1 r2 r3 (sf _ _ e1 X W ct tk) (sf _ _ e2 X W ct tk) hm'⟩
      · cases h
  · split at h
    · cases h
    · rename_i hm
      split at h
      · rename_i ta tb tc o o' e1 e2 e3 e4 e5
        cases h
        obtain ⟨r, r1, r2, r3⟩ := cCmpO_ok (X := X) (T := G.T) hu e4
        obtain ⟨r', q1, q2, q3⟩ := cCmpO_ok (X := X) (T := G.T) hu e5
        have hm' := Bool.eq_false_iff.mpr hm
        exact ⟨pd_chain r1 q1 r2 q2 r3 q3 (sf _ _ e1 X W ct tk) (sf _ _ e2 X W ct tk) (sf _ _ e3 X W ct tk) hm', ptd_chain r1 q1 r2 q2 r3 q3 (sf _ _ e1 X W ct tk) (sf _ _ e2 X W ct tk) (sf _ _ e3 X W ct tk) hm'⟩
      · cases h
  · cases h
theorem bltn_ok (hc : X.calm = true) {x : Str} {b : Bool} {id : String} {o : CallO} {T : TB} (h : bltn x = some (b, id, o)) : MonoC o ∧ ((b = false ∧ bootBuiltins x = some (.builtin id) ∧ ∃ r, CallR X (.builtin id) r ∧ CallL X.K T o r) ∨ (b = true ∧ bootBuiltins x = some (.type id) ∧ ∃ r, CallR X (.type id) r ∧ CallL X.K T o r)) := by
  unfold bltn at h
  split at h
  · rename_i e; cases h; subst e; exact ⟨lenD_mono, .inl ⟨rfl, by decide +kernel, _, call_len, lenD_l⟩⟩
  split at h
  · rename_i e; cases h; subst e; exact ⟨absD_mono, .inl ⟨rfl, by decide +kernel, _, call_abs, absD_l⟩⟩
  split at h
  · rename_i e; cases h; subst e; exact ⟨isiD_mono, .inl ⟨rfl, by decide +kernel, _, call_isi, isiD_l⟩⟩
  split at h
  · rename_i e; cases h; subst e; exact ⟨maxD_mono, .inl ⟨rfl, by decide +kernel, _, call_maxA hc, maxD_l⟩⟩
  split at h
  · rename_i e; cases h; subst e; exact ⟨minD_mono, .inl ⟨rfl, by decide +kernel, _, call_minA hc, minD_l⟩⟩
  split at h
  · rename_i e; cases h; subst e; exact ⟨sumD_mono, .inl ⟨rfl, by decide +kernel, _, cr_sum hc, sumD_l⟩⟩
  split at h
  · rename_i e; cases h; subst e; exact ⟨intD_mono, .inr ⟨rfl, by decide +kernel, _, call_intA, intD_l⟩⟩
  split at h
  · rename_i e; cases h; subst e; exact ⟨strD_mono, .inr ⟨rfl, by decide +kernel, _, call_strA, strD_l⟩⟩
  split at h
  · rename_i e; cases h; subst e; exact ⟨boolD_mono, .inr ⟨rfl, by decide +kernel, _, call_bool1, boolD_l⟩⟩
  split at h
  · rename_i e; cases h; subst e; exact ⟨listD_mono, .inr ⟨rfl, by decide +kernel, _, call_list_of, listD_l⟩⟩
  split at h
  · rename_i e; cases h; subst e; exact ⟨tupleD_mono, .inr ⟨rfl, by decide +kernel, _, call_tuple_of, tupleD_l⟩⟩
  cases h
theorem bltn2_ok (hc : X.calm = true) {x : Str} {b : Bool} {id : String} {o : CallO} {T : TB} (h : bltn2 x = some (b, id, o)) : MonoC o ∧ ((b = false ∧ bootBuiltins x = some (.builtin id) ∧ ∃ r, CallR X (.builtin id) r ∧ CallL X.K T o r) ∨ (b = true ∧ bootBuiltins x = some (.type id) ∧ ∃ r, CallR X (.type id) r ∧ CallL X.K T o r)) := by
  unfold bltn2 at h
  by_cases e : x = "sorted"
  · rw [if_pos e] at h
    cases h
    subst e
    exact ⟨sortedD_mono, .inl ⟨rfl, by decide +kernel, _, cr_sortedI, sortedD_l⟩⟩
  · rw [if_neg e] at h
    exact bltn_ok hc h
theorem bltnM_ok (ct : Ct G c k X) {x : Str} {b : Bool} {id : String} {o : CallO} (h : bltnM c x = some (b, id, o)) : MonoC o ∧ ((b = false ∧ bootBuiltins x = some (.builtin id) ∧ ∃ r, CallR X (.builtin id) r ∧ CallL X.K G.T o r) ∨ (b = true ∧ bootBuiltins x = some (.type id) ∧ ∃ r, CallR X (.type id) r ∧ CallL X.K G.T o r)) := by
  unfold bltnM at h
  split at h
  · rename_i e
    exact bltn2_ok (ct.calm e) h
  · rename_i K a D e
    obtain ⟨_, q⟩ := ct.hx _ e
    obtain ⟨rfl, hC, oe, hp, hz, hf⟩ := q K a D rfl
    split at h
    · rename_i ex
      cases h
      subst ex
      exact ⟨isxD_mono, .inl ⟨rfl, by decide +kernel, _, isE_pn hC hp hz hf, isxD_l⟩⟩
    · split at h
      · rename_i ex
        cases h
        subst ex
        exact ⟨intD_mono, .inr ⟨rfl, by decide +kernel, _, call_intA, intD_l⟩⟩
      · cases h
  · cases h
theorem Ct.lamN {A : Around} {outer : List Env} {s : Shared} {H : Hp} {E : XK} {ls : Scope} {f c' : Addr} (ct : Ct G c k X) (hr : Room c.lj (A.deeper (lamEnv X ls s.heap.objs.size f c'))) : Ct G (lamCC c ls) c.lj (lamCxN X A outer s H E ls f c') :=
  ⟨⟨ct.gx.P, ct.gx.w, ct.gx.K, ct.gx.mg, ct.gx.base⟩, ct.N, ct.nd, rfl, fun _ => rfl, fun _ => hr, hr.units, (fun m e => by cases e), (fun q e => by cases e), fun e => by cases e⟩
theorem cRun_ok (ct : Ct G c k X) (tk : L2N.Takes X W) (hh : c.hot = none) {fl : Scope → Expr → Option TED} (sl : ∀ q, c.lq = some q → ∀ ls, SE G c.lj (lamCC c ls) (fl ls)) {j : Nat} {r : TED → TED} {x : Str} {args : List Expr} {t : TED} {p pos : Pos} (hj : j + 2 ≤ k) (R : Runner G j x r) (gx : Gl X x) (h : cRun c fl j r args = some t) : PD X G.T W (.Call (.Name x p) args [] pos) t := by
  unfold cRun at h
  split at h
  · rename_i la lb ls lpos
    split at h
    · rename_i q hq
      split at h
      · rename_i hc
        simp only [Bool.and_eq_true, decide_eq_true_eq] at hc
        obtain ⟨⟨c1, c2⟩, c3⟩ := hc
        cases e2 : fl ls lb with
        | none => rw [e2] at h; cases h
        | some tb =>
          rw [e2] at h
          cases h
          obtain ⟨d1, d2⟩ := noArgs_d c1
          have hr := (ct.room hh).mono hj
          have body : ∀ (A : Around) (outer : List Env) (s : Shared) (H : Hp) (E : XK) (f c' : Addr), Room j (A.deeper (lamEnv X ls s.heap.objs.size f c')) → PD (lamCxN X A outer s H E ls f c') G.T (fun cls d _ H' => E cls d H') lb tb :=
            fun A outer s H E f c' hr' => sl q hq ls lb tb e2 _ _ (ct.lamN (hr'.mono c3)) takes_lamN
          exact R.run X W ⟨q, la, lb, ls⟩ tb p lpos pos ct.gx hr gx tk (ct.lam q hq) (lamS_by (by rw [ct.sc]; exact c2)) d1 d2 (fun q cl pm cv ctv => noArgs_bind c1 q lb ls cl pm cv ctv) body
            (body X.A [] X.s_0 X.H_0 (fun _ _ _ => False) 0 0 ((hr.mono (Nat.le_succ (j + 1))).deeper _)).mo
      · cases h
    · cases h
  · cases h
theorem cLamC_ok (sf : SE G k c f) (ct : Ct G c k X) (tk : L2N.Takes X W) (hh : c.hot = none) {n : Nat} {sp : SpD} {x : Str} {args : List Expr} {t : TED} {p pos : Pos} (F : GFn G k n x sp) (gx : Gl X x) (p1 : (x == ("__debug__" : Str)) = false) (h : cLamC c f n sp args = some t) : PD X G.T W (.Call (.Name x p) args [] pos) t := by
  unfold cLamC at h
  split at h
  · rename_i la lb ls lpos es
    split at h
    · rename_i q hq
      split at h
      · rename_i hc
        simp only [Bool.and_eq_true, List.isEmpty_iff, List.all_eq_true, Bool.or_eq_true, Bool.not_eq_true', beq_eq_false_iff_ne, beq_iff_eq] at hc
        obtain ⟨⟨⟨⟨c1, c2⟩, c3⟩, c4⟩, c5⟩ := hc
        split at h
        · rename_i cs ta e1 e2
          cases h
          obtain ⟨hs, pa⟩ := cArgs_ok sf ct tk e2
          refine pd_callL (l := ⟨q, la, lb, ls⟩) ct.gx F (ct.room hh) gx tk (ct.lam q hq) (fun y hy e => ?_) c2 c3 (ct.cf c1) pa (fun p hp => ?_) p1 (backTo_no c4)
          · rw [ct.sc]
            rcases c5 y hy with (z | z) | z
            · exact absurd e z
            · exact .inl z
            · exact .inr z
          · rw [ct.N]; exact frees_ok e1 p hp
        · cases h
      · cases h
    · cases h
  · cases h
theorem cCall_ok (go : COk G k c) (sf : SE G k c f) {fl : Scope → Expr → Option TED} (sl : ∀ q, c.lq = some q → ∀ ls, SE G c.lj (lamCC c ls) (fl ls)) (ct : Ct G c k X) (tk : L2N.Takes X W) {x : Str} {args : List Expr} {t : TED} {p pos : Pos} (h : cCall c f fl x args = some t) : PD X G.T W (.Call (.Name x p) args [] pos) t := by
  have fns : ∀ {n : Nat} {sp : SpD}, c.hot = none → Gl X x → (x == ("__debug__" : Str)) = false → GFn G k n x sp → cFn2 c f n sp args = some t → PD X G.T W (.Call (.Name x p) args [] pos) t := fun {n sp} hh gx p1 F h => by
    unfold cFn2 at h
    split at h
    case h_2 => exact cLamC_ok sf ct tk hh F gx p1 h
    rename_i t' h
    cases ‹some t' = some t›
    cases args with
    | nil =>
      have h : (if n = 0 then some (dCall 0 sp dNil) else none) = some t := h
      split at h
      · rename_i hn
        cases h
        subst hn
        exact pd_call0 ct.gx F (ct.room hh) gx tk p1
      · cases h
    | cons e1 es =>
      have h : (cArgs f (e1 :: es)).map (dCall n sp) = some t := h
      cases e2 : cArgs f (e1 :: es) with
      | none => rw [e2] at h; cases h
      | some ta =>
        rw [e2] at h
        cases h
        obtain ⟨hs, pa⟩ := cArgs_ok sf ct tk e2
        exact pd_call ct.gx F (ct.room hh) gx tk pa p1 (starEach_cons hs) (backTo_no (noStar_tail hs))
  unfold cCall at h
  split at h
  · rename_i hp
    rw [Bool.and_eq_true] at hp
    obtain ⟨p1, p2, p3⟩ := plainN_ok hp.1
    have gx := ct.gl_ok hp.2
    split at h
    · rename_i n sp e
      split at h
      · rename_i hh
        exact fns (Option.isNone_iff_eq_none.mp hh) gx p1 (go.gl _ _ e) h
      · cases h
    · rename_i f0 n sp e
      split at h
      · rename_i hh
        obtain ⟨k1, k2⟩ := go.gl _ _ e
        exact fns (Option.isNone_iff_eq_none.mp hh) gx p1 ⟨f0, k1, k2⟩ h
      · cases h
    · rename_i j r e
      split at h
      · rename_i hh
        obtain ⟨k1, k2⟩ := go.gl _ _ e
        exact cRun_ok ct tk (Option.isNone_iff_eq_none.mp hh) sl k1 k2 gx h
      · cases h
    · rename_i e
      have hm : G.mg x = none := go.gl _ _ e
      split at h
      · rename_i b id o e3
        cases args with
        | nil => cases h
        | cons e1 es =>
          have h : (cArgs f (e1 :: es)).map (dCB o) = some t := h
          cases e2 : cArgs f (e1 :: es) with
          | none => rw [e2] at h; cases h
          | some ta =>
            rw [e2] at h
            cases h
            obtain ⟨hs, pa⟩ := cArgs_ok sf ct tk e2
            obtain ⟨mo, ⟨_, hb, r, c1, c2⟩ | ⟨_, hb, r, c1, c2⟩⟩ := bltnM_ok ct e3
            · exact pd_callB c1 c2 mo gx (by rw [ct.gx.mg]; exact hm) hb pa p3 p1 (starEach_cons hs) (backTo_no (noStar_tail hs))
            · exact pd_callTy c1 c2 mo gx (by rw [ct.gx.mg]; exact hm) hb pa p3 p1 (starEach_cons hs) (backTo_no (noStar_tail hs))
      · cases h
    · cases h
  · split at h
    · rename_i hp
      simp only [Bool.and_eq_true] at hp
      obtain ⟨⟨hp1, hv⟩, hh⟩ := hp
      obtain ⟨p1, p2, p3⟩ := plainN_ok hp1
      have hh := Option.isNone_iff_eq_none.mp hh
      split at h
      · rename_i i e
        cases args with
        | nil =>
          cases h
          exact pd_callV0 ct.gx tk go.mr go.rv (ct.room hh) (by rw [ct.N]; exact idxN_ok e) (by rw [ct.sc]; exact visB_ok hv) p1 p2
        | cons e1 es =>
          have h : (cArgs f (e1 :: es)).map (dCallV c.rv i) = some t := h
          cases e2 : cArgs f (e1 :: es) with
          | none => rw [e2] at h; cases h
          | some ta =>
            rw [e2] at h
            cases h
            obtain ⟨hs, pa⟩ := cArgs_ok sf ct tk e2
            exact pd_callV ct.gx tk go.mr go.rv (ct.room hh) (by rw [ct.N]; exact idxN_ok e) (by rw [ct.sc]; exact visB_ok hv) p1 p2 pa (starEach_cons hs) (backTo_no (noStar_tail hs))
      · cases h
    · cases h
theorem cMeth_ok (sf : SE G k c f) (ct : Ct G c k X) (tk : L2N.Takes X W) {o e : Expr} {m : Str} {t : TED} {apos pos : Pos} (h : cMeth f o m e = some t) (ho : plainA o = true) (hl : (apos.endLine == pos.line) = true) (hs : noStar [e] = true) : PD X G.T W (.Call (.Attribute o m apos) [e] [] pos) t := by
  unfold cMeth at h
  split at h
  · rename_i tx te e1 e2
    split at h
    · rename_i em
      cases h
      subst em
      exact pd_split (sf _ _ e1 X W ct tk) (sf _ _ e2 X W ct tk) (starEach_cons hs) (plainA_ok ho) hl
    · split at h
      · rename_i em
        cases h
        subst em
        exact pd_join (sf _ _ e1 X W ct tk) (sf _ _ e2 X W ct tk) (starEach_cons hs) (plainA_ok ho) hl
      · cases h
  · cases h
theorem cIterH_ok (go : COk G k c) (sf : SE G k c f) (ct : Ct G c k X) (tk : L2N.Takes X W) {tg iter : Expr} {t : TAD} (h : cIterH c f tg iter = some t) : PIDH X G.T W tg iter t ∧ ∀ x, foldedSetIterable iter X.env x = pure x := by
  unfold cIterH at h
  split at h
  · rename_i x p a b pos
    refine ⟨?_, fun _ => rfl⟩
    split at h
    · rename_i ex
      subst ex
      split at h
      · rename_i hg
        have gx := ct.gl_ok hg
        split at h
        · rename_i e
          have hm : G.mg "zip" = none := go.gl _ _ e
          cases e2 : cArgs f [a, b] with
          | none => rw [e2] at h; cases h
          | some ta =>
            rw [e2] at h
            cases h
            obtain ⟨hs, pa⟩ := cArgs_ok sf ct tk e2
            exact pidh_zip gx (by rw [ct.gx.mg]; exact hm) pa (starEach_cons hs) (backTo_no (noStar_tail hs))
        · cases h
      · cases h
    · cases h
  · cases h
theorem cIter_ok (go : COk G k c) (sf : SE G k c f) (ct : Ct G c k X) (tk : L2N.Takes X W) {tg iter : Expr} {t : TAD} (h : cIter c f tg iter = some t) : PID X G.T W tg iter t ∧ ∀ x, foldedSetIterable iter X.env x = pure x := by
  have seq : ∀ {iter : Expr}, (f iter).map dItS = some t → PID X G.T W tg iter t := fun {iter} h => by
    cases e : f iter with
    | none => rw [e] at h; cases h
    | some te =>
      rw [e] at h
      cases h
      exact pid_seq (sf _ _ e X W ct tk)
  unfold cIter at h
  split at h
  · rename_i x p args pos
    refine ⟨?_, fun _ => rfl⟩
    split at h
    · rename_i ex
      subst ex
      split at h
      · rename_i hg
        have gx := ct.gl_ok hg
        split at h
        · rename_i e
          have hm : G.mg "range" = none := go.gl _ _ e
          split at h
          · rename_i a
            cases e2 : cArgs f [a] with
            | none => rw [e2] at h; cases h
            | some ta =>
              rw [e2] at h
              cases h
              obtain ⟨hs, pa⟩ := cArgs_ok sf ct tk e2
              exact pid_range1 gx (by rw [ct.gx.mg]; exact hm) pa (starEach_cons hs)
          · rename_i a b
            cases e2 : cArgs f [a, b] with
            | none => rw [e2] at h; cases h
            | some ta =>
              rw [e2] at h
              cases h
              obtain ⟨hs, pa⟩ := cArgs_ok sf ct tk e2
              have h2 := starEach_cons (env := X.env) (noStar_tail hs)
              exact pid_range2 gx (by rw [ct.gx.mg]; exact hm) pa (by rw [starEach_cons hs, h2]; rfl) (by rw [h2]; rfl)
          · cases h
        · cases h
      · cases h
    · split at h
      · rename_i ex
        subst ex
        split at h
        · rename_i hg
          have gx := ct.gl_ok hg
          split at h
          · rename_i e
            have hm : G.mg "zip" = none := go.gl _ _ e
            split at h
            · rename_i a b
              cases e2 : cArgs f [a, b] with
              | none => rw [e2] at h; cases h
              | some ta =>
                rw [e2] at h
                cases h
                obtain ⟨hs, pa⟩ := cArgs_ok sf ct tk e2
                exact pid_zip gx (by rw [ct.gx.mg]; exact hm) pa (starEach_cons hs) (backTo_no (noStar_tail hs))
            · cases h
          · cases h
        · cases h
      · exact seq h
  · cases h
  · rename_i hn1 hn2
    refine ⟨seq h, fun x => ?_⟩
    cases iter <;> first | rfl | exact (hn2 _ _ _ rfl).elim
theorem nameOf_eq {e : Expr} {x : Str} (h : nameOf e = some x) : ∃ p, e = .Name x p := by
  cases e <;> first | (cases h; exact ⟨_, rfl⟩) | cases h
theorem assignEach_name {x : Str} {p : Pos} {es : List Expr} {env : Env} : assignEach (.Name x p :: es) env = (false, assign (.Name x p) env) :: assignEach es env := rfl
/-- names in a row, as targets -/
theorem names_ok (hN : X.N.Nodup) : ∀ {es : List Expr} {xs : List Str} {is : List Nat}, namesOf es = some xs → idxs X.N xs = some is → (∀ x, x ∈ xs → L2.Loc X.env.scope x ∧ (X.fn x = true ∨ X.env.scope.names.lookup x = some .local)) →
    PGs X es (gsAll is) ∧ (assignEach es X.env).length = is.length ∧ (assignEach es X.env).findIdx? (·.1) = none
  | [], xs, is, h1, h2, _ => by
    cases h1
    cases h2
    exact ⟨pgs_nil, rfl, rfl⟩
  | e :: es, xs, is, h1, h2, h3 => by
    unfold namesOf at h1
    split at h1
    · rename_i x xs' e1 e2
      cases h1
      unfold idxs at h2
      split at h2
      · rename_i i is' i1 i2
        cases h2
        obtain ⟨p, rfl⟩ := nameOf_eq e1
        obtain ⟨q1, q2, q3⟩ := names_ok hN e2 i2 fun y hy => h3 y (List.mem_cons_of_mem _ hy)
        obtain ⟨s1, s2⟩ := h3 x List.mem_cons_self
        refine ⟨pgs_cons (pg_name hN (idxN_ok i1) s1 s2) q1 (by rw [assignEach_name]; rfl), ?_, ?_⟩
        · rw [assignEach_name, List.length_cons, q2, List.length_cons]
        · rw [assignEach_name, List.findIdx?_cons, q3]
          rfl
      · cases h2
    · cases h1
theorem stoB_ok {scope : Scope} {x : Str} {s : Shared} {H : Hp} {C : Addr} {cl : List (Str × Addr)} {fp : List Addr} (ct : Ct G c k X) (h : stoB scope (relS scope c.sc) x = true) :
    L2.Loc (X.blk s H scope (compEnvC scope cl C X.env) fp).env.scope x ∧ ((X.blk s H scope (compEnvC scope cl C X.env) fp).fn x = true ∨ (X.blk s H scope (compEnvC scope cl C X.env) fp).env.scope.names.lookup x = some .local) := by
  have es : (X.blk s H scope (compEnvC scope cl C X.env) fp).env.scope = relS scope c.sc := by
    show relS scope X.env.scope = _
    rw [ct.sc]
  unfold stoB at h
  rw [Bool.and_eq_true, Bool.or_eq_true] at h
  obtain ⟨h1, h2⟩ := h
  refine ⟨by rw [es]; exact locB_ok h1, ?_⟩
  rcases h2 with h2 | h2
  · exact .inl h2
  · exact .inr (by rw [es]; exact beq_iff_eq.mp h2)
theorem cTgO_ok {scope : Scope} {own : List Nat} {tg : Expr} {g : GD} (ct : Ct G c k X) (hh : c.hot = none) (h : cTgO false c.N scope (relS scope c.sc) own tg = some g) :
    ∀ (s : Shared) (H : Hp) (C : Addr) (cl : List (Str × Addr)) (fp : List Addr), PGO (X.blk s H scope (compEnvC scope cl C X.env) fp) tg own g := by
  intro s H C cl fp
  have hN : (X.blk s H scope (compEnvC scope cl C X.env) fp).N.Nodup := by
    show X.N.Nodup
    rw [ct.N]; exact ct.nd
  have mem : ∀ {i : Nat}, own.contains i = true → i ∈ own := fun h => List.contains_iff_mem.mp h
  unfold cTgO at h
  split at h
  · rename_i x p
    split at h
    · rename_i hs
      split at h
      · rename_i i e
        split at h
        · rename_i ho
          cases h
          obtain ⟨s1, s2⟩ := stoB_ok (s := s) (H := H) (C := C) (cl := cl) (fp := fp) ct hs
          exact pgo_name hN (show X.N[i]? = _ by rw [ct.N]; exact idxN_ok e) s1 s2 (mem ho)
        · cases h
      · cases h
    · cases h
  · rename_i es kk p
    split at h
    · rename_i xs e1
      split at h
      · rename_i hs
        split at h
        · rename_i is e2
          split at h
          · rename_i ho
            cases h
            have hx : idxs (X.blk s H scope (compEnvC scope cl C X.env) fp).N xs = some is := by
              show idxs X.N xs = _
              rw [ct.N]; exact e2
            obtain ⟨q1, q2, q3⟩ := names_ok hN e1 hx fun x hx => stoB_ok ct (List.all_eq_true.mp hs x hx)
            exact pgo_tup (ct.calm hh) q1 q2 q3 fun i hi => mem (List.all_eq_true.mp ho i hi)
          · cases h
        · cases h
      · cases h
    · cases h
  · cases h
theorem cTgOH_ok {scope : Scope} {own : List Nat} {tg : Expr} {g : GD} (ct : Ct G c k X) (h : cTgO true c.N scope (relS scope c.sc) own tg = some g) :
    ∀ (s : Shared) (H : Hp) (C : Addr) (cl : List (Str × Addr)) (fp : List Addr) (p : Addr × Obj), Hot1 X.A p → PGO (hblk X s H scope (compEnvC scope cl C X.env) fp p) tg own g := by
  intro s H C cl fp pp hot
  have hN : (hblk X s H scope (compEnvC scope cl C X.env) fp pp).N.Nodup := by
    show X.N.Nodup
    rw [ct.N]; exact ct.nd
  have mem : ∀ {i : Nat}, own.contains i = true → i ∈ own := fun h => List.contains_iff_mem.mp h
  unfold cTgO at h
  split at h
  · rename_i x p
    split at h
    · rename_i hs
      split at h
      · rename_i i e
        split at h
        · rename_i ho
          cases h
          obtain ⟨s1, s2⟩ := stoB_ok (s := s) (H := H) (C := C) (cl := cl) (fp := fp) ct hs
          exact pgo_name (X := hblk X s H scope (compEnvC scope cl C X.env) fp pp) hN (show X.N[i]? = _ by rw [ct.N]; exact idxN_ok e) s1 s2 (mem ho)
        · cases h
      · cases h
    · cases h
  · rename_i es kk p
    split at h
    · rename_i xs e1
      split at h
      · rename_i hs
        split at h
        · rename_i is e2
          split at h
          · rename_i ho
            cases h
            have hx : idxs (hblk X s H scope (compEnvC scope cl C X.env) fp pp).N xs = some is := by
              show idxs X.N xs = _
              rw [ct.N]; exact e2
            obtain ⟨q1, q2, q3⟩ := names_ok (X := hblk X s H scope (compEnvC scope cl C X.env) fp pp) hN e1 hx fun x hx => stoB_ok (s := s) (H := H) (C := C) (cl := cl) (fp := fp) ct (List.all_eq_true.mp hs x hx)
            exact pgo_tupH (X := hblk X s H scope (compEnvC scope cl C X.env) fp pp) ⟨pp, hot, List.mem_singleton.mpr rfl⟩ q1 q2 q3 fun i hi => mem (List.all_eq_true.mp ho i hi)
          · cases h
        · cases h
      · cases h
    · cases h
  · cases h
theorem Ct.blk {s : Shared} {H : Hp} {scope : Scope} {C : Addr} {cl : List (Str × Addr)} {fp : List Addr} (ct : Ct G c k X) (hh : c.hot = none) : Ct G (inner c scope) k (X.blk s H scope (compEnvC scope cl C X.env) fp) := by
  refine ⟨⟨ct.gx.P, ct.gx.w, ct.gx.K, ct.gx.mg, ct.gx.base⟩, ct.N, ct.nd, ?_, fun _ => ct.calm hh, fun _ => ct.room hh, ct.un, fun m e => ?_, fun q e => ⟨(ct.lam q e).ex, (ct.lam q e).qu⟩, fun e => by cases e⟩
  · show relS scope X.env.scope = relS scope c.sc
    rw [ct.sc]
  · have e : c.hot.map (fun _ => none) = some m := e
    rw [hh] at e
    cases e
theorem Ct.hblk {s : Shared} {H : Hp} {scope : Scope} {C : Addr} {cl : List (Str × Addr)} {fp : List Addr} {p : Addr × Obj} (ct : Ct G c k X) {m : Option (PySem.W.Frag × Addr × Addr)} (hh : c.hot = some m) (hot : Hot1 X.A p) : Ct G (inner c scope) k (Fs.hblk X s H scope (compEnvC scope cl C X.env) fp p) := by
  have no : c.hot.map (fun _ => none) ≠ (none : Option (Option (PySem.W.Frag × Addr × Addr))) := by
    rw [hh]
    exact fun e => by cases e
  refine ⟨⟨ct.gx.P, ct.gx.w, ct.gx.K, ct.gx.mg, ct.gx.base⟩, ct.N, ct.nd, ?_, fun e => absurd e no, fun e => absurd e no, ct.un, fun m' e => ?_, fun q e => ⟨(ct.lam q e).ex, (ct.lam q e).qu⟩, fun e => by cases e⟩
  · show relS scope X.env.scope = relS scope c.sc
    rw [ct.sc]
  · have e : c.hot.map (fun _ => none) = some m' := e
    rw [hh] at e
    cases e
    exact ⟨⟨p, hot, List.mem_singleton.mpr rfl⟩, fun K a D e => by cases e⟩
theorem takesW0 {X : Cx} : L2N.Takes X W0 := fun _ _ x => by
  obtain ⟨_, _, _, _, _, _, _, _, _, _, _, _, _, _, _, _, z⟩ := x
  exact z.elim
/-- a comprehension's parts -/
theorem cLc_ok (go : COk G k c) (sf : SE G k c f) {f' : Expr → Option TED} {ft' : Expr → Option TTD} {scope : Scope} (sf' : SE G k (inner c scope) f') (st' : ST G k (inner c scope) ft') (ct : Ct G c k X) (tk : L2N.Takes X W) (hh : c.hot = none) {elt tg iter : Expr} {ifs : List Expr} {t : TED} (h : cLc c f f' ft' elt tg iter ifs scope = some t) :
    ∃ ti g tt te, t = dLc ti ((ownOf c.N scope.names).map (·.2)) g tt te ∧ PID X G.T W tg iter ti ∧ BlkOk X.N X.env.scope scope (ownOf c.N scope.names) ∧ (∀ x, foldedSetIterable iter X.env x = pure x) ∧
    (∀ (s : Shared) (H : Hp) (C : Addr) (cl : List (Str × Addr)) (fp : List Addr), PGO (X.blk s H scope (compEnvC scope cl C X.env) fp) tg ((ownOf c.N scope.names).map (·.2)) g) ∧ MonoG g ∧
    (∀ (s : Shared) (H : Hp) (C : Addr) (cl : List (Str × Addr)) (fp : List Addr), PTsD (X.blk s H scope (compEnvC scope cl C X.env) fp) G.T W0 ifs tt) ∧ MonoT tt ∧
    (∀ (s : Shared) (H : Hp) (C : Addr) (cl : List (Str × Addr)) (fp : List Addr), PD (X.blk s H scope (compEnvC scope cl C X.env) fp) G.T W0 elt te) ∧ MonoE te := by
  unfold cLc at h
  simp only at h
  split at h
  · rename_i hb
    split at h
    · rename_i ti g tt te e1 e2 e3 e4
      cases h
      rw [hh] at e1 e2
      obtain ⟨i1, i2⟩ := cIter_ok go sf ct tk e1
      have pg := cTgO_ok ct hh e2
      have pe : ∀ (s : Shared) (H : Hp) (C : Addr) (cl : List (Str × Addr)) (fp : List Addr), PD (X.blk s H scope (compEnvC scope cl C X.env) fp) G.T W0 elt te := fun s H C cl fp => sf' _ _ e4 _ _ (ct.blk hh) takesW0
      have pt : ∀ (s : Shared) (H : Hp) (C : Addr) (cl : List (Str × Addr)) (fp : List Addr), PTsD (X.blk s H scope (compEnvC scope cl C X.env) fp) G.T W0 ifs tt := fun s H C cl fp => by
        split at e3
        · cases e3; exact ptsd_nil
        · exact ptsd_one (st' _ _ e3 _ _ (ct.blk hh) takesW0)
        · cases e3
      refine ⟨ti, g, tt, te, rfl, i1, by rw [ct.N, ct.sc]; exact blkOk_by hb, i2, pg, (pg X.s_0 X.H_0 0 [] []).mo, pt, (pt X.s_0 X.H_0 0 [] []).mo, pe, (pe X.s_0 X.H_0 0 [] []).mo⟩
    · cases h
  · cases h
theorem cLcH_ok (go : COk G k c) (sf : SE G k c f) {f' : Expr → Option TED} {ft' : Expr → Option TTD} {scope : Scope} (sf' : SE G k (inner c scope) f') (st' : ST G k (inner c scope) ft') (ct : Ct G c k X) (tk : L2N.Takes X W) {m : Option (PySem.W.Frag × Addr × Addr)} (hh : c.hot = some m) {elt tg iter : Expr} {ifs : List Expr} {t : TED} (h : cLc c f f' ft' elt tg iter ifs scope = some t) :
    ∃ ti g tt te, t = dLc ti ((ownOf c.N scope.names).map (·.2)) g tt te ∧ PIDH X G.T W tg iter ti ∧ BlkOk X.N X.env.scope scope (ownOf c.N scope.names) ∧ (∀ x, foldedSetIterable iter X.env x = pure x) ∧
    (∀ (s : Shared) (H : Hp) (C : Addr) (cl : List (Str × Addr)) (fp : List Addr) (p : Addr × Obj), Hot1 X.A p → PGO (hblk X s H scope (compEnvC scope cl C X.env) fp p) tg ((ownOf c.N scope.names).map (·.2)) g) ∧ MonoG g ∧
    (∀ (s : Shared) (H : Hp) (C : Addr) (cl : List (Str × Addr)) (fp : List Addr) (p : Addr × Obj), Hot1 X.A p → PTsD (hblk X s H scope (compEnvC scope cl C X.env) fp p) G.T W0 ifs tt) ∧ MonoT tt ∧
    (∀ (s : Shared) (H : Hp) (C : Addr) (cl : List (Str × Addr)) (fp : List Addr) (p : Addr × Obj), Hot1 X.A p → PD (hblk X s H scope (compEnvC scope cl C X.env) fp p) G.T W0 elt te) ∧ MonoE te := by
  obtain ⟨⟨p0, hot0, _⟩, _⟩ := ct.hx m hh
  unfold cLc at h
  simp only at h
  split at h
  · rename_i hb
    split at h
    · rename_i ti g tt te e1 e2 e3 e4
      cases h
      rw [hh] at e1 e2
      obtain ⟨i1, i2⟩ := cIterH_ok go sf ct tk e1
      have pg := cTgOH_ok ct e2
      have pe : ∀ (s : Shared) (H : Hp) (C : Addr) (cl : List (Str × Addr)) (fp : List Addr) (p : Addr × Obj), Hot1 X.A p → PD (hblk X s H scope (compEnvC scope cl C X.env) fp p) G.T W0 elt te := fun s H C cl fp p hot => sf' _ _ e4 _ _ (ct.hblk hh hot) takesW0
      have pt : ∀ (s : Shared) (H : Hp) (C : Addr) (cl : List (Str × Addr)) (fp : List Addr) (p : Addr × Obj), Hot1 X.A p → PTsD (hblk X s H scope (compEnvC scope cl C X.env) fp p) G.T W0 ifs tt := fun s H C cl fp p hot => by
        split at e3
        · cases e3; exact ptsd_nil
        · exact ptsd_one (st' _ _ e3 _ _ (ct.hblk hh hot) takesW0)
        · cases e3
      refine ⟨ti, g, tt, te, rfl, i1, by rw [ct.N, ct.sc]; exact blkOk_by hb, i2, pg, (pg X.s_0 X.H_0 0 [] [] p0 hot0).mo, pt, (pt X.s_0 X.H_0 0 [] [] p0 hot0).mo, pe, (pe X.s_0 X.H_0 0 [] [] p0 hot0).mo⟩
    · cases h
  · cases h
theorem map_some {α β : Type} {o : Option α} {g : α → β} {b : β} (h : o.map g = some b) : ∃ a, o = some a ∧ g a = b := by
  cases o with
  | none => cases h
  | some a => exact ⟨a, rfl, Option.some.inj h⟩
theorem cMore_ok (sf : SE G k c f) (ct : Ct G c k X) (tk : L2N.Takes X W) {e : Expr} {t : TED} (h : cMore c f e = some t) : PD X G.T W e t := by
  have hu : X.A.units + 1 < cLine := by have := ct.un; omega
  unfold cMore at h
  split at h
  · cases h; exact pd_dnew
  · obtain ⟨t1, e1, rfl⟩ := map_some h
    exact pd_done (sf _ _ e1 X W ct tk)
  · split at h
    · rename_i hp
      simp only [Bool.and_eq_true, beq_iff_eq] at hp
      obtain ⟨⟨⟨⟨h1, h2⟩, h3⟩, h4⟩, h5⟩ := hp
      subst h1
      split at h
      · rename_i to te tg e1 e2 e3
        cases h
        have t1 := starEach_cons (env := X.env) h5
        have t2 := starEach_cons (env := X.env) (noStar_tail h5)
        have t3 : ∀ env : Env, starEach [] env = [] := fun _ => rfl
        refine pd_dget2 hu (sf _ _ e1 X W ct tk) (sf _ _ e2 X W ct tk) (sf _ _ e3 X W ct tk) ⟨plainA_ok h3, ?_, by rw [h4]; exact beq_self_eq_true _, ?_⟩
        · rw [t1, t2]; rfl
        · rw [t1, t2]; rfl
      · cases h
    · cases h
  · cases h
theorem stepE_ok (go : COk G k c) (sf : SE G k c f) (st : ST G k c ft) {sub : CC → (Expr → Option TED) × (Expr → Option TTD)} (ss : ∀ scope, SE G k (inner c scope) (sub (inner c scope)).1 ∧ ST G k (inner c scope) (sub (inner c scope)).2) (sl : ∀ q, c.lq = some q → ∀ ls, SE G c.lj (lamCC c ls) (sub (lamCC c ls)).1) : SE G k c (stepE c f ft sub) := by
  intro e t h X W ct tk
  unfold stepE at h
  cases hm : cMore c f e with
  | some t1 =>
    rw [hm] at h
    cases h
    exact cMore_ok sf ct tk hm
  | none =>
  rw [hm] at h
  dsimp only at h
  split at h
  · exact cName_ok go ct h
  · exact cConst_ok h
  · obtain ⟨a, e1, rfl⟩ := map_some h
    exact pd_tup (cArgs_ok sf ct tk e1).2
  · obtain ⟨a, e1, rfl⟩ := map_some h
    exact pd_lst (cArgs_ok sf ct tk e1).2
  · split at h
    · rename_i ta tb o e1 e2 e3
      cases h
      exact cBin_ok e3 (sf _ _ e1 X W ct tk) (sf _ _ e2 X W ct tk)
    · cases h
  · obtain ⟨a, e1, rfl⟩ := map_some h
    exact pd_neg (sf _ _ e1 X W ct tk)
  · obtain ⟨a, e1, rfl⟩ := map_some h
    exact pd_not (sf _ _ e1 X W ct tk)
  · exact (cCmp_ok sf ct tk h).1
  · exact cBoolV_ok sf ct tk h
  · split at h
    · rename_i tt ta tb e1 e2 e3
      cases h
      exact pd_if (st _ _ e1 X W ct tk) (sf _ _ e2 X W ct tk) (sf _ _ e3 X W ct tk)
    · cases h
  · split at h
    · rename_i ta tl th e1 e2 e3
      cases h
      exact pd_slice (sf _ _ e1 X W ct tk) (cPart_ok sf ct tk e2) (cPart_ok sf ct tk e3)
    · cases h
  · obtain ⟨a, e1, rfl⟩ := map_some h
    exact pd_rev (sf _ _ e1 X W ct tk)
  · split at h
    · rename_i hb
      split at h
      · rename_i ta tb e1 e2
        cases h
        exact pd_ix (sf _ _ e1 X W ct tk) (sf _ _ e2 X W ct tk) (plainIx_of hb)
      · cases h
    · cases h
  · exact cCall_ok go sf sl ct tk h
  · split at h
    · rename_i hp
      simp only [Bool.and_eq_true] at hp
      exact cMeth_ok sf ct tk h hp.1.1 hp.1.2 hp.2
    · cases h
  · rename_i la lb ls lpos
    split at h
    · rename_i q hq
      split at h
      · rename_i hp
        cases h
        simp only [Bool.and_eq_true, List.isEmpty_iff, List.all_eq_true, Bool.not_eq_true', beq_eq_false_iff_ne] at hp
        exact pd_lam0 (l := ⟨q, la, lb, ls⟩) ct.gx (ct.lam q hq) hp.2 hp.1.1 hp.1.2
      · cases h
    · cases h
  · rename_i elt tg iter ifs scope pos
    obtain ⟨s1, s2⟩ := ss scope
    cases hh : c.hot with
    | none =>
      obtain ⟨ti, g, tt, te, rfl, q1, q2, q3, q4, q5, q6, q7, q8, q9⟩ := cLc_ok go sf s1 s2 ct tk hh h
      exact pd_lc (ct.calm hh) (by rw [ct.N]; exact ct.nd) q1 q2 q4 q5 q6 q7 q8 q9 q3
    | some m =>
      obtain ⟨ti, g, tt, te, rfl, q1, q2, q3, q4, q5, q6, q7, q8, q9⟩ := cLcH_ok go sf s1 s2 ct tk hh h
      exact pd_lcH (ct.hx m hh).1 (by rw [ct.N]; exact ct.nd) q1 q2 q4 q5 q6 q7 q8 q9 q3
  · cases h
theorem stepT_ok (sf : SE G k c f) (st : ST G k c ft) : ST G k c (stepT f ft) := by
  intro e t h X W ct tk
  unfold stepT at h
  split at h
  · obtain ⟨a, e1, rfl⟩ := map_some h
    exact ptd_not (st _ _ e1 X W ct tk)
  · exact (cBoolT_ok st ct tk h).ptd
  · obtain ⟨a, e1, rfl⟩ := map_some h
    exact (cCmp_ok sf ct tk e1).2
  · rename_i n1 n2 n3
    split at h
    · rename_i hp
      obtain ⟨a, e1, rfl⟩ := map_some h
      refine ptd_tru (sf _ _ e1 X W ct tk) fun whole => ?_
      cases e <;> first | rfl | (exact (n2 _ _ _ rfl).elim) | (exact (n3 _ _ _ _ rfl).elim) | skip
      · rename_i op a p
        cases op <;> first | rfl | exact (n1 _ _ rfl).elim
      · cases hp
    · cases h
theorem COk.inner {scope : Scope} (go : COk G k c) : COk G k (inner c scope) := ⟨go.gl, go.mr, go.rv, go.lg⟩
theorem COk.lam {ls : Scope} {q : Str} (go : COk G k c) (h : c.lq = some q) : COk G c.lj (lamCC c ls) := ⟨(go.lg q h).1, go.mr, (go.lg q h).2, fun q e => by cases e⟩
theorem cA_ok : ∀ (n k : Nat) (c : CC), COk G k c → SE G k c (cA n c).1 ∧ ST G k c (cA n c).2
  | 0, k, c, _ => ⟨(fun e t h => by cases h), (fun e t h => by cases h)⟩
  | n + 1, k, c, go => by
    obtain ⟨h1, h2⟩ := cA_ok n k c go
    exact ⟨stepE_ok go h1 h2 (fun scope => cA_ok n k (Fs.inner c scope) go.inner) (fun q hq ls => (cA_ok n c.lj (lamCC c ls) (go.lam hq)).1), stepT_ok h1 h2⟩
end
end Fs
end
section
set_option Elab.async false
set_option linter.all false
set_option maxRecDepth 100000
set_option maxHeartbeats 4000000
namespace Fs
open PySem PySem.Spec PyProof.Rows L2 LamX

def dRaise (C : Addr) : TSD := fun D env S => D.ex (.ref C) env S
theorem psd_raise {X : Cx} {G : Wd} {W : WX} {x m : Str} {C : Addr} {j : Nat} {p p2 p3 pos : Pos} (gx : XIs G X) (hc : X.calm = true) (tk : L2N.Takes X W) (hm : G.mg x = some (.ref C)) (ed : ExcD G C) (hg : Gl X x) (hdb : (x == ("__debug__" : Str)) = false) :
    PSD X G.T W (.Raise (some (.Call (.Name x p) [.Constant (.str m) j p2] [] p3)) none pos) (dRaise C) := by
  refine ⟨PS.imp (L2N.ps_raise hc tk (L2N.pmk_own PySem.F.excBase_ValueError (by rw [gx.K]; exact ed.ex) (by rw [gx.mg]; exact hm) (by rw [gx.K]; exact ed.kp) (raises_own (by rw [gx.K]; exact ed.sb) (by rw [gx.K]; exact ed.ty)) hg hdb)) fun D σ H q => ?_, fun D D' env S l h => l.ex _ _ _ h⟩
  obtain ⟨A, S, env, eo, st, q⟩ := q
  exact q A H σ (Le.refl _ _) st eo
/-! ### which stores are swapped -/
def isStar : Expr → Bool
  | .Starred _ _ => true
  | _ => false
def swNames (sc : Scope) (line : Nat) (ts : List Expr) : List Str := ts.filterMap fun e => match e with
  | .Name id pos => if sc.names.lookup id == some .local && pos.line == line then some id else none
  | _ => none
def swP (sc : Scope) (ts vs : List Expr) : Option (Option (List Str)) :=
  if !(ts.length == 2 || ts.length == 3) || vs.length != ts.length then some none
  else if vs.any isStar then some none
  else
    let names := swNames sc ((ts.head?.map (·.pos.line)).getD 0) ts
    if names.length != ts.length || names.eraseDups.length != names.length then some none
    else if vs.all (foldedForSure 8) then some none
    else if vs.all (constantsAlone 8) then none
    else some (some names)
theorem swappedStores_eq {env : Env} {ts vs : List Expr} {a b : Nat} {p q : Pos} : swappedStores [.Tuple ts a p] (.Tuple vs b q) env =
    if (!(ts.length == 2 || ts.length == 3) || vs.length != ts.length || env.blockKind != .function) = true then pure none
    else if vs.any isStar = true then pure none
    else if ((swNames env.scope ((ts.head?.map (·.pos.line)).getD 0) ts).length != ts.length || (swNames env.scope ((ts.head?.map (·.pos.line)).getD 0) ts).eraseDups.length != (swNames env.scope ((ts.head?.map (·.pos.line)).getD 0) ts).length) = true then pure none
    else if vs.all (foldedForSure 8) = true then pure none
    else if vs.all (constantsAlone 8) = true then (do unsupported "assign.tuple-of-constant-expressions:order-of-the-stores"; pure (some (swNames env.scope ((ts.head?.map (·.pos.line)).getD 0) ts)))
    else pure (some (swNames env.scope ((ts.head?.map (·.pos.line)).getD 0) ts)) := by
  unfold swappedStores
  simp only
  rfl
theorem swP_ok {env : Env} {ts vs : List Expr} {a b : Nat} {p q : Pos} {o : Option (List Str)} (hk : env.scope.kind = .function) (h : swP env.scope ts vs = some o) : swappedStores [.Tuple ts a p] (.Tuple vs b q) env = pure o := by
  have hb : env.blockKind = .function := by unfold Env.blockKind; rw [hk]; rfl
  rw [swappedStores_eq, hb]
  unfold swP at h
  simp only at h
  split at h
  · rename_i h1
    cases h
    rw [if_pos (by simpa using h1)]
  · rename_i h1
    rw [if_neg (by simpa using h1)]
    split at h
    · rename_i h2
      cases h
      rw [if_pos h2]
    · rename_i h2
      rw [if_neg h2]
      split at h
      · rename_i h3
        cases h
        rw [if_pos h3]
      · rename_i h3
        rw [if_neg h3]
        split at h
        · rename_i h4
          cases h
          rw [if_pos h4]
        · rename_i h4
          rw [if_neg h4]
          split at h
          · cases h
          · rename_i h5
            cases h
            rw [if_neg h5]

/-! ### statements, read -/
def swB (sc : Scope) (x : Str) (px vp : Pos) (scope : Scope) : Bool := sc.names.lookup x == some .local && px.line == vp.line && !(scope.names.any fun (n, k) => n == x && (k == .local || k == .cell))
theorem swapsWith_lc {env : Env} {elt : Expr} {gs : List Comprehension} {scope : Scope} {pos px : Pos} {x : Str} {l : Nat} (hk : env.scope.kind = .function) : swapsWith (.ListComp elt gs scope pos) (some (.Name x px)) l env = pure (swB env.scope x px pos scope) := by
  have hb : env.blockKind = .function := by unfold Env.blockKind; rw [hk]; rfl
  unfold swapsWith
  simp only [hb]
  rfl
def isComp : Expr → Bool
  | .ListComp _ _ _ _ | .SetComp _ _ _ _ | .DictComp _ _ _ _ _ => true
  | _ => false
theorem swapsWith_no {e : Expr} {t : Option Expr} {l : Nat} {env : Env} (h : isComp e = false) : swapsWith e t l env = pure false := by
  cases e <;> first | rfl | cases h
def isTupE : Expr → Bool
  | .Tuple _ _ _ => true
  | _ => false
def cAsgT (c : CC) (f : Expr → Option TED) (ts : List Expr) (e : Expr) : Option TSD := match namesOf ts with
  | none => none
  | some xs => if xs.all (locB c.sc) then (match idxs c.N xs with
    | none => none
    | some is => (match e with
      | .Tuple vs _ _ => (match swP c.sc ts vs with
        | none => none
        | some none => (f e).map fun t => dAsg t (gT is)
        | some (some ns) => if xs.all (fun x => c.sc.names.lookup x == some .local) && ns == xs && is.length == vs.length && is.eraseDups.length == is.length then (match is, vs with
          | [i, j], [a, b] => if i == j then none else (cArgs f [a, b]).map (dPar [i, j])
          | [i, j, l], [a, b, d] => if i == j || i == l || j == l then none else (cArgs f [a, b, d]).map (dPar [i, j, l])
          | _, _ => none) else none)
      | _ => (f e).map fun t => dAsg t (gT is))) else none
def cAsg (c : CC) (f : Expr → Option TED) (f' : CC → (Expr → Option TED) × (Expr → Option TTD)) (tg e : Expr) : Option TSD := match tg with
  | .Name x px => if locB c.sc x then (match idxN c.N x with
    | none => none
    | some i => (match e with
      | .ListComp elt [⟨tg, iter, ifs, 0⟩] scope pos => if c.hot.isNone then (cLc c f (f' (inner c scope)).1 (f' (inner c scope)).2 elt tg iter ifs scope).map fun t => dAsg t (gN i) else none
      | e => if isComp e then none else (f e).map fun t => dAsg t (gN i))) else none
  | .Tuple ts _ _ => if c.hot.isNone then cAsgT c f ts e else none
  | _ => none
def cTg (c : CC) : Expr → Option GD
  | .Name x _ => if locB c.sc x then (idxN c.N x).map gN else none
  | .Tuple ts _ _ => (match namesOf ts with
    | none => none
    | some xs => if xs.all (locB c.sc) then (idxs c.N xs).map gT else none)
  | _ => none
def cSeq (f : Stmt → Option TSD) : List Stmt → Option TSD
  | [] => some dNext
  | [s] => f s
  | s :: s2 :: r => match f s, cSeq f (s2 :: r) with
    | some t, some u => some (dSeq t u)
    | _, _ => none
def cMut (c : CC) (f : Expr → Option TED) (s : Stmt) : Option TSD := match s with
  | .Assign [.Name x _] (.List es _) _ => if c.mu.contains x && locB c.sc x then (match idxN c.N x, cArgs f es with
    | some i, some t => some (dAsg (dNewL t) (gN i))
    | _, _ => none) else none
  | .Return (some (.List es _)) _ => if c.mu.contains (("return" : Str)) then (cArgs f es).map fun t => dRet (dNewL t) else none
  | .Expr (.Call (.Attribute o m apos) [e] [] cpos) _ => if m == ("append" : Str) && plainA o && apos.endLine == cpos.line && noStar [e] then (match f o, f e with
    | some tx, some te => some (dApp tx te)
    | _, _ => none) else none
  | .Assign [.Subscript o i _] e _ => if plainIxB i && !isComp e then (match f e, f o, f i with
    | some te, some tx, some ti => some (if isDc c o = true then dDPut te tx ti else dSetIx te tx ti)
    | _, _, _ => none) else none
  | _ => none
def stepS (c : CC) (n : Nat) (fs : Stmt → Option TSD) (s : Stmt) : Option TSD := match cMut c (cA n c).1 s with
 | some t => some t
 | none => match s with
  | .Pass _ => some dNext
  | .Return none _ => some dRetN
  | .Return (some e) _ => ((cA n c).1 e).map dRet
  | .Expr e _ => if isComp e then none else ((cA n c).1 e).map dDrop
  | .If t a b _ => (match (cA n c).2 t, cSeq fs a, cSeq fs b with
    | some tt, some ta, some tb => some (dIfS tt ta tb)
    | _, _, _ => none)
  | .Assign [tg] e _ => cAsg c (cA n c).1 (cA n) tg e
  | .For tg iter body [] _ => if c.hot.isNone then (match cIter c (cA n c).1 tg iter, cTg c tg, cSeq fs body with
    | some ti, some g, some tb => some (dFor ti g tb)
    | _, _, _ => none) else none
  | .While t body [] _ => (match (cA n c).2 t, cSeq fs body with
    | some tt, some tb => some (dWhile tt tb)
    | _, _ => none)
  | .Raise (some (.Call (.Name x _) [.Constant (.str _) _ _] [] _)) none _ => if plainN x && glbB c.sc x && c.hot.isNone then (match c.gl.lookup x with
    | some (.exc C) => some (dRaise C)
    | _ => none) else none
  | _ => none
def cS (c : CC) (n : Nat) : Nat → Stmt → Option TSD
  | 0 => fun _ => none
  | m + 1 => stepS c n (cS c n m)
def cSs (c : CC) (n : Nat) (ss : List Stmt) : Option TSD := cSeq (cS c n n) ss

structure CtS (G : Wd) (c : CC) (k : Nat) (X : Cx) : Prop where
  ct : Ct G c k X
  kind : c.sc.kind = .function
  fn : ∀ x, X.fn x = true
  ps : PassesOwn (model X.prog X.w) X.A X.env X.xe
def SS (G : Wd) (k : Nat) (c : CC) (f : Stmt → Option TSD) : Prop := ∀ s t, f s = some t → ∀ X W, CtS G c k X → L2N.Takes X W → PSD X G.T W s t
section
variable {G : Wd} {k : Nat} {c : CC} {X : Cx} {W : WX}
theorem cSeq_ok {f : Stmt → Option TSD} (sf : SS G k c f) (ct : CtS G c k X) (tk : L2N.Takes X W) : ∀ {ss : List Stmt} {t : TSD}, cSeq f ss = some t → PSsD X G.T W ss t
  | [], t, h => by cases h; exact pssd_nil
  | [s], t, h => pssd_one (sf _ _ h X W ct tk)
  | s :: s2 :: r, t, h => by
    unfold cSeq at h
    split at h
    · rename_i t1 t2 e1 e2
      cases h
      exact pssd_cons (sf _ _ e1 X W ct tk) (cSeq_ok sf ct tk e2)
    · cases h
theorem CtS.kindX (ct : CtS G c k X) : X.env.scope.kind = .function := by rw [ct.ct.sc]; exact ct.kind
theorem CtS.ndX (ct : CtS G c k X) : X.N.Nodup := by rw [ct.ct.N]; exact ct.ct.nd
theorem CtS.loc (ct : CtS G c k X) {x : Str} (h : locB c.sc x = true) : L2.Loc X.env.scope x := by rw [ct.ct.sc]; exact locB_ok h
theorem CtS.ix (ct : CtS G c k X) {x : Str} {i : Nat} (h : idxN c.N x = some i) : X.N[i]? = some x := by rw [ct.ct.N]; exact idxN_ok h
theorem cTg_ok {tg : Expr} {g : GD} (ct : CtS G c k X) (hh : c.hot = none) (h : cTg c tg = some g) : PGD X tg g := by
  unfold cTg at h
  split at h
  · split at h
    · rename_i hl
      obtain ⟨i, e, rfl⟩ := map_some h
      exact pgd_name ct.ndX (ct.ix e) (ct.loc hl) (.inl (ct.fn _))
    · cases h
  · split at h
    · cases h
    · rename_i xs e1
      split at h
      · rename_i hl
        obtain ⟨is, e, rfl⟩ := map_some h
        obtain ⟨q1, q2, q3⟩ := names_ok (X := X) ct.ndX e1 (by rw [ct.ct.N]; exact e) fun x hx => ⟨ct.loc (List.all_eq_true.mp hl x hx), .inl (ct.fn _)⟩
        exact pgd_tup (ct.ct.calm hh) q1 q2 q3
      · cases h
  · cases h
theorem namesOf2 {ts : List Expr} {x y : Str} (h : namesOf ts = some [x, y]) : ∃ p q, ts = [.Name x p, .Name y q] := by
  match ts, h with
  | [], h => cases h
  | [a], h =>
    unfold namesOf at h
    split at h
    · rename_i e1 e2; cases e2; cases h
    · cases h
  | [a, b], h =>
    unfold namesOf at h
    split at h
    · rename_i x1 xs e1 e2
      cases h
      unfold namesOf at e2
      split at e2
      · rename_i e3 e4
        cases e4
        cases e2
        obtain ⟨p, rfl⟩ := nameOf_eq e1
        obtain ⟨q, rfl⟩ := nameOf_eq e3
        exact ⟨p, q, rfl⟩
      · cases e2
    · cases h
  | a :: b :: d :: r, h =>
    exfalso
    have hl : ∀ {l : List Expr} {xs : List Str}, namesOf l = some xs → l.length = xs.length := fun {l} => by
      induction l with
      | nil => intro xs h; cases h; rfl
      | cons e l ih =>
        intro xs h
        unfold namesOf at h
        split at h
        · rename_i e1 e2
          cases h
          rw [List.length_cons, List.length_cons, ih e2]
        · cases h
    have := hl h
    simp at this
theorem namesOf3 {ts : List Expr} {x y z : Str} (h : namesOf ts = some [x, y, z]) : ∃ p q r, ts = [.Name x p, .Name y q, .Name z r] := by
  cases ts with
  | nil => cases h
  | cons a ts =>
    unfold namesOf at h
    split at h
    · rename_i x1 xs e1 e2
      cases h
      obtain ⟨p, rfl⟩ := nameOf_eq e1
      obtain ⟨q, r, rfl⟩ := namesOf2 e2
      exact ⟨p, q, r, rfl⟩
    · cases h
theorem idxs2 {N : List Str} {xs : List Str} {i j : Nat} (h : idxs N xs = some [i, j]) : ∃ x y, xs = [x, y] ∧ idxN N x = some i ∧ idxN N y = some j := by
  match xs, h with
  | [], h => cases h
  | [a], h =>
    unfold idxs at h
    split at h
    · rename_i e1 e2; cases e2; cases h
    · cases h
  | a :: b :: r, h =>
    unfold idxs at h
    split at h
    · rename_i i1 is e1 e2
      cases h
      unfold idxs at e2
      split at e2
      · rename_i e3 e4
        cases e2
        cases r with
        | nil => exact ⟨a, b, rfl, e1, e3⟩
        | cons d r =>
          unfold idxs at e4
          split at e4 <;> cases e4
      · cases e2
    · cases h
theorem idxs3 {N : List Str} {xs : List Str} {i j l : Nat} (h : idxs N xs = some [i, j, l]) : ∃ x y z, xs = [x, y, z] ∧ idxN N x = some i ∧ idxN N y = some j ∧ idxN N z = some l := by
  cases xs with
  | nil => cases h
  | cons a xs =>
    unfold idxs at h
    split at h
    · rename_i i1 is e1 e2
      cases h
      obtain ⟨y, z, rfl, h1, h2⟩ := idxs2 e2
      exact ⟨a, y, z, rfl, e1, h1, h2⟩
    · cases h
theorem cAsgT_ok {n : Nat} (go : COk G k c) (ct : CtS G c k X) (hh : c.hot = none) (tk : L2N.Takes X W) {ts : List Expr} {e : Expr} {a : Nat} {p pos : Pos} {t : TSD} (h : cAsgT c (cA n c).1 ts e = some t) : PSD X G.T W (.Assign [.Tuple ts a p] e pos) t := by
  obtain ⟨sf, st⟩ := cA_ok n k c go
  unfold cAsgT at h
  split at h
  · cases h
  · rename_i xs e1
    split at h
    · rename_i hl
      split at h
      · cases h
      · rename_i is e2
        obtain ⟨q1, q2, q3⟩ := names_ok (X := X) ct.ndX e1 (by rw [ct.ct.N]; exact e2) fun x hx => ⟨ct.loc (List.all_eq_true.mp hl x hx), .inl (ct.fn _)⟩
        have pg : PGD X (.Tuple ts a p) (gT is) := pgd_tup (ct.ct.calm hh) q1 q2 q3
        split at h
        · rename_i vs b q
          split at h
          · cases h
          · rename_i hw
            obtain ⟨t1, e3, rfl⟩ := map_some h
            exact psd_asg (sf _ _ e3 X W ct.ct tk) pg rfl (swP_ok ct.kindX (by rw [ct.ct.sc]; exact hw)) rfl
          · rename_i ns hw
            split at h
            · rename_i hc
              rw [Bool.and_eq_true, Bool.and_eq_true, Bool.and_eq_true] at hc
              obtain ⟨⟨⟨hc1, hc2⟩, hc3⟩, hc4⟩ := hc
              have en : ns = xs := beq_iff_eq.mp hc2
              subst en
              have lcl : ∀ x, x ∈ ns → X.env.scope.names.lookup x = some .local := fun x hx => by
                rw [ct.ct.sc]
                exact beq_iff_eq.mp (List.all_eq_true.mp hc1 x hx)
              have sw : swappedStores [.Tuple ts a p] (.Tuple vs b q) X.env = pure (some ns) := swP_ok ct.kindX (by rw [ct.ct.sc]; exact hw)
              split at h
              · rename_i i j va vb
                split at h
                · cases h
                · rename_i hij
                  obtain ⟨ta, e3, rfl⟩ := map_some h
                  obtain ⟨x, y, rfl, i1, i2⟩ := idxs2 e2
                  obtain ⟨p1, p2, rfl⟩ := namesOf2 e1
                  exact psd_par2 (ct.ct.calm hh) ct.ndX (ct.ix i1) (ct.ix i2) (by simpa using hij) (lcl x (by simp)) (lcl y (by simp)) (cArgs_ok sf ct.ct tk e3).2 sw rfl
              · rename_i i j l va vb vd
                split at h
                · cases h
                · rename_i hij
                  obtain ⟨ta, e3, rfl⟩ := map_some h
                  obtain ⟨x, y, z, rfl, i1, i2, i3⟩ := idxs3 e2
                  obtain ⟨p1, p2, p3, rfl⟩ := namesOf3 e1
                  simp only [Bool.or_eq_true, beq_iff_eq, not_or] at hij
                  exact psd_par3 (ct.ct.calm hh) ct.ndX (ct.ix i1) (ct.ix i2) (ct.ix i3) hij.1.1 hij.1.2 hij.2 (lcl x (by simp)) (lcl y (by simp)) (lcl z (by simp)) (cArgs_ok sf ct.ct tk e3).2 sw rfl
              · cases h
            · cases h
        · rename_i hnt
          obtain ⟨t1, e3, rfl⟩ := map_some h
          refine psd_asg (sf _ _ e3 X W ct.ct tk) pg ?_ ?_ rfl
          · cases e <;> rfl
          · cases e <;> first | rfl | exact (hnt _ _ _ rfl).elim
    · cases h
theorem cAsg_ok {n : Nat} (go : COk G k c) (ct : CtS G c k X) (tk : L2N.Takes X W) {tg e : Expr} {pos : Pos} {t : TSD} (h : cAsg c (cA n c).1 (cA n) tg e = some t) : PSD X G.T W (.Assign [tg] e pos) t := by
  obtain ⟨sf, st⟩ := cA_ok n k c go
  unfold cAsg at h
  split at h
  · rename_i x px
    split at h
    · rename_i hl
      split at h
      · cases h
      · rename_i i e1
        split at h
        · rename_i elt tg iter ifs scope p2
          split at h
          case isFalse => cases h
          rename_i hh
          have hh := Option.isNone_iff_eq_none.mp hh
          obtain ⟨t1, e2, rfl⟩ := map_some h
          obtain ⟨s1, s2⟩ := cA_ok n k (inner c scope) go.inner
          obtain ⟨ti, g, tt, te, rfl, q1, q2, q3, q4, q5, q6, q7, q8, q9⟩ := cLc_ok go sf s1 s2 ct.ct tk hh e2
          have sw := swapsWith_lc (env := X.env) (elt := elt) (gs := [⟨tg, iter, ifs, 0⟩]) (scope := scope) (pos := p2) (px := px) (x := x) (l := pos.line) ct.kindX
          cases hb : swB X.env.scope x px p2 scope with
          | true =>
            rw [hb] at sw
            have hlo : X.env.scope.names.lookup x = some .local := by
              unfold swB at hb
              rw [Bool.and_eq_true, Bool.and_eq_true] at hb
              exact beq_iff_eq.mp hb.1.1
            exact psd_setLc (ct.ct.calm hh) ct.ndX (ct.ix e1) hlo sw q1 q2 q4 q5 q6 q7 q8 q9 q3
          | false =>
            rw [hb] at sw
            exact psd_set ct.ndX (ct.ix e1) (ct.loc hl) (pd_lc (ct.ct.calm hh) ct.ndX q1 q2 q4 q5 q6 q7 q8 q9 q3) sw (.inl (ct.fn _))
        · split at h
          · cases h
          · rename_i hn
            obtain ⟨t1, e2, rfl⟩ := map_some h
            exact psd_set ct.ndX (ct.ix e1) (ct.loc hl) (sf _ _ e2 X W ct.ct tk) (swapsWith_no (Bool.eq_false_iff.mpr hn)) (.inl (ct.fn _))
    · cases h
  · split at h
    · rename_i hh
      exact cAsgT_ok go ct (Option.isNone_iff_eq_none.mp hh) tk h
    · cases h
  · cases h
theorem cMut_ok {n : Nat} (go : COk G k c) (ct : CtS G c k X) (tk : L2N.Takes X W) {s : Stmt} {t : TSD} (h : cMut c (cA n c).1 s = some t) : PSD X G.T W s t := by
  obtain ⟨sf, st⟩ := cA_ok n k c go
  unfold cMut at h
  split at h
  · split at h
    · rename_i hc
      rw [Bool.and_eq_true] at hc
      split at h
      · rename_i i ta e1 e2
        cases h
        exact psd_set ct.ndX (ct.ix e1) (ct.loc hc.2) (pd_newL (cArgs_ok sf ct.ct tk e2).2) rfl (.inl (ct.fn _))
      · cases h
    · cases h
  · split at h
    · obtain ⟨ta, e1, rfl⟩ := map_some h
      exact psd_ret (pd_newL (cArgs_ok sf ct.ct tk e1).2)
    · cases h
  · split at h
    · rename_i hc
      rw [Bool.and_eq_true, Bool.and_eq_true, Bool.and_eq_true] at hc
      obtain ⟨⟨⟨h1, h2⟩, h3⟩, h4⟩ := hc
      have em := beq_iff_eq.mp h1
      subst em
      split at h
      · rename_i tx te e1 e2
        cases h
        exact psd_app (sf _ _ e1 X W ct.ct tk) (sf _ _ e2 X W ct.ct tk) (plainA_ok h2) h3 (starEach_cons h4)
      · cases h
    · cases h
  · split at h
    · rename_i o i p2 e p hc
      rw [Bool.and_eq_true, Bool.not_eq_true'] at hc
      split at h
      · rename_i te tx ti e1 e2 e3
        cases h
        split
        · exact psd_dput (by have := ct.ct.un; omega) (sf _ _ e1 X W ct.ct tk) (sf _ _ e2 X W ct.ct tk) (sf _ _ e3 X W ct.ct tk) (swapsWith_no (t := some (.Subscript o i p2)) (l := p.line) (env := X.env) hc.2)
        refine psd_setIx (sf _ _ e1 X W ct.ct tk) (sf _ _ e2 X W ct.ct tk) (sf _ _ e3 X W ct.ct tk) (swapsWith_no (t := some (.Subscript o i p2)) (l := p.line) (env := X.env) hc.2) ?_ fun v => ?_
        · cases e <;> rfl
        · cases i <;> first | rfl | cases hc.1
      · cases h
    · cases h
  · cases h
theorem stepS_ok {n : Nat} (go : COk G k c) {fs : Stmt → Option TSD} (ss : SS G k c fs) : SS G k c (stepS c n fs) := by
  intro s t h X W ct tk
  obtain ⟨sf, st⟩ := cA_ok n k c go
  unfold stepS at h
  split at h
  · rename_i t' hm
    cases h
    exact cMut_ok go ct tk hm
  split at h
  · cases h; exact psd_pass
  · cases h; exact psd_retN
  · obtain ⟨t1, e1, rfl⟩ := map_some h
    exact psd_ret (sf _ _ e1 X W ct.ct tk)
  · split at h
    · cases h
    · rename_i hn
      obtain ⟨t1, e1, rfl⟩ := map_some h
      exact psd_expr (sf _ _ e1 X W ct.ct tk) (swapsWith_no (Bool.eq_false_iff.mpr hn))
  · split at h
    · rename_i tt ta tb e1 e2 e3
      cases h
      exact psd_if (st _ _ e1 X W ct.ct tk) (cSeq_ok ss ct tk e2) (cSeq_ok ss ct tk e3)
    · cases h
  · exact cAsg_ok go ct tk h
  · split at h
    case isFalse => cases h
    rename_i hh
    have hh := Option.isNone_iff_eq_none.mp hh
    split at h
    · rename_i ti g tb e1 e2 e3
      cases h
      obtain ⟨i1, i2⟩ := cIter_ok go sf ct.ct tk e1
      exact psd_for ct.ps (ct.ct.calm hh) i1 (cTg_ok ct hh e2) (cSeq_ok ss ct tk e3) i2
    · cases h
  · split at h
    · rename_i tt tb e1 e2
      cases h
      exact psd_while ct.ps (st _ _ e1 X W ct.ct tk) (cSeq_ok ss ct tk e2)
    · cases h
  · split at h
    · rename_i hp
      simp only [Bool.and_eq_true] at hp
      obtain ⟨hp, hh⟩ := hp
      have hh := Option.isNone_iff_eq_none.mp hh
      obtain ⟨p1, p2, p3⟩ := plainN_ok hp.1
      split at h
      · rename_i C e
        cases h
        obtain ⟨h1, h2⟩ : G.mg _ = some (.ref C) ∧ ExcD G C := go.gl _ _ e
        exact psd_raise ct.ct.gx (ct.ct.calm hh) tk h1 h2 (ct.ct.gl_ok hp.2) p1
      · cases h
    · cases h
  · cases h
theorem cS_ok (n : Nat) (go : COk G k c) : ∀ m, SS G k c (cS c n m)
  | 0 => (fun s t h => by cases h)
  | m + 1 => stepS_ok go (cS_ok n go m)
end
/-- a heap that has lost what no store tells any more -/
def D.lb (n : Nat) : D → Bool
  | .loc m => decide (m < n)
  | .tup xs => lbs n xs
  | .lst xs => lbs n xs
  | _ => true
where lbs (n : Nat) : List D → Bool
  | [] => true
  | x :: xs => D.lb n x && lbs n xs
section
variable {K : PySem.W.Frag} {A A' : Ad} {H : Hp}
mutual
theorem Rep.cut {n : Nat} (hc : ∀ i a, i < n → A.c[i]? = some a → A'.c[i]? = some a) (hm : ∀ a, a ∈ A'.m → a ∈ A.m) : ∀ (d : D) (v : V), d.lb n = true → Rep K A H d v → Rep K A' H d v
  | .non, v, _, h => h
  | .bl b, v, _, h => h
  | .int i, v, _, h => h
  | .str x, v, _, h => h
  | .ref a, v, _, h => h
  | .ty n, v, _, h => h
  | .loc m, v, l, h => by
    obtain ⟨a, h1, h2⟩ := h
    exact ⟨a, hc m a (of_decide_eq_true l) h1, h2⟩
  | .tup ds, v, l, h => by
    obtain ⟨a, vs, h1, h2, h3⟩ := h
    refine ⟨a, vs, h1, ?_, Reps.cut hc hm ds vs l h3⟩
    rcases h2 with ⟨n, h2⟩ | h2
    · exact .inl ⟨fun z => n (hm a z), h2⟩
    · exact .inr h2
  | .lst ds, v, l, h => by
    obtain ⟨a, vs, h1, n, h2, h3⟩ := h
    exact ⟨a, vs, h1, fun z => n (hm a z), h2, Reps.cut hc hm ds vs l h3⟩
  | .lam m, v, _, h => by
    obtain ⟨f, pm, c', ctv, h1, n, n', h2, h3⟩ := h
    exact ⟨f, pm, c', ctv, h1, fun z => n (hm f z), fun z => n' (hm c' z), h2, h3⟩
  | .scr ns, v, _, h => by
    obtain ⟨a, h1, h2⟩ := h
    refine ⟨a, h1, ?_⟩
    rcases h2 with ⟨n, h2⟩ | h2
    · exact .inl ⟨fun z => n (hm a z), h2⟩
    · exact .inr h2
theorem Reps.cut {n : Nat} (hc : ∀ i a, i < n → A.c[i]? = some a → A'.c[i]? = some a) (hm : ∀ a, a ∈ A'.m → a ∈ A.m) : ∀ (ds : List D) (vs : List V), D.lb.lbs n ds = true → Reps K A H ds vs → Reps K A' H ds vs
  | [], vs, _, h => h
  | d :: ds, vs, l, h => by
    obtain ⟨x, xs, h1, h2, h3⟩ := h
    have l2 : d.lb n = true ∧ D.lb.lbs n ds = true := by simpa [D.lb.lbs] using l
    exact ⟨x, xs, h1, Rep.cut hc hm d x l2.1 h2, Reps.cut hc hm ds xs l2.2 h3⟩
end
mutual
theorem Rep.lb : ∀ (d : D) (v : V), Rep K A H d v → d.lb A.c.length = true
  | .non, v, h => rfl
  | .bl b, v, h => rfl
  | .int i, v, h => rfl
  | .str x, v, h => rfl
  | .ref a, v, h => rfl
  | .ty n, v, h => rfl
  | .loc m, v, h => by
    obtain ⟨a, h1, h2⟩ := h
    exact decide_eq_true (List.getElem?_eq_some_iff.mp h1).1
  | .tup ds, v, h => by
    obtain ⟨a, vs, h1, h2, h3⟩ := h
    exact Reps.lb ds vs h3
  | .lst ds, v, h => by
    obtain ⟨a, vs, h1, n, h2, h3⟩ := h
    exact Reps.lb ds vs h3
  | .lam m, v, h => rfl
  | .scr ns, v, h => rfl
theorem Reps.lb : ∀ (ds : List D) (vs : List V), Reps K A H ds vs → D.lb.lbs A.c.length ds = true
  | [], vs, h => rfl
  | d :: ds, vs, h => by
    obtain ⟨x, xs, h1, h2, h3⟩ := h
    show (d.lb A.c.length && D.lb.lbs A.c.length ds) = true
    rw [Rep.lb d x h2, Reps.lb ds xs h3]
    rfl
end
def Cell.lb (n : Nat) : Cell → Bool
  | .lst xs => D.lb.lbs n xs
  | .ins _ fs => D.lb.lbs n (fs.map (·.2))
  | .dct kvs => D.lb.lbs n (kvs.map (·.2))
theorem CellOk.lb {a : Addr} : ∀ {c : Cell}, CellOk K A H a c → c.lb A.c.length = true
  | .lst xs, ⟨vs, _, h⟩ => Reps.lb _ _ h
  | .ins C fs, ⟨dx, vfs, _, _, h⟩ => Reps.lb _ _ h
  | .dct kvs, ⟨vkvs, _, _, h⟩ => Reps.lb _ _ h
theorem CellOk.cut {n : Nat} (hc : ∀ i a, i < n → A.c[i]? = some a → A'.c[i]? = some a) (hm : ∀ a, a ∈ A'.m → a ∈ A.m) {a : Addr} : ∀ {c : Cell}, c.lb n = true → CellOk K A H a c → CellOk K A' H a c
  | .lst xs, l, ⟨vs, h1, h2⟩ => ⟨vs, h1, Reps.cut hc hm _ _ l h2⟩
  | .ins C fs, l, ⟨dx, vfs, h1, h2, h3⟩ => ⟨dx, vfs, h1, h2, Reps.cut hc hm _ _ l h3⟩
  | .dct kvs, l, ⟨vkvs, h1, h2, h3⟩ => ⟨vkvs, h1, h2, Reps.cut hc hm _ _ l h3⟩
/-- what is behind the first n objects is told no more -/
theorem stt_cut {T : TB} {S1 S2 : Store} (st : Stt K T A (S1 ++ S2) H) (hl : ∀ (i : Nat) (c : Cell), S1[i]? = some c → c.lb S1.length = true) : Stt K T ⟨A.c.take S1.length, A.m, A.b⟩ S1 H := by
  have hc : ∀ i a, i < S1.length → A.c[i]? = some a → (A.c.take S1.length)[i]? = some a := fun i a hi e => by
    rw [List.getElem?_take_of_lt hi]; exact e
  refine ⟨st.nd.sublist (List.take_sublist _ _), ?_, fun i c e => ?_, fun a h => st.sub a (List.mem_of_mem_take h), st.tr, st.tabs, st.bas⟩
  · show (A.c.take S1.length).length = _
    rw [List.length_take, st.len, List.length_append]
    omega
  · have hi := (List.getElem?_eq_some_iff.mp e).1
    obtain ⟨a, q1, q2⟩ := st.cell i c (by rw [List.getElem?_append_left hi]; exact e)
    exact ⟨a, hc i a hi q1, CellOk.cut (n := S1.length) (A := A) (A' := ⟨A.c.take S1.length, A.m, A.b⟩) hc (fun _ h => h) (hl i c e) q2⟩
/-- a wish at a store holds too where more is told -/
theorem bk_cut {T : TB} {Q : VK} {S S1 S2 : Store} {d : D} (hs : S.length ≤ S1.length) (hS : A.c.length = S.length) (hl : ∀ (i : Nat) (c : Cell), S1[i]? = some c → c.lb S1.length = true) (hd : d.lb S1.length = true) (h : Bk K T A H Q d S1) : Bk K T A H Q d (S1 ++ S2) := by
  intro A' H' v l st r
  refine h ⟨A'.c.take S1.length, A'.m, A'.b⟩ H' v ⟨⟨fun i a e => ?_, l.w.new, l.w.ext, l.w.som, l.w.msub, fun a o ha n e => l.w.cnew a o (List.mem_of_mem_take ha) n e, l.w.bsm⟩, l.exs⟩ (stt_cut st hl) (Rep.cut (n := S1.length) (A := A') (A' := ⟨A'.c.take S1.length, A'.m, A'.b⟩) (fun i a hi e => ?_) (fun _ h => h) d v hd r)
  · have hi := (List.getElem?_eq_some_iff.mp e).1
    show (A'.c.take S1.length)[i]? = some a
    rw [List.getElem?_take_of_lt (by omega)]
    exact l.w.pre i a e
  · show (A'.c.take S1.length)[i]? = some a
    rw [List.getElem?_take_of_lt hi]
    exact e
end
/-- a result whose store is the one at the start, but for what is told no more -/
def Pur (S : Store) (Q : QD) : QD := fun d S2 => (∃ S3, S2 = S ++ S3) ∧ d.lb S.length = true ∧ Q d S
theorem fnd_ofG {G : Wd} {x qual : Str} {params : Arguments} {body : List Stmt} {sc : Scope} {f : Addr} {fd : FuncData} {N ps : List Str} {k n : Nat} {c : SpD} {t : TSD} (F : FunD G.K x qual params body sc [] [] f fd) (S : FnScope N ps sc) (hn : ps.length = n)
    (hb : ∀ (kV doc pm : Value) (an : Option Addr) (cdv ct : Value) (us : List Value), us.length = ps.length → bindArgs (PySem.W.fnOf x qual params body sc .none kV doc pm an cdv ct) ⟨us, []⟩ = pure (ps.zip us))
    (mo : MonoSp c) (ht : ∀ (X : Cx) (W : WX), DefCx G N sc k X → X.env.qual = qual ++ ".<locals>." → L2N.Takes X W → X.env.code = fd.code → PSsD X G.T W body t)
    (hp : ∀ as S Q E, as.length = n → c as S Q E → t (rtE (Pur S Q) E) (startD N.length as) S) : FnD G (k + 1) n f c := by
  refine ⟨F.kp, ⟨fd, ps, F.bindsN hb, hn, ?_⟩, mo⟩
  obtain ⟨oc, od, dV, kV, doc, pm, an, cdv, ct, osl, rfl, lk, hcd, _, _⟩ := F.ex
  refine fn_of lk hcd S (fun vs H Q E h => ?_) fun A outer s H vs Q E hr h => ?_
  · obtain ⟨A, S', as, h1, h2, _⟩ := h
    rw [← h2.length, h1, hn]
  · have tk : L2N.Takes (cxOf (L2N.CX G.P G.w) G.P G.w G.K G.mg G.base N qual sc f cdv A outer s H E) (fun cls d _ H' => E cls d H') := L2N.takes_of rfl rfl rfl rfl
    have pt := ht (cxOf (L2N.CX G.P G.w) G.P G.w G.K G.mg G.base N qual sc f cdv A outer s H E) (fun cls d _ H' => E cls d H') ⟨⟨rfl, rfl, rfl, rfl, rfl⟩, rfl, rfl, rfl, hr, fun _ => rfl, passes_of rfl, rfl, rfl, rfl⟩ rfl tk rfl
    refine ⟨_, pt.ps, ?_⟩
    obtain ⟨Ad0, S', as, h1, h2, h3, h4⟩ := h
    have hl : ∀ (i : Nat) (c : Cell), S'[i]? = some c → c.lb S'.length = true := fun i c e => by
      obtain ⟨a, _, q⟩ := h3.cell i c e
      have := q.lb
      rw [h3.len] at this
      exact this
    have cut : ∀ d S2, Pur S' (Bk G.K G.T Ad0 H Q) d S2 → Bk G.K G.T Ad0 H Q d S2 := fun d S2 ⟨⟨S3, e⟩, q1, q2⟩ => by
      subst e
      exact bk_cut (Nat.le_refl _) h3.len hl q1 q2
    refine ⟨Ad0, S', startD N.length as, enok_start h2, h3, ?_⟩
    refine pt.mo (rtE (Pur S' (Bk G.K G.T Ad0 H Q)) (BkX G.K G.T Ad0 H E)) _ _ _ ⟨fun env S2 h2 A2 H2 σ2 l2 st2 _ => cut _ _ h2 A2 H2 .non l2 st2 rfl, fun d S2 h2 => cut d S2 h2, fun _ _ z => (show False from z).elim, fun _ _ z => (show False from z).elim, fun x env S2 h2 A2 H2 σ2 l2 st2 _ => h2 A2 H2 l2 st2⟩ (hp as S' _ _ h1 h4)
/-- where a def's lambdas have their code -/
def LamDef (G : Wd) (fd : FuncData) (qual : Str) (cc : CC) : Prop := ∀ q, cc.lq = some q → qual ++ ".<locals>." ++ "<lambda>" = q ∧ ∃ c P, fd.code = .ref c ∧ TabB G.base G.mg c P ∧ (P, q) ∈ G.T.t ∧ ∀ p ∈ G.T.t, p.1 = P → p.2 = q
theorem ctS_of {G : Wd} {N : List Str} {sc : Scope} {k : Nat} {X : Cx} {cc : CC} {qual : Str} (hN : cc.N = N) (hsc : cc.sc = sc) (hh : cc.hot = none) (nd : N.Nodup) (kind : sc.kind = .function) (dc : DefCx G N sc k X) (hq : X.env.qual = qual ++ ".<locals>.") {fd : FuncData} (hc : X.env.code = fd.code) (L : LamDef G fd qual cc) : CtS G cc k X := by
  subst hN hsc
  refine ⟨⟨dc.gx, dc.N, nd, dc.sc, fun _ => dc.calm, fun _ => dc.room, dc.room.units, (fun m e => by rw [hh] at e; cases e), (fun q e => ?_), fun _ => dc.fn⟩, kind, dc.fn, dc.ps⟩
  obtain ⟨l1, l2⟩ := L q e
  obtain ⟨c, P, h1, h2, h3, h4⟩ := l2
  exact ⟨⟨c, P, hc.trans h1, by rw [dc.gx.base, dc.gx.mg]; exact h2, h3, h4⟩, by rw [hq]; exact l1⟩
/-- THE RULE: a def whose text is read keeps its promise -/
theorem fnd_by {G : Wd} {x qual : Str} {params : Arguments} {body : List Stmt} {sc : Scope} {f : Addr} {fd : FuncData} {N ps : List Str} {k n fu : Nat} {c : SpD} {t : TSD} {cc : CC} (F : FunD G.K x qual params body sc [] [] f fd) (S : FnScope N ps sc) (hn : ps.length = n)
    (hb : ∀ (kV doc pm : Value) (an : Option Addr) (cdv ct : Value) (us : List Value), us.length = ps.length → bindArgs (PySem.W.fnOf x qual params body sc .none kV doc pm an cdv ct) ⟨us, []⟩ = pure (ps.zip us))
    (hN : cc.N = N) (hsc : cc.sc = sc) (hh : cc.hot = none) (go : COk G k cc) (L : LamDef G fd qual cc) (ht : cSs cc fu body = some t) (mo : MonoSp c) (hp : ∀ as S Q E, as.length = n → c as S Q E → t (rtE Q E) (startD N.length as) S) : FnD G (k + 1) n f c :=
  fnd_of F S hn hb mo (fun X W dc hq tk hc => cSeq_ok (cS_ok fu go fu) (ctS_of hN hsc hh S.nd S.kind dc hq hc L) tk ht) hp
/-- .. the promise of the very function -/
theorem fnok_by {G : Wd} {x qual : Str} {params : Arguments} {body : List Stmt} {sc : Scope} {f : Addr} {fd : FuncData} {N ps : List Str} {k n fu : Nat} {c : SpD} {t : TSD} {cc : CC} (F : FunD G.K x qual params body sc [] [] f fd) (S : FnScope N ps sc) (hn : ps.length = n)
    (hb : ∀ (kV doc pm : Value) (an : Option Addr) (cdv ct : Value) (us : List Value), us.length = ps.length → bindArgs (PySem.W.fnOf x qual params body sc .none kV doc pm an cdv ct) ⟨us, []⟩ = pure (ps.zip us))
    (hN : cc.N = N) (hsc : cc.sc = sc) (hh : cc.hot = none) (go : COk G k cc) (L : LamDef G fd qual cc) (ht : cSs cc fu body = some t) (mo : MonoSp c) (hp : ∀ as S Q E, as.length = n → c as S Q E → t (rtE Q E) (startD N.length as) S) : FnOk G.P G.w G.K G.mg G.base (L2N.CX G.P G.w) (k + 1) f fd ps (upSp G.K G.T n c) :=
  fnok_of F S hn hb mo (fun X W dc hq tk hc => cSeq_ok (cS_ok fu go fu) (ctS_of hN hsc hh S.nd S.kind dc hq hc L) tk ht) hp
/-- .. where the store is as it was, but for what is told no more -/
theorem fnd_byG {G : Wd} {x qual : Str} {params : Arguments} {body : List Stmt} {sc : Scope} {f : Addr} {fd : FuncData} {N ps : List Str} {k n fu : Nat} {c : SpD} {t : TSD} {cc : CC} (F : FunD G.K x qual params body sc [] [] f fd) (S : FnScope N ps sc) (hn : ps.length = n)
    (hb : ∀ (kV doc pm : Value) (an : Option Addr) (cdv ct : Value) (us : List Value), us.length = ps.length → bindArgs (PySem.W.fnOf x qual params body sc .none kV doc pm an cdv ct) ⟨us, []⟩ = pure (ps.zip us))
    (hN : cc.N = N) (hsc : cc.sc = sc) (hh : cc.hot = none) (go : COk G k cc) (L : LamDef G fd qual cc) (ht : cSs cc fu body = some t) (mo : MonoSp c) (hp : ∀ as S Q E, as.length = n → c as S Q E → t (rtE (Pur S Q) E) (startD N.length as) S) : FnD G (k + 1) n f c :=
  fnd_ofG F S hn hb mo (fun X W dc hq tk hc => cSeq_ok (cS_ok fu go fu) (ctS_of hN hsc hh S.nd S.kind dc hq hc L) tk ht) hp
theorem lamDef_no {G : Wd} {fd : FuncData} {qual : Str} {cc : CC} (h : cc.lq = none) : LamDef G fd qual cc := fun q e => by rw [h] at e; cases e
/-- a table without lambdas -/
theorem cOk_of {G : Wd} {k : Nat} {N : List Str} {sc : Scope} {gl : List (Str × GE)} {mu dc : List Str} (h : GOk G k gl) : COk G k { N := N, sc := sc, gl := gl, mu := mu, dc := dc } := ⟨h, rv0_mono, .inl fun v z => z, fun q e => by cases e⟩
end Fs
end
section
set_option Elab.async false
set_option linter.all false
set_option maxRecDepth 100000
set_option maxHeartbeats 4000000
namespace Fs
open PySem PySem.Spec PyProof.Rows L2 LamX HotX L2H

/-! ### a def of the handled exception, called in the except suite -/
structure NamesOk (G : Wd) (k : Nat) (x : Str) (nm : Addr → Str → Prop) : Prop where
  run : ∃ f, G.mg x = some (.ref f) ∧ PySem.W.keepIn G.K (.ref f) = true ∧ ∃ fd ps, Binds G.K fd ps [] ∧ ps.length = 1 ∧ ∀ (CX : CXT) (A : Around) (outer : List Env) (s : Shared) (H : Hp) (args : Args) (Q : VK) (E : XK) (p : Addr × Obj) (Dc : Addr) (w : Str) (Ad0 : Ad) (S : Store),
    RoomH k A → Hot1 A p → PinOk outer H s p → Env0 G.P G.w G.K G.mg G.base A outer s H → BindsTo s fd args (ps.zip [.ref p.1]) → Zc (.ref Dc) none p.2 → nm Dc w → Stt G.K G.T Ad0 S H → Bk G.K G.T Ad0 H Q (.str w) S →
    codeAny (model G.P G.w) A (.call (.ref f) args) (CR CX outer G.P G.w H s Q E) s
theorem names_of {G : Wd} {x qual : Str} {params : Arguments} {body : List Stmt} {sc : Scope} {f : Addr} {fd : FuncData} {N ps : List Str} {k fu : Nat} {gl : List (Str × GE)} {t : Addr → Addr → TSD} {nm : Addr → Str → Prop} (F : FunD G.K x qual params body sc [] [] f fd) (S : FnScope N ps sc) (hn : ps.length = 1)
    (hb : ∀ (kV doc pm : Value) (an : Option Addr) (cdv ct : Value) (us : List Value), us.length = ps.length → bindArgs (PySem.W.fnOf x qual params body sc .none kV doc pm an cdv ct) ⟨us, []⟩ = pure (ps.zip us))
    (hm : G.mg x = some (.ref f)) (go : GOk G 0 gl) (ht : ∀ a D, cSs { N := N, sc := sc, gl := gl, hot := some (some (G.K, a, D)) } fu body = some (t a D)) (hx : ∀ D w, nm D w → ExcC G.K D)
    (hp : ∀ a D w S Q, nm D w → Q (.str w) S → t a D (rtE Q noE) (startD N.length [.d (.ref a)]) S) : NamesOk G (k + 1) x nm := by
  refine ⟨f, hm, F.kp, fd, ps, F.bindsN hb, hn, ?_⟩
  obtain ⟨oc, od, dV, kV, doc, pm, an, cdv, ct, osl, rfl, lk, hcd, _, _⟩ := F.ex
  intro CX A outer s H args Q E p Dc w Ad0 S0 hr hot hpin e0 hbi hz hnm st q
  have KX : G.K.In s.heap := e0.mod.kin.keeps fun b o e => (e0.bs b o e).1
  have lim : s.heap.NoLimit := e0.mod.nolimit.keeps fun b o e => (e0.bs b o e).1
  have kinds : ∀ y ∈ ps.zip [Value.ref p.1], sc.names.lookup y.1 = some .local ∨ (sc.names.lookup y.1 = some .cell ∧ ((cellsFrom (s.heap.objs.size + 1) sc.names []).lookup y.1).isSome = true) := fun ⟨n, v⟩ hy =>
    (S.par n (List.of_mem_zip hy).1).elim .inl fun q => .inr ⟨q, PySem.W.cellsFrom_some _ _ _ (.inl q)⟩
  refine codeAny_call_function hr.depth (KX _ _ lk) rfl S.co S.gen rfl (PySem.W.codeRec_of KX hcd) (hbi _ _ _ _ ?_)
  refine wpAny_newFunctionEnv_cells S.kind kinds fun env he s1 inC => ?_
  subst he
  refine ⟨lim.keeps inC.toInCall.keep, codeAny_func ?_⟩
  have I : Inv (cxH CX G.P G.w G.K G.mg G.base N qual sc f cdv A outer s H E p) [] (L2.start N [V.ref p.1]) H s1 := inv_startH (vs := [V.ref p.1]) S hpin e0 (by rw [hn]; rfl) (.cons rfl .nil) inC
  have hr2 := hr.deeper (envOfC qual sc s.heap.objs.size f cdv)
  obtain ⟨hh, vs, d1, d2⟩ := hot
  have ct : CtS G { N := N, sc := sc, gl := gl, hot := some (some (G.K, p.1, Dc)) } 0 (cxH CX G.P G.w G.K G.mg G.base N qual sc f cdv A outer s H E p) := by
    refine ⟨⟨⟨rfl, rfl, rfl, rfl, rfl⟩, rfl, S.nd, rfl, (fun e => by cases e), (fun e => by cases e), ?_, fun m e => ?_, (fun q e => by cases e), (fun e => by cases e)⟩, S.kind, fun _ => rfl, passes_of rfl⟩
    · have := hr2.un
      show (A.deeper (envOfC qual sc s.heap.objs.size f cdv)).units + 64 < cLine
      omega
    · cases e
      refine ⟨⟨p, ⟨hh, vs, d1, d2⟩, List.mem_singleton.mpr rfl⟩, fun K a D e => ?_⟩
      cases e
      exact ⟨rfl, hx _ _ hnm, p.2, List.mem_singleton.mpr rfl, hz, vs, d1⟩
  have pt := cSeq_ok (W := W0) (cS_ok (k := 0) fu (c := { N := N, sc := sc, gl := gl, hot := some (some (G.K, p.1, Dc)) }) ⟨go, rv0_mono, .inl fun v z => z, fun q e => by cases e⟩ fu) ct takesW0 (ht p.1 Dc)
  have hq : upS G.K G.T W0 (t p.1 Dc) { nx := fun _ H' => Q .non H', rt := Q } (L2.start N [V.ref p.1]) H := by
    refine ⟨Ad0, S0, startD N.length [.d (.ref p.1)], enok_start (as := [.d (.ref p.1)]) ⟨_, _, rfl, rfl, rfl⟩, st, ?_⟩
    refine pt.mo (rtE (Bk G.K G.T Ad0 H Q) noE) _ _ _ ⟨fun env S2 h2 A2 H2 σ2 l2 st2 _ => h2 A2 H2 .non l2 st2 rfl, fun d S2 h2 => h2, fun _ _ z => (show False from z).elim, fun _ _ z => (show False from z).elim, fun x env S2 h2 => (show False from h2).elim⟩ (hp p.1 Dc w S0 _ hnm q)
  refine wpAny_mono (pt.ps.run [] s1 (L2.start N [V.ref p.1]) H _ I hq) (fun fl s' hs => ?_) fun e s' hs => hs
  have fin : ∀ {σ' : L2.St} {H' : Hp} {v : V} {u : Value}, Inv (cxH CX G.P G.w G.K G.mg G.base N qual sc f cdv A outer s H E p) [] σ' H' s' → L2.RelV v u → Q v H' → CE outer G.P G.w H s Q u s' :=
    fun {σ' H' v u} J rv q => ⟨v, H', J.os, J.bare, J.base, J.hok, rv, q⟩
  cases fl with
  | ret u =>
    obtain ⟨v, σ', H', J, rv, q⟩ := hs
    exact fin J rv q
  | next =>
    obtain ⟨σ', H', J, q⟩ := hs
    exact fin (v := V.non) (u := Value.none) J rfl q
  | brk =>
    obtain ⟨_, _, _, q⟩ := hs
    exact False.elim q
  | cont =>
    obtain ⟨_, _, _, q⟩ := hs
    exact False.elim q
end Fs
end
section
set_option Elab.async false
set_option linter.all false
set_option maxRecDepth 100000
set_option maxHeartbeats 4000000
namespace Fs
open PySem PySem.Spec PyProof.Rows L2 LamX HotX L2H NdefX

/-! ### try: x() / except E as e: return names(e) -/
section
variable {G : Wd} {k kn : Nat} {nmx : Str} {nm : Addr → Str → Prop}
/-- the call in the suite -/
theorem pe_names {X : Cx} {a : Addr} {oe : Obj} {cls : Value} {d : Option Addr} {pn : List (Addr × Obj)} {i : Nat} {en : Str} {p5 p6 p7 : Pos} (NO : NamesOk G kn nmx nm) (gx : XIs G X) (hr : RoomH kn X.A) (hz : L2N.Zn cls d oe) (hf : ∃ vs, oe.data = .fields vs)
    (hg : Gl X nmx) (hdb : (nmx == ("__debug__" : Str)) = false) (hN : X.N[i]? = some en) (hv : Vis X.env.scope en) (hd : (en == ("__debug__" : Str)) = false) (hcd : (en == ("__classdict__" : Str)) = false) :
    PE (X.suite a ((a, oe) :: pn)) (.Call (.Name nmx p5) [.Name en p6] [] p7) (fun σ H Q => (σ[i]? = some (some (.ref a)) ∨ σ.length ≤ i) ∧ ∃ Dc w Ad0 S, cls = .ref Dc ∧ d = none ∧ nm Dc w ∧ Stt G.K G.T Ad0 S H ∧ Bk G.K G.T Ad0 H Q (.str w) S) := by
  obtain ⟨f, hm, kp, fd, ps, hb, hl, run⟩ := NO.run
  obtain ⟨g1, g2, g3, g4, g5⟩ := gx
  refine ⟨fun pins s σ H Q I h => ?_⟩
  obtain ⟨hs, Dc, w, Ad0, S, e1, e2, hn, st, q⟩ := h
  subst e1 e2
  have hs : σ[i]? = some (some (.ref a)) := hs.elim id fun z => by
    have l1 : σ.length = X.N.length := I.len
    have l2 := (List.getElem?_eq_some_iff.mp hN).1
    omega
  refine wpAny_Call_Name_kw (ld_glob I hg (by show X.mg nmx = _; rw [g4]; exact hm) ?_ hdb)
  have pa : PA (X.suite a ((a, oe) :: pn)) [.Name en p6] (tCons (tVar i) tNil) := pa_cons (pe_var hN hv hd hcd) pa_nil
  refine PySem.W.callWith_K (h₀ := X.base) I.ok.mod.kin (by show PySem.W.keepIn X.K _ = _; rw [g3]; exact kp) (thn (pa.run p7 pins s σ H (fun vs H1 => vs = [.ref a] ∧ H1 = H) I ⟨.ref a, hs, rfl, rfl⟩) fun us s1 ⟨vs, H1, I1, r, ev, eH⟩ => ⟨I1.kIn, ?_⟩)
  subst ev
  rw [eH] at I1
  cases r with
  | cons ru rn =>
    cases rn
    cases ru
    show wpAny _ _ (call (.ref f) [.ref a]) _ _ _
    obtain ⟨vs, hvs⟩ := hf
    have P1 := I1.pin (a, oe) (List.mem_append_left _ List.mem_cons_self)
    have hpin : PinOk X.stack H s1 (a, oe) := ⟨P1.1, P1.2.1, fun hm => (List.mem_cons.mp (I1.stkSub a hm)).elim P1.2.2.1 P1.2.2.2.1, P1.2.2.2.2⟩
    have b := hb s1 [.ref a] (by rw [← g3]; exact I1.kIn) (by rw [hl]; rfl)
    rw [List.append_nil] at b
    have e0 : Env0 G.P G.w G.K G.mg G.base (X.A.mark (some (.ref a))) X.stack s1 H := by
      have := I1.env0
      rw [← g1, ← g2, ← g3, ← g4, ← g5]
      exact this
    have rc := run (fun _ _ _ _ _ _ => False) (X.A.mark (some (.ref a))) X.stack s1 H ⟨[.ref a], []⟩ Q (fun _ _ _ => False) (a, oe) Dc w Ad0 S ⟨hr.dp, hr.un⟩ ⟨rfl, vs, hvs, hz.2.2 vs hvs⟩ hpin e0 b hz.zc hn st q
    rw [← g1, ← g2] at rc
    refine wpAny_call (codeAny_mono rc fun r s' hq => ?_)
    cases r with
    | error e => exact (show False from hq).elim
    | ok fl =>
      cases fl with
      | ret u => exact I1.after hq
      | next => exact False.elim hq
      | brk => exact False.elim hq
      | cont => exact False.elim hq
/-- what the caught exceptions are -/
def EchOf (G : Wd) (nm : Addr → Str → Prop) (Q : VK) : XK := fun cls d H' => ∃ Dc w Ad0 S, cls = .ref Dc ∧ d = none ∧ nm Dc w ∧ Stt G.K G.T Ad0 S H' ∧ Bk G.K G.T Ad0 H' Q (.str w) S
theorem runner_err {x a en fe rs : Str} {params : Arguments} {body : List Stmt} {sc : Scope} {g CS : Addr} {fd : FuncData} {N : List Str} {i j1 : Nat} {p1 p2 p3 p4 p5 p6 p7 p8 p9 p10 p11 p12 : Pos} {nmD : Addr → Option D} (F : FunD G.K x x params body sc [] [] g fd) (S : FnScope N [a] sc)
    (hb : ∀ (kV doc pm : Value) (an : Option Addr) (cdv ct : Value) (us : List Value), us.length = [a].length → bindArgs (PySem.W.fnOf x x params body sc .none kV doc pm an cdv ct) ⟨us, []⟩ = pure ([a].zip us)) (hm : G.mg x = some (.ref g))
    (hbody : body = [.Try [.Expr (.Call (.Name a p1) [] [] p2) p3] [.ExceptHandler (some (.Name fe p4)) (some en) [.Return (some (.Call (.Name nmx p5) [.Name en p6] [] p7)) p8] p9] [] [] p10, .Return (some (.Constant (.str rs) j1 p11)) p12])
    (NO : NamesOk G kn nmx nm) (hkn : kn ≤ k + 1) (hfe : G.mg fe = some (.ref CS)) (hex : ∀ D w, nm D w → PySem.W.exmOne G.K (.ref D) (.ref CS) = some true) (hnD : ∀ D d, nmD D = some d → ∃ w, d = .str w ∧ nm D w)
    (hx : (x == ("__debug__" : Str)) = false) (hN0 : N[0]? = some a) (hva : visB sc a = true) (hpa : plainN a = true) (hNi : N[i]? = some en) (hln : sc.names.lookup en = some .local) (hpe : plainN en = true) (hgf : glbB sc fe = true) (hpf : plainN fe = true) (hgn : glbB sc nmx = true) (hpn : plainN nmx = true) :
    Runner G k x (dTold (fun _ => .str rs) nmD) := by
  refine ⟨fun t h => dTold_mono h, fun X W l tb p lpos pos gx hr hg tk LA LS d0 k0 hbind hbd mtb => ⟨⟨fun pins s σ H Q I q => ?_⟩, dTold_mono mtb⟩⟩
  obtain ⟨A, S0, env, eo, st, q⟩ := q
  have FF := F
  obtain ⟨oc, od, dV, kV, doc, pm0, an, cdv, ct0, osl, rfl, lk, hcd, _, _⟩ := F.ex
  obtain ⟨g1, g2, g3, g4, g5⟩ := gx
  have gx : XIs G X := ⟨g1, g2, g3, g4, g5⟩
  refine wpAny_Call_Name_kw (ld_glob I hg (by rw [g4]; exact hm) ?_ hx)
  refine PySem.W.callWith_K (h₀ := X.base) I.ok.mod.kin (by rw [g3]; exact FF.kp) ?_ (by rfl) (by rfl)
  show wpAny _ _ (spliced ((false, eval (.Lambda l.args l.body l.scope lpos) X.env) :: backTo pos (starEach [] X.env))) _ _ s
  refine Calls.spliced_cons (thn ((pe_lam (T := G.T) LA LS.free d0 k0).run pins s σ H (fun v H1 => ∃ f c' pm ctv, v = .ref f ∧ ExtN H H1 ∧ Tabs G.T.t H1 ∧ H1 f = some (.frz (lamO l (cloFrom X.env.cells l.scope.names []) pm c' ctv) (.own f)) ∧ H1 c' = some (CodeO c' l.qual)) I
    ⟨st.tabs, fun f c' pm ctv H1 eN T1 nf hf hc _ => ⟨f, c', pm, ctv, rfl, eN, T1, hf, hc⟩⟩) fun u s1 ⟨v, H1, I1, r1, f, c', pm, ctv, ev, eN, T1, hf, hc⟩ => ?_)
  subst ev
  obtain rfl : u = Value.ref f := r1
  refine Calls.spliced_nil ⟨I1.kIn, ?_⟩
  show wpAny _ _ (call (.ref g) [.ref f]) _ _ s1
  obtain ⟨pa1, pa2, pa3⟩ := plainN_ok hpa
  obtain ⟨pe1, pe2, pe3⟩ := plainN_ok hpe
  obtain ⟨pf1, pf2, pf3⟩ := plainN_ok hpf
  obtain ⟨pn1, pn2, pn3⟩ := plainN_ok hpn
  have rc : codeAny (model X.prog X.w) X.A (.call (.ref g) ⟨[.ref f], []⟩) (CR (L2N.CX X.prog X.w) X.stack X.prog X.w H1 s1 Q (fun _ _ _ => False)) s1 := by
    refine run_ofS (K := X.K) (N := N) (ps := [a]) (us := [.ref f]) (vs := [.ref f]) (by rw [g3]; exact lk) (by rw [g3]; exact hcd) S (hr : Room (k + 1 + 1) X.A) I1.env0 ?_ (.cons rfl .nil) rfl fun hr1 => ?_
    · have b := FF.bindsN hb s1 [.ref f] (by rw [← g3]; exact I1.kIn) rfl
      rw [List.append_nil] at b
      exact b
    · let tb0 : WX → TS := fun W' D σz HZ => ∃ Ech : XK, (∀ cls d σ' H', Ech cls d H' → W' cls d σ' H') ∧ σz[0]? = some (some (V.ref f)) ∧ HZ f = some (.frz (lamO l (cloFrom X.env.cells l.scope.names []) pm c' ctv) (.own f)) ∧ HZ c' = some (CodeO c' l.qual) ∧
            upE X.K G.T (fun cls d _ H' => Ech cls d H') tb σ HZ (fun _ H' => D.nx σz H')
      let ts0 : Addr → Value → Option Addr → TS := fun a0 cls d D σz HZ => (σz[i]? = some (some (.ref a0)) ∨ σz.length ≤ i) ∧ ∃ Dc w Ad0 S, cls = .ref Dc ∧ d = none ∧ nm Dc w ∧ Stt G.K G.T Ad0 S HZ ∧ Bk G.K G.T Ad0 HZ D.rt (.str w) S
      refine ⟨tSeq (fun D σz HZ => tb0 (wAs X.K (.ref CS) i ts0 W0 D) D σz HZ) (tRet (tC (.str rs))), ?ps, ?tt⟩
      case ps =>
        rw [hbody]
        refine pss_cons (L2N.ps_try_as (X := cxOf (L2N.CX X.prog X.w) X.prog X.w X.K X.mg X.base N x sc g cdv X.A X.stack s1 H1 (fun _ _ _ => False)) (i := i) (c := .ref CS) (Wout := W0) (tb := tb0) (ts := ts0)
          rfl rfl S.nd hNi hln ⟨glbB_ok hgf, pf1, .inl (by rw [g4]; exact hfe)⟩ takesW0 (fun W' pn xe tk' _ => ?_) (fun a0 oe cls d pn hz hfl => ?_)) (pss_one (ps_ret pe_str))
        · refine PSs.imp (pss_one (ps_expr (te := fun σz HZ Q' => ∃ Ech : XK, (∀ cls d σ' H', Ech cls d H' → W' cls d σ' H') ∧ σz[0]? = some (some (V.ref f)) ∧ HZ f = some (.frz (lamO l (cloFrom X.env.cells l.scope.names []) pm c' ctv) (.own f)) ∧ HZ c' = some (CodeO c' l.qual) ∧
            upE X.K G.T (fun cls d _ H' => Ech cls d H') tb σ HZ Q') ⟨fun pz sz σz HZ Q' IZ hz => ?_⟩ rfl)) fun D σz HZ ⟨Ech, z1, z2, z3, z4, z5⟩ => ⟨Ech, z1, z2, z3, z4, z5⟩
          obtain ⟨Ech, hW, h1, h2, h3, h4⟩ := hz
          exact (act_pe (X := X) (k := k) (i := 0) (E := Ech) (tb := upE X.K G.T (fun cls d _ H' => Ech cls d H') tb) I1 LS (hbind _ _ _ _ _) LA.qu tk' hW hr1 (fun A outer s H hr2 => (hbd A outer s H Ech f c' hr2).pe) hN0 (visB_ok hva) pa1 pa2).run pz sz σz HZ Q' IZ ⟨h1, h2, h3, h4⟩
        · exact pss_one (ps_ret (pe_names (X := cxOf (L2N.CX X.prog X.w) X.prog X.w X.K X.mg X.base N x sc g cdv X.A X.stack s1 H1 (fun _ _ _ => False)) NO ⟨g1, g2, g3, g4, g5⟩ (roomH_of (hr1.mono hkn)) hz hfl (glbB_ok hgn) pn1 hNi (.inl hln) pe1 pe2))
      case tt =>
        have st1 := st.sameT eN T1
        have l1 : Le A H A H1 := Le.sameT eN
        refine ⟨EchOf G nm Q, fun cls d σ' H' ⟨Dc, w, Ad0, S1, e1, e2, e3, e4, e5⟩ => ⟨true, ?_, fun _ a0 na => ⟨?_, Dc, w, Ad0, S1, e1, e2, e3, e4, e5⟩, fun z => by cases z⟩, ?_, hf, hc, A, S0, env, eo.mono l1, st1, mtb _ _ _ _ _ _ (fun d S1 h1 => ?_) (fun xx S1 h1 => ?_) q⟩
        · subst e1
          show PySem.W.exmOne X.K (.ref Dc) (.ref CS) = some true
          rw [g3]; exact hex Dc w e3
        · by_cases hi : i < σ'.length
          · exact .inl (List.getElem?_set_self hi)
          · exact .inr (by rw [List.length_set]; omega)
        · unfold L2.start; rfl
        · intro A2 H2 v l2 st2 _
          exact h1 A2 H2 (.str rs) (l1.trans l2) st2 rfl
        · intro A2 H2 l2 st2
          cases xx with
          | ref C =>
            dsimp only at h1
            split at h1
            · rename_i d e
              obtain ⟨w, ew, hw⟩ := hnD C d e
              subst ew
              rw [g3] at h1 st2
              exact ⟨C, w, A2, S1, rfl, rfl, hw, st2, Bk.mono (l1.trans l2) (fun _ _ z => z) h1⟩
            · exact h1.elim
          | _ => exact h1.elim
  refine wpAny_call (codeAny_mono rc fun r s' hq => ?_)
  cases r with
  | error e =>
    obtain ⟨_, _, _, _, _, _, _, _, _, _, _, _, z⟩ := hq
    exact z.elim
  | ok fl =>
    cases fl with
    | ret u => exact I1.after hq
    | next => exact False.elim hq
    | brk => exact False.elim hq
    | cont => exact False.elim hq
end
end Fs
end
section
set_option Elab.async false
set_option linter.all false
namespace Fs
open PySem PySem.Spec

/-! ### the lambdas of a text, in its order -/
def exLams : Nat → Expr → List Expr
  | 0, _ => []
  | n + 1, e => match e with
    | .Lambda a b s p => .Lambda a b s p :: exLams n b
    | .BinOp a _ b _ => exLams n a ++ exLams n b
    | .UnaryOp _ a _ => exLams n a
    | .BoolOp _ vs _ => vs.flatMap (exLams n)
    | .Compare a _ bs _ => exLams n a ++ bs.flatMap (exLams n)
    | .IfExp t a b _ => exLams n t ++ exLams n a ++ exLams n b
    | .Call f as _ _ => exLams n f ++ as.flatMap (exLams n)
    | .Attribute o _ _ => exLams n o
    | .Subscript a b _ => exLams n a ++ exLams n b
    | .Tuple es _ _ => es.flatMap (exLams n)
    | .List es _ => es.flatMap (exLams n)
    | .ListComp e gs _ _ => exLams n e ++ gs.flatMap fun g => match g with
      | ⟨_, it, ifs, _⟩ => exLams n it ++ ifs.flatMap (exLams n)
    | _ => []
def stLams : Nat → Stmt → List Expr
  | 0, _ => []
  | n + 1, s => match s with
    | .Return (some e) _ => exLams 40 e
    | .Expr e _ => exLams 40 e
    | .Assign _ e _ => exLams 40 e
    | .If t a b _ => exLams 40 t ++ a.flatMap (stLams n) ++ b.flatMap (stLams n)
    | .For _ it b _ _ => exLams 40 it ++ b.flatMap (stLams n)
    | .While t b _ _ => exLams 40 t ++ b.flatMap (stLams n)
    | _ => []
def lamAt (q : Str) (body : List Stmt) (i : Nat) : Lam := match (body.flatMap (stLams 40))[i]? with
  | some (.Lambda a b s _) => ⟨q, a, b, s⟩
  | _ => ⟨q, ⟨[], [], none, [], [], none, []⟩, .Constant .none 0 ⟨0, 0, 0, 0⟩, default⟩
end Fs
end
section
set_option Elab.async false
set_option linter.all false
set_option maxRecDepth 100000
set_option maxHeartbeats 4000000
namespace Fs
open PySem PySem.Spec PyProof.Rows L2 LamX

/-! ### the law's end -/
/-- what the law promises: True, at any script -/
def spLaw : SpD := fun as S Q _ => ∃ ns : List Int, as = [.d (.scr ns)] ∧ ns.length ≤ 63 ∧ (∀ z ∈ ns, Builtin.Int.intBits z ≤ 1048576) ∧ S = [] ∧ ∀ S', Q (.bl true) S'
theorem spLaw_mono : MonoSp spLaw := fun as S Q Q' E E' hq he ⟨ns, h1, h2, h3, h4, h5⟩ => ⟨ns, h1, h2, h3, h4, fun S' => hq _ _ (h5 S')⟩
/-- the tables of the defs with lambdas -/
def tabsOf (K : PySem.W.Frag) (tf : List He.Defn) : List (Addr × Str) := tf.map fun p => ((He.cT K p).2, p.1 ++ ".<locals>." ++ "<lambda>")
theorem law_at {l : PySem.W.OpenLaw} {w : World} {K : PySem.W.Frag} {fa : List He.Fa} {fn : List He.DefD} {tf : List He.Defn} {ex : PySem.W.Frag → Bool} {h : Heap} {mg : Str → Option Value} {f : Addr} {fd : FuncData} {x : Str} {k : Nat} (KX : K.In h) (c : He.SaysX fa fn [] tf ex w h K)
    (hb : ∀ (s : Shared) (u : Value), BindsTo s fd ⟨[u], []⟩ [(x, u)])
    (hF : ∀ base : Heap, K.In base → base.Ns mainGlobals mg → (∀ p ∈ tf, TabB base mg (He.cT K p).1 (He.cT K p).2) → FnOk l.prog w K mg base (L2N.CX l.prog w) k f fd [x] (upSp K ⟨tabsOf K tf, fun a => base.get? a⟩ 1 spLaw)) :
    LawAtS l w K (L2N.CX l.prog w) k 63 x mg f h := by
  refine ⟨fd, tf.map (He.cT K), fun vs H Q _ => ∃ (a : Addr) (ns : List Int), vs = [.ref a] ∧ ns.length ≤ 63 ∧ (∀ z ∈ ns, Builtin.Int.intBits z ≤ 1048576) ∧ (∀ p ∈ tf.map (He.cT K), H p.2 = some (.tbl #[])) ∧ SqL K H a (ns.map V.int) ∧ ∀ H', Q (.bl true) H', ?_, ?_, ?_, hb, ?_, ?_⟩
  · intro p hp
    obtain ⟨d, hd, rfl⟩ := List.mem_map.mp hp
    exact c.empty d hd
  · intro p hp
    obtain ⟨d, hd, rfl⟩ := List.mem_map.mp hp
    exact c.out d hd
  · intro p hp
    obtain ⟨d, hd, rfl⟩ := List.mem_map.mp hp
    exact PySem.W.codeHd_of_K KX (c.hd d hd)
  · intro H a ns h1 h2 h3 h4
    exact ⟨a, ns, rfl, h1, h2, h3, h4, fun _ => rfl⟩
  · intro base k1 k2 k3
    refine (hF base k1 k2 fun p hp => k3 _ (List.mem_map.mpr ⟨p, hp, rfl⟩)).imp fun vs H Q E ⟨a, ns, e, h1, h2, h3, h4, h5⟩ => ?_
    subst e
    have no : ∀ (b : Addr), b ∉ ([] : List Addr) := fun b => by simp
    refine ⟨⟨[], [], fun a => base.get? a⟩, [], [.d (.scr ns)], rfl, ⟨_, _, rfl, ⟨a, rfl, ?_⟩, rfl⟩, ⟨List.nodup_nil, rfl, (fun i c e => by simp at e), (fun a z => absurd z (no a)), (fun a z => absurd z (no a)), ?_, rfl⟩, ns, rfl, h1, h2, rfl, fun S' A' H' v l2 st2 r => ?_⟩
    · rcases h4 with (h4 | h4) | h4
      · exact .inl ⟨no a, .inr h4⟩
      · exact .inl ⟨no a, .inl h4⟩
      · exact .inr h4
    · intro p hp
      obtain ⟨d, hd, rfl⟩ := List.mem_map.mp hp
      exact TabS.nil (h3 _ (List.mem_map.mpr ⟨d, hd, rfl⟩))
    · have e : v = V.bl true := r
      rw [e]
      exact h5 H'
end Fs
end
section
set_option Elab.async false
set_option linter.all false
set_option maxRecDepth 100000
set_option maxHeartbeats 4000000
namespace Fs
open PySem PySem.Spec PyProof.Rows L2 LamX

/-! ### plain values: nested tuples and lists of None, truth values, numbers, texts -/
mutual
def D.pl : Nat → D → Bool
  | _, .non => true
  | _, .bl _ => true
  | _, .int _ => true
  | _, .str x => PyData.strOk x
  | n + 1, .tup ds => D.pls n ds
  | n + 1, .lst ds => D.pls n ds
  | _, _ => false
def D.pls : Nat → List D → Bool
  | _, [] => true
  | n, d :: ds => D.pl n d && D.pls n ds
end
mutual
theorem pl_lay : ∀ (n : Nat) (d : D), d.pl n = true → d.py.canLay0 = true ∧ d.py.depth ≤ n
  | n, .non, _ => ⟨rfl, Nat.zero_le _⟩
  | n, .bl _, _ => ⟨rfl, Nat.zero_le _⟩
  | n, .int _, _ => ⟨rfl, Nat.zero_le _⟩
  | n, .str x, h => by
    have h : PyData.strOk x = true := by cases n <;> exact h
    exact ⟨by simpa [D.py, PyData.canLay0] using h, Nat.zero_le _⟩
  | n + 1, .tup ds, h => by
    obtain ⟨h1, h2⟩ := pls_lay n ds h
    exact ⟨by simpa [D.py, PyData.canLay0] using h1, by simp only [D.py, PyData.depth]; omega⟩
  | n + 1, .lst ds, h => by
    obtain ⟨h1, h2⟩ := pls_lay n ds h
    exact ⟨by simpa [D.py, PyData.canLay0] using h1, by simp only [D.py, PyData.depth]; omega⟩
  | 0, .tup ds, h => by cases h
  | 0, .lst ds, h => by cases h
  | n, .ref _, h => by cases n <;> cases h
  | n, .ty _, h => by cases n <;> cases h
  | n, .loc _, h => by cases n <;> cases h
  | n, .lam _, h => by cases n <;> cases h
  | n, .scr _, h => by cases n <;> cases h
theorem pls_lay : ∀ (n : Nat) (ds : List D), D.pls n ds = true → PyData.canLayAll0 (D.pys ds) = true ∧ PyData.depthAll (D.pys ds) ≤ n
  | n, [], _ => ⟨rfl, Nat.zero_le _⟩
  | n, d :: ds, h => by
    have h : (D.pl n d && D.pls n ds) = true := h
    rw [Bool.and_eq_true] at h
    obtain ⟨a1, a2⟩ := pl_lay n d h.1
    obtain ⟨b1, b2⟩ := pls_lay n ds h.2
    exact ⟨by simp [D.pys, PyData.canLayAll0, a1, b1], by simp only [D.pys, PyData.depthAll]; omega⟩
end
theorem pl_fit {n : Nat} {d : D} (hn : n ≤ 64) (h : d.pl n = true) : d.fit := by
  obtain ⟨h1, h2⟩ := pl_lay n d h
  show SeqAt.shaped d.py = true
  unfold SeqAt.shaped
  rw [h1, Bool.true_and]
  exact decide_eq_true (by omega)
theorem pl_tn {n : Nat} {d : D} (h : d.pl n = true) : d.tn.isSome = true := by
  cases d <;> first | rfl | (cases n <;> cases h)
end Fs
end
section
set_option Elab.async false
set_option linter.all false
set_option maxRecDepth 100000
set_option maxHeartbeats 4000000
namespace Fs
open PySem PySem.Spec PyProof.Rows L2 LamX

/-! ### numbers and steps that are good -/
def isWh (v : D) (lo hi : Int) : Bool := match v with
  | .int i => decide (lo ≤ i) && decide (i ≤ hi)
  | _ => false
def sp_is_whole : SpD := fun as S Q _ => ∃ v lo hi, as = [.d v, .d (.int lo), .d (.int hi)] ∧ v.tn.isSome = true ∧ Q (.bl (isWh v lo hi)) S
theorem sp_is_whole_mono : MonoSp sp_is_whole := fun as S Q Q' E E' hq he ⟨v, lo, hi, h1, h2, h3⟩ => ⟨v, lo, hi, h1, h2, hq _ _ h3⟩
def t_is_whole : TSD :=
  (dRet (dAndV (dCB isiD (dCons (dVar 0) (dCons (dC (.ty "int")) dNil))) (dAndV (dNotV (dCB isiD (dCons (dVar 0) (dCons (dC (.ty "bool")) dNil)))) (dChain leD leD (dVar 1) (dVar 0) (dVar 2)))))
theorem p_is_whole (as : List Va) (S : Store) (Q : QD) (E : EX) (h : sp_is_whole as S Q E) : t_is_whole (rtE Q E) (startD 3 as) S := by
  obtain ⟨v, lo, hi, rfl, hv, hq⟩ := h
  unfold t_is_whole
  simp only [dRet, dAndV, dCB, dCons, dVar, dC, dNil, dNotV, dChain, startD, rtE, isiD, List.map, List.replicate, List.length, List.append, List.getElem?_cons_zero, List.getElem?_cons_succ]
  cases v with
  | int i =>
    simp [D.tn, isWh, isTn, leD, cmpD] at hv hq ⊢
    by_cases h1 : lo ≤ i <;> simp [h1] at hq ⊢ <;> exact hq
  | _ => first | (simp [D.tn, isWh, isTn, leD, cmpD] at hv hq ⊢; done) | (simp [D.tn, isWh, isTn, leD, cmpD] at hv hq ⊢; exact hq)
@[simp] theorem eqb_int (i j : Int) : D.eqb (.int i) (.int j) = decide (i = j) := by
  show (i == j) = _; rw [Bool.beq_eq_decide_eq]
@[simp] theorem eqb_str (i j : Str) : D.eqb (.str i) (.str j) = decide (i = j) := by
  show (i == j) = _; rw [Bool.beq_eq_decide_eq]
@[simp] theorem fit_int (i : Int) : D.fit (.int i) = True := by simp [D.fit, D.py, SeqAt.shaped, PyData.canLay0, PyData.depth]
@[simp] theorem fit_bl (i : Bool) : D.fit (.bl i) = True := by simp [D.fit, D.py, SeqAt.shaped, PyData.canLay0, PyData.depth]
@[simp] theorem fit_non : D.fit .non = True := by simp [D.fit, D.py, SeqAt.shaped, PyData.canLay0, PyData.depth]
@[simp] theorem fit_str (x : Str) : D.fit (.str x) = (PyData.strOk x = true) := by simp [D.fit, D.py, SeqAt.shaped, PyData.canLay0, PyData.depth]
@[simp] theorem atI_0 (a : D) (r : List D) : atI (a :: r) 0 = some a := by simp [atI, ixN]
@[simp] theorem atI_1 (a b : D) (r : List D) : atI (a :: b :: r) 1 = some b := by
  simp [atI, ixN]
  rw [if_pos (by omega)]
  rfl
@[simp] theorem atI_2 (a b c : D) (r : List D) : atI (a :: b :: c :: r) 2 = some c := by
  simp [atI, ixN]
  rw [if_pos (by omega)]
  rfl
def waysL : List Str := ["away", "even", "high", "low", "near", "zero"]
def sizesL : List Int := [1, 2, 5, 10, 20, 50, 100, 200, 500, 1000, 2000, 5000, 10000, 20000, 50000, 100000, 200000, 500000, 1000000]
def inSz (v : D) : Bool := match v with
  | .int i => decide (i ∈ sizesL)
  | _ => false
def goodStep (d : D) : Bool := match d with
  | .tup [.str w] => decide (w = "turn")
  | .tup [.str w, a] => decide (w = "tens") && isWh a 1 3
  | .tup [.str w, a, .str y] => !decide (w = "turn") && !decide (w = "tens") && decide (y ∈ waysL) && ((decide (w = "figures") && isWh a 1 3) || (decide (w = "steps") && isWh a 1 1000000 && inSz a))
  | _ => false
def sp_is_good_step : SpD := fun as S Q _ => ∃ v, as = [.d v] ∧ v.pl 8 = true ∧ Q (.bl (goodStep v)) S
def t_is_good_step : TSD :=
  (dSeq (dIfS (dOr (dNot (dTru (dCB isiD (dCons (dVar 0) (dCons (dC (.ty "tuple")) dNil))))) (dOr (dNot (dTest (dChain leD leD (dC (.int 1)) (dCB lenD (dCons (dVar 0) dNil)) (dC (.int 3))))) (dNot (dTru (dCB isiD (dCons (dBin ixD (dVar 0) (dC (.int 0))) (dCons (dC (.ty "str")) dNil)))))))
    (dRet (dC (.bl false)))
    dNext)
  (dSeq (dIfS (dTest (dBin eqD (dBin ixD (dVar 0) (dC (.int 0))) (dC (.str "turn"))))
    (dRet (dBin eqD (dCB lenD (dCons (dVar 0) dNil)) (dC (.int 1))))
    dNext)
  (dSeq (dIfS (dTest (dBin eqD (dBin ixD (dVar 0) (dC (.int 0))) (dC (.str "tens"))))
    (dRet (dAndV (dBin eqD (dCB lenD (dCons (dVar 0) dNil)) (dC (.int 2))) (dCall 3 sp_is_whole (dCons (dBin ixD (dVar 0) (dC (.int 1))) (dCons (dC (.int 1)) (dCons (dC (D.int 3)) dNil))))))
    dNext)
  (dSeq (dIfS (dOr (dTest (dBin neD (dCB lenD (dCons (dVar 0) dNil)) (dC (.int 3)))) (dOr (dNot (dTru (dCB isiD (dCons (dBin ixD (dVar 0) (dC (.int 2))) (dCons (dC (.ty "str")) dNil))))) (dTest (dBin (inD true) (dBin ixD (dVar 0) (dC (.int 2))) (dC (D.tup [(D.str "away"), (D.str "even"), (D.str "high"), (D.str "low"), (D.str "near"), (D.str "zero")]))))))
    (dRet (dC (.bl false)))
    dNext)
  (dSeq (dIfS (dTest (dBin eqD (dBin ixD (dVar 0) (dC (.int 0))) (dC (.str "figures"))))
    (dRet (dCall 3 sp_is_whole (dCons (dBin ixD (dVar 0) (dC (.int 1))) (dCons (dC (.int 1)) (dCons (dC (D.int 3)) dNil)))))
    dNext)
  (dRet (dAndV (dBin eqD (dBin ixD (dVar 0) (dC (.int 0))) (dC (.str "steps"))) (dAndV (dCall 3 sp_is_whole (dCons (dBin ixD (dVar 0) (dC (.int 1))) (dCons (dC (.int 1)) (dCons (dBin powD (dC (.int 10)) (dC (.int 6))) dNil)))) (dBin (inD false) (dBin ixD (dVar 0) (dC (.int 1))) (dC (D.tup [(D.int 1), (D.int 2), (D.int 5), (D.int 10), (D.int 20), (D.int 50), (D.int 100), (D.int 200), (D.int 500), (D.int 1000), (D.int 2000), (D.int 5000), (D.int 10000), (D.int 20000), (D.int 50000), (D.int 100000), (D.int 200000), (D.int 500000), (D.int 1000000)])))))))))))
theorem cpow_six : CPow 10 6 := ⟨by decide, by decide, by decide⟩
theorem p_is_good_step (as : List Va) (S : Store) (Q : QD) (E : EX) (h : sp_is_good_step as S Q E) : t_is_good_step (rtE Q E) (startD 1 as) S := by
  obtain ⟨v, rfl, hv, hq⟩ := h
  unfold t_is_good_step
  simp only [dRet, dAndV, dOrV, dCB, dCons, dVar, dC, dNil, dNotV, dChain, dSeq, dIfS, dNext, dOr, dAnd, dNot, dTest, dTru, dBin, dCall, startD, rtE, isiD, lenD, eqD, neD, List.map, List.replicate, List.length, List.append, List.getElem?_cons_zero, List.getElem?_cons_succ]
  cases v with
  | tup ds =>
    match ds, hv, hq with
    | [], hv, hq => simp [D.tn, isTn, leD, cmpD, goodStep, truD] at hq ⊢; exact hq
    | [a], hv, hq =>
      cases a with
      | str w =>
        have hw : PyData.strOk w = true := by simpa [D.pl, D.pls] using hv
        have h1 : PyData.strOk (Str.ofString "turn") = true := by decide +kernel
        have h2 : PyData.strOk (Str.ofString "tens") = true := by decide +kernel
        simp [D.tn, isTn, leD, cmpD, goodStep, truD, ixD, atD, hw, h1, h2] at hq ⊢
        by_cases hw1 : w = Str.ofString "turn" <;> simp [hw1] at hq ⊢ <;> exact hq
      | _ => simp [D.tn, isTn, leD, cmpD, goodStep, truD, ixD, atD, D.pl, D.pls] at hv hq ⊢; first | exact hq | skip
    | [a, b], hv, hq =>
      have hb : b.tn.isSome = true := by
        have h : D.pl 7 b = true := by
          simp [D.pl, D.pls] at hv
          exact hv.2
        exact pl_tn h
      cases a with
      | str w =>
        have hw : PyData.strOk w = true := by
          simp [D.pl, D.pls] at hv
          exact hv.1
        have h1 : PyData.strOk (Str.ofString "turn") = true := by decide +kernel
        have h2 : PyData.strOk (Str.ofString "tens") = true := by decide +kernel
        have ne : Str.ofString "turn" ≠ Str.ofString "tens" := by decide +kernel
        by_cases hw1 : w = Str.ofString "turn"
        · subst hw1
          simp [D.tn, isTn, leD, cmpD, goodStep, truD, ixD, atD, h1, h2, ne] at hq ⊢
          exact hq
        · by_cases hw2 : w = Str.ofString "tens"
          · subst hw2
            simp [D.tn, isTn, leD, cmpD, goodStep, truD, ixD, atD, h1, h2, hw1] at hq ⊢
            exact ⟨b, 1, 3, rfl, hb, hq⟩
          · simp [D.tn, isTn, leD, cmpD, goodStep, truD, ixD, atD, hw, h1, h2, hw1, hw2] at hq ⊢
            exact hq
      | _ => simp [D.tn, isTn, leD, cmpD, goodStep, truD, ixD, atD, D.pl, D.pls] at hv hq ⊢; first | exact hq | skip
    | [a, b, c], hv, hq =>
      have hb : b.tn.isSome = true := by
        have h : D.pl 7 b = true := by
          simp [D.pl, D.pls] at hv
          exact hv.2.1
        exact pl_tn h
      cases a with
      | str w =>
        have hw : PyData.strOk w = true := by
          simp [D.pl, D.pls] at hv
          exact hv.1
        have h1 : PyData.strOk (Str.ofString "turn") = true := by decide +kernel
        have h2 : PyData.strOk (Str.ofString "tens") = true := by decide +kernel
        have h3 : PyData.strOk (Str.ofString "figures") = true := by decide +kernel
        have h4 : PyData.strOk (Str.ofString "steps") = true := by decide +kernel
        have ne : Str.ofString "turn" ≠ Str.ofString "tens" := by decide +kernel
        have ne2 : Str.ofString "figures" ≠ Str.ofString "steps" := by decide +kernel
        by_cases hw1 : w = Str.ofString "turn"
        · subst hw1
          cases c <;> simp [D.tn, isTn, leD, cmpD, goodStep, truD, ixD, atD, h1, h2, ne] at hq ⊢ <;> exact hq
        · by_cases hw2 : w = Str.ofString "tens"
          · subst hw2
            cases c <;> simp [D.tn, isTn, leD, cmpD, goodStep, truD, ixD, atD, h1, h2, hw1] at hq ⊢ <;> exact hq
          · cases c with
            | str y =>
              by_cases hy : y ∈ waysL
              · have hy2 : ¬(¬Str.ofString "away" = y ∧ ¬Str.ofString "even" = y ∧ ¬Str.ofString "high" = y ∧ ¬Str.ofString "low" = y ∧ ¬Str.ofString "near" = y ∧ ¬Str.ofString "zero" = y) := by
                  simp only [waysL, List.mem_cons, List.not_mem_nil, or_false] at hy
                  rintro ⟨a1, a2, a3, a4, a5, a6⟩
                  rcases hy with e | e | e | e | e | e
                  · exact a1 e.symm
                  · exact a2 e.symm
                  · exact a3 e.symm
                  · exact a4 e.symm
                  · exact a5 e.symm
                  · exact a6 e.symm
                have hg : goodStep (.tup [.str w, b, .str y]) = ((decide (w = "figures") && isWh b 1 3) || (decide (w = "steps") && isWh b 1 1000000 && inSz b)) := by
                  simp [goodStep, hw1, hw2, hy]
                rw [hg] at hq
                simp [D.tn, isTn, leD, cmpD, truD, ixD, atD, hw, h1, h2, h3, h4, hw1, hw2, inD, inOk, D.flat] at ⊢
                rw [if_neg hy2]
                by_cases hw3 : w = Str.ofString "figures"
                · rw [if_pos hw3]
                  refine ⟨b, 1, 3, rfl, hb, ?_⟩
                  simp [hw3, ne2] at hq
                  exact hq
                · rw [if_neg hw3]
                  by_cases hw4 : w = Str.ofString "steps"
                  · rw [if_pos hw4]
                    simp [hw3, hw4] at hq
                    have ne3 : ¬(Str.ofString "steps" = Str.ofString "figures") := fun e => ne2 e.symm
                    simp only [ne3, decide_false, Bool.false_and, Bool.false_or] at hq
                    refine ⟨cpow_six, b, 1, 1000000, rfl, hb, ?_⟩
                    cases b with
                    | int i =>
                      cases hi : isWh (.int i) 1 1000000 with
                      | false =>
                        rw [hi] at hq
                        exact condB_false hq
                      | true =>
                        rw [hi, Bool.true_and] at hq
                        refine condB_true ⟨.inl rfl, ?_⟩
                        have e : inSz (.int i) = sizesL.any fun z => D.eqb (.int z) (.int i) := by
                          simp [inSz, sizesL, eq_comm]
                        rw [e] at hq
                        simp [sizesL] at hq ⊢
                        exact hq
                    | _ => exact condB_false hq
                  · rw [if_neg hw4]
                    simp [hw3, hw4] at hq
                    exact hq
              · have hg : goodStep (.tup [.str w, b, .str y]) = false := by simp [goodStep, hy]
                rw [hg] at hq
                have hy2 : ¬Str.ofString "away" = y ∧ ¬Str.ofString "even" = y ∧ ¬Str.ofString "high" = y ∧ ¬Str.ofString "low" = y ∧ ¬Str.ofString "near" = y ∧ ¬Str.ofString "zero" = y := by
                  simp only [waysL, List.mem_cons, List.not_mem_nil, or_false, not_or] at hy
                  exact ⟨fun e => hy.1 e.symm, fun e => hy.2.1 e.symm, fun e => hy.2.2.1 e.symm, fun e => hy.2.2.2.1 e.symm, fun e => hy.2.2.2.2.1 e.symm, fun e => hy.2.2.2.2.2 e.symm⟩
                simp [D.tn, isTn, leD, cmpD, truD, ixD, atD, hw, h1, h2, h3, h4, hw1, hw2, inD, inOk, D.flat] at ⊢
                rw [if_pos hy2]
                exact hq
            | _ => simp [D.tn, isTn, leD, cmpD, goodStep, truD, ixD, atD, D.pl, D.pls, hw, h1, h2, hw1, hw2] at hv hq ⊢; first | exact hq | skip
      | _ => simp [D.tn, isTn, leD, cmpD, goodStep, truD, ixD, atD, D.pl, D.pls] at hv hq ⊢; first | exact hq | skip
    | a :: b :: c :: d :: r, hv, hq => simp [D.tn, isTn, leD, cmpD, goodStep, truD] at hq ⊢; rw [if_pos (by omega), if_neg (by omega)]; exact hq
  | _ => first | (simp [D.tn, isTn, goodStep, D.pl, truD] at hv hq ⊢; done) | (simp [D.tn, isTn, goodStep, D.pl, truD] at hv hq ⊢; exact hq)
theorem sp_is_good_step_mono : MonoSp sp_is_good_step := fun as S Q Q' E E' hq he ⟨v, h1, h2, h3⟩ => ⟨v, h1, h2, hq _ _ h3⟩
theorem pls_mem {n : Nat} : ∀ {ds : List D}, D.pls n ds = true → ∀ d ∈ ds, d.pl n = true
  | [], _, d, h => by cases h
  | a :: r, hp, d, h => by
    have hp : (D.pl n a && D.pls n r) = true := by simpa [D.pls] using hp
    rw [Bool.and_eq_true] at hp
    rcases List.mem_cons.mp h with e | h
    · rw [e]; exact hp.1
    · exact pls_mem hp.2 d h
theorem pls_of {n : Nat} : ∀ {ds : List D}, (∀ d ∈ ds, d.pl n = true) → D.pls n ds = true
  | [], _ => by simp [D.pls]
  | a :: r, h => by
    simp only [D.pls, Bool.and_eq_true]
    exact ⟨h a List.mem_cons_self, pls_of fun d hd => h d (List.mem_cons_of_mem _ hd)⟩
/-- a comprehension that drops some: [x for x in xs if p x] -/
theorem lcD_filter {te : TED} {tt : TTD} {env : En} {i : Nat} {k : List D → Store → Prop} {p : D → Bool} {S : Store} (hi : i < env.length)
    (he : ∀ x Q E, Q x S → te (env.set i (some (.d x))) S Q E) : ∀ (xs acc : List D), (∀ x ∈ xs, ∀ Q E, Q (p x) S → tt (env.set i (some (.d x))) S Q E) → acc.length + xs.length ≤ sizeLine → k (acc ++ xs.filter p) S → lcD (gN i) tt te env k xs acc S
  | [], acc, _, _, h => by simpa [lcD] using h
  | x :: xs, acc, ht, hl, h => by
    have ht2 : ∀ y ∈ xs, ∀ Q E, Q (p y) S → tt (env.set i (some (.d y))) S Q E := fun y hy => ht y (List.mem_cons_of_mem _ hy)
    unfold lcD
    refine ht x List.mem_cons_self _ _ ?_
    cases hp : p x with
    | true =>
      rw [if_pos rfl]
      refine he x _ _ ⟨by simp at hl; omega, lcD_filter hi he xs _ ht2 (by simp at hl ⊢; omega) ?_⟩
      rw [List.filter_cons_of_pos hp] at h
      simpa using h
    | false =>
      rw [if_neg (by decide)]
      refine lcD_filter hi he xs _ ht2 (by simp at hl ⊢; omega) ?_
      rw [List.filter_cons_of_neg (by rw [hp]; decide)] at h
      exact h
def goodChain (d : D) : Bool := match d with
  | .tup ds => decide (ds.length ≤ 4) && ds.all goodStep
  | _ => false
def sp_is_good_chain : SpD := fun as S Q _ => ∃ v, as = [.d v] ∧ v.pl 9 = true ∧ Q (.bl (goodChain v)) S
theorem sp_is_good_chain_mono : MonoSp sp_is_good_chain := fun as S Q Q' E E' hq he ⟨v, h1, h2, h3⟩ => ⟨v, h1, h2, hq _ _ h3⟩
def t_is_good_chain : TSD :=
  (dRet (dAndV (dCB isiD (dCons (dVar 0) (dCons (dC (.ty "tuple")) dNil))) (dAndV (dBin leD (dCB lenD (dCons (dVar 0) dNil)) (dC (.int 4))) (dBin eqD (dLc (dItS (dVar 0)) [1] (gN 1) (dNot (dTru (dCall 1 sp_is_good_step (dCons (dVar 1) dNil)))) (dVar 1)) (dLst dNil)))))
theorem eqb_lnil (xs : List D) : D.eqb (.lst xs) (.lst []) = xs.isEmpty := by
  cases xs with
  | nil => decide
  | cons a r => rfl
theorem p_is_good_chain (as : List Va) (S : Store) (Q : QD) (E : EX) (h : sp_is_good_chain as S Q E) : t_is_good_chain (rtE Q E) (startD 2 as) S := by
  obtain ⟨v, rfl, hv, hq⟩ := h
  unfold t_is_good_chain
  simp only [dRet, dAndV, dCB, dCons, dVar, dC, dNil, dBin, dLst, dItS, dLc, startD, rtE, isiD, lenD, List.map, List.replicate, List.length, List.append, List.getElem?_cons_zero, List.getElem?_cons_succ]
  cases v with
  | tup ds =>
    have hp : ∀ d ∈ ds, d.pl 8 = true := pls_mem (by simpa [D.pl] using hv)
    simp [D.tn, isTn, leD, cmpD, goodChain] at hq ⊢
    by_cases h4 : ds.length ≤ 4
    · rw [if_pos (by omega)]
      refine lcD_filter (p := fun x => !goodStep x) (by simp [wipeD]) (fun x Q E h => ?_) ds [] (fun x hx Q E h => ?_) (by simpa using Nat.le_trans h4 (by decide : 4 ≤ sizeLine)) ?_
      · simpa [dVar, wipeD] using h
      · simp [dNot, dTru, dCall, dCons, dVar, dNil, wipeD]
        exact ⟨x, rfl, hp x hx, h⟩
      · have hl : D.pl 9 (.lst (ds.filter fun x => !goodStep x)) = true := by
          simp only [D.pl]
          exact pls_of fun d hd => hp d (List.mem_filter.mp hd).1
        refine ⟨pl_fit (by decide) hl, pl_fit (n := 9) (by decide) (by simp [D.pl, D.pls]), ?_⟩
        simp only [List.nil_append, eqb_lnil]
        have e : (ds.filter fun x => !goodStep x).isEmpty = (decide (ds.length ≤ 4) && ds.all goodStep) := by
          rw [decide_eq_true h4, Bool.true_and, Bool.eq_iff_iff, List.isEmpty_iff, List.filter_eq_nil_iff, List.all_eq_true]
          simp
        rw [e]
        exact hq
    · rw [if_neg (by omega)]
      simp [h4] at hq
      exact hq
  | _ => first | (simp [D.tn, isTn, goodChain, D.pl] at hv hq ⊢; done) | (simp [D.tn, isTn, goodChain, D.pl] at hv hq ⊢; exact hq)
def sp_need_chain (er : Str → Addr) : SpD := fun as S Q E => ∃ v, as = [.d v] ∧ v.pl 9 = true ∧ (goodChain v = true → Q .non S) ∧ (goodChain v = false → E (.ref (er "InvalidChain")) S)
theorem sp_need_chain_mono {er : Str → Addr} : MonoSp (sp_need_chain er) := fun as S Q Q' E E' hq he ⟨v, h1, h2, h3, h4⟩ => ⟨v, h1, h2, fun h => hq _ _ (h3 h), fun h => he _ _ (h4 h)⟩
def t_need_chain (er : Str → Addr) : TSD :=
  (dIfS (dNot (dTru (dCall 1 sp_is_good_chain (dCons (dVar 0) dNil))))
    (dRaise (er "InvalidChain"))
    dNext)
theorem p_need_chain {er : Str → Addr} (as : List Va) (S : Store) (Q : QD) (E : EX) (h : sp_need_chain er as S Q E) : t_need_chain er (rtE Q E) (startD 1 as) S := by
  obtain ⟨v, rfl, hv, h1, h2⟩ := h
  unfold t_need_chain
  simp only [dIfS, dNot, dTru, dCall, dCons, dVar, dNil, dRaise, dNext, startD, rtE, List.map, List.replicate, List.length, List.append, List.getElem?_cons_zero]
  refine ⟨trivial, v, rfl, hv, ?_⟩
  cases h : goodChain v with
  | true => exact h1 h
  | false => exact h2 h
end Fs
end
section
set_option Elab.async false
set_option linter.all false
set_option maxRecDepth 100000
set_option maxHeartbeats 4000000
namespace Fs
open PySem PySem.Spec PyProof.Rows L2 LamX

/-! ### rules for simp: a reading with what it is applied to -/
@[simp] theorem strOk_of (s : String) : PyData.strOk (Str.ofString s) = true := by
  rw [Str.ofString_eq_toList]
  unfold PyData.strOk
  rw [Array.all_eq_true']
  intro x hx
  simp only [List.mem_toArray, List.mem_map] at hx
  obtain ⟨c, _, rfl⟩ := hx
  have h := c.valid
  have : c.toNat < 0x110000 := by
    rcases h with h | ⟨_, h⟩
    · have : c.toNat < 0xd800 := h
      omega
    · exact h
  exact decide_eq_true this
theorem ofString_inj' {a b : String} (h : Str.ofString a = Str.ofString b) : a = b := by
  rw [Str.ofString_eq_toList, Str.ofString_eq_toList] at h
  injection h with h
  have h2 : a.toList.map Char.toNat = b.toList.map Char.toNat := by simpa using h
  have inj : ∀ x y : Char, x.toNat = y.toNat → x = y := fun x y e => Char.ext (UInt32.toNat_inj.mp e)
  have h3 : a.toList = b.toList := List.map_inj_right (fun {x y} e => inj x y e) |>.mp h2
  exact String.toList_inj.mp h3
@[simp] theorem ofString_inj {a b : String} : (Str.ofString a = Str.ofString b) = (a = b) := propext ⟨ofString_inj', fun h => by rw [h]⟩

/-- no step of simp by itself: the kernel is to look at small steps -/
theorem nr {α : Sort _} {a b : α} (h : a = b) : a = b := h
@[simp] theorem s_seq {t u : TSD} {D : DE} {env : En} {S : Store} : dSeq t u D env S = t { D with nx := u D } env S := nr rfl
@[simp] theorem s_next {D : DE} {env : En} {S : Store} : dNext D env S = D.nx env S := nr rfl
@[simp] theorem s_ret {t : TED} {D : DE} {env : En} {S : Store} : dRet t D env S = t env S D.rt (fun x S1 => D.ex x env S1) := nr rfl
@[simp] theorem s_retN {D : DE} {env : En} {S : Store} : dRetN D env S = D.rt .non S := nr rfl
@[simp] theorem s_drop {t : TED} {D : DE} {env : En} {S : Store} : dDrop t D env S = t env S (fun _ S1 => D.nx env S1) (fun x S1 => D.ex x env S1) := nr rfl
@[simp] theorem s_ifS {c : TTD} {t u : TSD} {D : DE} {env : En} {S : Store} : dIfS c t u D env S = c env S (fun b S1 => if b = true then t D env S1 else u D env S1) (fun x S1 => D.ex x env S1) := nr rfl
@[simp] theorem s_asg {t : TED} {g : GD} {D : DE} {env : En} {S : Store} : dAsg t g D env S = t env S (fun d S1 => g d env fun env' => D.nx env' S1) (fun x S1 => D.ex x env S1) := nr rfl
@[simp] theorem s_par {t : TAD} {is : List Nat} {D : DE} {env : En} {S : Store} : dPar is t D env S = t env S (fun xs S1 => xs.length = is.length ∧ D.nx (setAll env is xs) S1) (fun x S1 => D.ex x env S1) := nr rfl
@[simp] theorem s_raise {C : Addr} {D : DE} {env : En} {S : Store} : dRaise C D env S = D.ex (.ref C) env S := nr rfl
@[simp] theorem s_for {ti : TAD} {g : GD} {tb : TSD} {D0 : DE} {env : En} {S : Store} : dFor ti g tb D0 env S = ti env S (fun items S1 => forD g tb D0 items env S1) (fun x S1 => D0.ex x env S1) := nr rfl
@[simp] theorem rt_nx {Q : QD} {E : EX} {env : En} {S : Store} : (rtE Q E).nx env S = Q .non S := nr rfl
@[simp] theorem rt_rt {Q : QD} {E : EX} : (rtE Q E).rt = Q := nr rfl
@[simp] theorem rt_ex {Q : QD} {E : EX} {x : Exn} {env : En} {S : Store} : (rtE Q E).ex x env S = E x S := nr rfl
@[simp] theorem s_gN {i : Nat} {d : D} {env : En} {k : En → Prop} : gN i d env k = k (env.set i (some (.d d))) := nr rfl
@[simp] theorem s_gT {is : List Nat} {ds : List D} {env : En} {k : En → Prop} : gT is (.tup ds) env k = (ds.length = is.length ∧ k (setAll env is ds)) := nr rfl
@[simp] theorem s_gTl {is : List Nat} {ds : List D} {env : En} {k : En → Prop} : gT is (.lst ds) env k = (ds.length = is.length ∧ k (setAll env is ds)) := nr rfl
@[simp] theorem s_gTH {is : List Nat} {ds : List D} {env : En} {k : En → Prop} : gTH is (.tup ds) env k = (ds.length = is.length ∧ k (setAll env is ds)) := nr rfl
@[simp] theorem setAll_nil {env : En} {is : List Nat} : setAll env is [] = env := by cases is <;> rfl
@[simp] theorem setAll_cons {env : En} {i : Nat} {is : List Nat} {d : D} {ds : List D} : setAll env (i :: is) (d :: ds) = setAll (env.set i (some (.d d))) is ds := nr rfl
@[simp] theorem wipe_nil {env : En} : wipeD env [] = env := nr rfl
@[simp] theorem wipe_cons {env : En} {v : Nat} {vs : List Nat} : wipeD env (v :: vs) = (wipeD env vs).set v none := nr rfl
@[simp] theorem s_start {n : Nat} {as : List Va} : startD n as = as.map some ++ List.replicate (n - as.length) none := nr rfl

@[simp] theorem s_var {i : Nat} {env : En} {S : Store} {Q : QD} {E : EX} : dVar i env S Q E = (match env[i]? with
  | some (some (.d x)) => Q x S
  | _ => False) := nr rfl
@[simp] theorem s_c {d : D} {env : En} {S : Store} {Q : QD} {E : EX} : dC d env S Q E = Q d S := nr rfl
@[simp] theorem s_bin {f : OpD} {ta tb : TED} {env : En} {S : Store} {Q : QD} {E : EX} : dBin f ta tb env S Q E = ta env S (fun x S1 => tb env S1 (fun y S2 => f x y S2 fun d => Q d S2) E) E := nr rfl
@[simp] theorem s_test {t : TED} {env : En} {S : Store} {Q : Bool → Store → Prop} {E : EX} : dTest t env S Q E = t env S (fun x S1 => onB x fun b => Q b S1) E := nr rfl
@[simp] theorem s_chain {f g : OpD} {ta tb tc : TED} {env : En} {S : Store} {Q : QD} {E : EX} : dChain f g ta tb tc env S Q E = ta env S (fun x S1 => tb env S1 (fun y S2 => f x y S2 fun z => condB z (tc env S2 (fun w S3 => g y w S3 fun d => Q d S3) E) (Q (.bl false) S2)) E) E := nr rfl
@[simp] theorem s_tru {t : TED} {env : En} {S : Store} {Q : Bool → Store → Prop} {E : EX} : dTru t env S Q E = t env S (fun x S1 => truD S1 x fun b => Q b S1) E := nr rfl
@[simp] theorem s_and {t u : TTD} {env : En} {S : Store} {Q : Bool → Store → Prop} {E : EX} : dAnd t u env S Q E = t env S (fun c S1 => if c = true then u env S1 Q E else Q false S1) E := nr rfl
@[simp] theorem s_or {t u : TTD} {env : En} {S : Store} {Q : Bool → Store → Prop} {E : EX} : dOr t u env S Q E = t env S (fun c S1 => if c = true then Q true S1 else u env S1 Q E) E := nr rfl
@[simp] theorem s_not {t : TTD} {env : En} {S : Store} {Q : Bool → Store → Prop} {E : EX} : dNot t env S Q E = t env S (fun c S1 => Q (!c) S1) E := nr rfl
@[simp] theorem s_andV {ta tb : TED} {env : En} {S : Store} {Q : QD} {E : EX} : dAndV ta tb env S Q E = ta env S (fun x S1 => condB x (tb env S1 Q E) (Q (.bl false) S1)) E := nr rfl
@[simp] theorem s_orV {ta tb : TED} {env : En} {S : Store} {Q : QD} {E : EX} : dOrV ta tb env S Q E = ta env S (fun x S1 => condB x (Q (.bl true) S1) (tb env S1 Q E)) E := nr rfl
@[simp] theorem s_notV {ta : TED} {env : En} {S : Store} {Q : QD} {E : EX} : dNotV ta env S Q E = ta env S (fun x S1 => onB x fun c => Q (.bl (!c)) S1) E := nr rfl
@[simp] theorem s_if {t : TTD} {ta tb : TED} {env : En} {S : Store} {Q : QD} {E : EX} : dIf t ta tb env S Q E = t env S (fun c S1 => if c = true then ta env S1 Q E else tb env S1 Q E) E := nr rfl
@[simp] theorem s_nil {env : En} {S : Store} {Q : List D → Store → Prop} {E : EX} : dNil env S Q E = Q [] S := nr rfl
@[simp] theorem s_cons {ta : TED} {t : TAD} {env : En} {S : Store} {Q : List D → Store → Prop} {E : EX} : dCons ta t env S Q E = ta env S (fun x S1 => t env S1 (fun xs S2 => Q (x :: xs) S2) E) E := nr rfl
@[simp] theorem s_tup {t : TAD} {env : En} {S : Store} {Q : QD} {E : EX} : dTup t env S Q E = t env S (fun xs S1 => xs.length ≤ sizeLine ∧ Q (.tup xs) S1) E := nr rfl
@[simp] theorem s_lst {t : TAD} {env : En} {S : Store} {Q : QD} {E : EX} : dLst t env S Q E = t env S (fun xs S1 => xs.length ≤ sizeLine ∧ Q (.lst xs) S1) E := nr rfl
@[simp] theorem s_neg {ta : TED} {env : En} {S : Store} {Q : QD} {E : EX} : dNeg ta env S Q E = ta env S (fun x S1 => match x with
  | .int i => Q (.int (-i)) S1
  | _ => False) E := nr rfl
@[simp] theorem s_cb {f : CallO} {t : TAD} {env : En} {S : Store} {Q : QD} {E : EX} : dCB f t env S Q E = t env S (fun xs S1 => f xs S1 fun d => Q d S1) E := nr rfl
@[simp] theorem s_itS {t : TED} {env : En} {S : Store} {Q : List D → Store → Prop} {E : EX} : dItS t env S Q E = t env S (fun x S1 => match x with
  | .lst ds => Q ds S1
  | .tup ds => Q ds S1
  | .scr ns => Q (ns.map D.int) S1
  | .str z => Q (signsD z) S1
  | _ => False) E := nr rfl
@[simp] theorem s_rng1 {t : TAD} {env : En} {S : Store} {Q : List D → Store → Prop} {E : EX} : dRng1 t env S Q E = t env S (fun xs S1 => match xs with
  | [.int j] => (-(2 ^ 62) ≤ j ∧ j < 2 ^ 62) ∧ Q (rngD 0 j.toNat) S1
  | _ => False) E := nr rfl
@[simp] theorem s_rng2 {t : TAD} {env : En} {S : Store} {Q : List D → Store → Prop} {E : EX} : dRng2 t env S Q E = t env S (fun xs S1 => match xs with
  | [.int i, .int j] => (-(2 ^ 62) ≤ i ∧ i < 2 ^ 62 ∧ -(2 ^ 62) ≤ j ∧ j < 2 ^ 62) ∧ Q (rngD i (j - i).toNat) S1
  | _ => False) E := nr rfl
@[simp] theorem s_lc {ti : TAD} {own : List Nat} {g : GD} {tt : TTD} {te : TED} {env : En} {S : Store} {Q : QD} {E : EX} : dLc ti own g tt te env S Q E = ti env S (fun items S1 => lcD g tt te (wipeD env own) (fun acc S2 => Q (.lst acc) S2) items [] S1) E := nr rfl
@[simp] theorem s_yes {env : En} {S : Store} {Q : Bool → Store → Prop} {E : EX} : dYes env S Q E = Q true S := nr rfl
@[simp] theorem s_newL {t : TAD} {env : En} {S : Store} {Q : QD} {E : EX} : dNewL t env S Q E = t env S (fun xs S1 => xs.length ≤ sizeLine ∧ Q (.loc S1.length) (S1 ++ [.lst xs])) E := nr rfl
@[simp] theorem s_part {t : TED} {env : En} {S : Store} {Q : Option Int → Store → Prop} {E : EX} : dPart t env S Q E = t env S (fun x S1 => match x with
  | .int i => Q (some i) S1
  | _ => False) E := nr rfl
@[simp] theorem s_nop {env : En} {S : Store} {Q : Option Int → Store → Prop} {E : EX} : dNoP env S Q E = Q none S := nr rfl
@[simp] theorem s_slice {te : TED} {tl th : TOD} {env : En} {S : Store} {Q : QD} {E : EX} : dSlice te tl th env S Q E = te env S (fun x S1 => tl env S1 (fun lo S2 => th env S2 (fun hi S3 => sliceV x lo hi fun d => Q d S3) E) E) E := nr rfl
@[simp] theorem s_rev {te : TED} {env : En} {S : Store} {Q : QD} {E : EX} : dRev te env S Q E = te env S (fun x S1 => match x with
  | .tup xs => Q (.tup xs.reverse) S1
  | _ => False) E := nr rfl
@[simp] theorem s_m1 {f : OpD} {to te : TED} {env : En} {S : Store} {Q : QD} {E : EX} : dM1 f to te env S Q E = to env S (fun x S1 => (∃ a, x = .str a) ∧ te env S1 (fun y S2 => f x y S2 fun d => Q d S2) E) E := nr rfl
@[simp] theorem s_call {n : Nat} {c : SpD} {t : TAD} {env : En} {S : Store} {Q : QD} {E : EX} : dCall n c t env S Q E = t env S (fun xs S1 => xs.length = n ∧ c (xs.map Va.d) S1 Q E) E := nr rfl
@[simp] theorem s_app {tx te : TED} {D : DE} {env : En} {S : Store} : dApp tx te D env S = tx env S (fun x S1 => cellL S1 x fun _ _ => te env S1 (fun y S2 => cellL S2 x fun n xs => xs.length < sizeLine ∧ D.nx env (S2.set n (.lst (xs ++ [y])))) (fun x S1 => D.ex x env S1)) (fun x S1 => D.ex x env S1) := nr rfl
@[simp] theorem s_setIx {te tx ti : TED} {D : DE} {env : En} {S : Store} : dSetIx te tx ti D env S = te env S (fun y S1 => tx env S1 (fun x S2 => ti env S2 (fun i S3 => cellL S3 x fun n xs => match i with
  | .int i => (match ixN xs.length i with
    | some j => D.nx env (S3.set n (.lst (xs.set j y)))
    | none => False)
  | _ => False) (fun x S1 => D.ex x env S1)) (fun x S1 => D.ex x env S1)) (fun x S1 => D.ex x env S1) := nr rfl
@[simp] theorem s_dnew {env : En} {S : Store} {Q : QD} {E : EX} : dDNew env S Q E = Q (.loc S.length) (S ++ [.dct []]) := nr rfl
@[simp] theorem s_done {x : Str} {tv : TED} {env : En} {S : Store} {Q : QD} {E : EX} : dDOne x tv env S Q E = tv env (S ++ [.dct []]) (fun d S1 => S1[S.length]? = some (.dct []) ∧ Q (.loc S.length) (S1.set S.length (.dct [(.inr x, d)]))) E := nr rfl
@[simp] theorem s_dput {te tx ti : TED} {D : DE} {env : En} {S : Store} : dDPut te tx ti D env S = te env S (fun y S1 => tx env S1 (fun x S2 => ti env S2 (fun i S3 => cellK S3 x fun n kvs => match keyD i with
  | some k => kvs.length < sizeLine ∧ D.nx env (S3.set n (.dct (putD kvs k y)))
  | none => False) (fun x S1 => D.ex x env S1)) (fun x S1 => D.ex x env S1)) (fun x S1 => D.ex x env S1) := nr rfl
@[simp] theorem s_dget2 {tx ti td : TED} {env : En} {S : Store} {Q : QD} {E : EX} : dDGet2 tx ti td env S Q E = tx env S (fun x S1 => cellK S1 x fun _ _ => ti env S1 (fun i S2 => td env S2 (fun z S3 => cellK S3 x fun n kvs => match keyD i with
  | some k => Q ((getD kvs k).getD z) S3
  | none => False) E) E) E := nr rfl
@[simp] theorem key_s {x : Str} : keyD (.str x) = some (.inr x) := nr rfl
@[simp] theorem key_i {x : Int} : keyD (.int x) = some (.inl x) := nr rfl
@[simp] theorem cellK_ {n : Nat} {S : Store} {k : Nat → List (Key × D) → Prop} : cellK S (.loc n) k = (match S[n]? with
    | some (.dct xs) => k n xs
    | _ => False) := nr rfl
@[simp] theorem tru_str {S : Store} {y : Str} {k : Bool → Prop} : truD S (.str y) k = (y.length ≤ sizeLine ∧ k ((y.length : Int) != 0)) := nr rfl
@[simp] theorem in_s {neg : Bool} {x y : Str} {S : Store} {k : D → Prop} : inD neg (.str x) (.str y) S k = (∃ c, x = ⟨#[c]⟩ ∧ k (.bl (decide (c ∈ y.cps.toList) != neg))) := nr rfl
@[simp] theorem s_onB {b : Bool} {k : Bool → Prop} : onB (.bl b) k = k b := nr rfl
@[simp] theorem s_condB {b : Bool} {p q : Prop} : condB (.bl b) p q = (if b = true then p else q) := nr rfl
@[simp] theorem tru_bl {S : Store} {b : Bool} {k : Bool → Prop} : truD S (.bl b) k = k b := nr rfl
@[simp] theorem tru_int {S : Store} {i : Int} {k : Bool → Prop} : truD S (.int i) k = k (i != 0) := nr rfl
@[simp] theorem tru_non {S : Store} {k : Bool → Prop} : truD S .non k = k false := nr rfl
@[simp] theorem tru_tup {S : Store} {xs : List D} {k : Bool → Prop} : truD S (.tup xs) k = k (!xs.isEmpty) := nr rfl
@[simp] theorem tru_lst {S : Store} {xs : List D} {k : Bool → Prop} : truD S (.lst xs) k = k (!xs.isEmpty) := nr rfl
@[simp] theorem add_ii {i j : Int} {S : Store} {k : D → Prop} : addD (.int i) (.int j) S k = k (.int (i + j)) := nr rfl
@[simp] theorem add_ss {i j : Str} {S : Store} {k : D → Prop} : addD (.str i) (.str j) S k = (i.length + j.length ≤ sizeLine ∧ k (.str (i ++ j))) := nr rfl
@[simp] theorem add_tt {i j : List D} {S : Store} {k : D → Prop} : addD (.tup i) (.tup j) S k = (i.length + j.length ≤ sizeLine ∧ k (.tup (i ++ j))) := nr rfl
@[simp] theorem add_ll {i j : List D} {S : Store} {k : D → Prop} : addD (.lst i) (.lst j) S k = (i.length + j.length ≤ sizeLine ∧ k (.lst (i ++ j))) := nr rfl
@[simp] theorem sub_ii {i j : Int} {S : Store} {k : D → Prop} : subD (.int i) (.int j) S k = k (.int (i - j)) := nr rfl
@[simp] theorem mul_ii {i j : Int} {S : Store} {k : D → Prop} : mulD (.int i) (.int j) S k = (CMulA i j ∧ k (.int (i * j))) := nr rfl
@[simp] theorem mul_si {i : Str} {j : Int} {S : Store} {k : D → Prop} : mulD (.str i) (.int j) S k = (MulOk i j ∧ k (.str (Txt.mul i j))) := nr rfl
@[simp] theorem mul_ti {xs : List D} {n : Int} {S : Store} {k : D → Prop} : mulD (.tup xs) (.int n) S k = ((xs ≠ [] ∧ 2 ≤ n ∧ n ≤ 1000 ∧ xs.length ≤ 1000) ∧ k (.tup (repsD n.toNat xs))) := nr rfl
@[simp] theorem mul_li {xs : List D} {n : Int} {S : Store} {k : D → Prop} : mulD (.lst xs) (.int n) S k = ((0 ≤ n ∧ n ≤ 1000 ∧ xs.length ≤ 1000) ∧ k (.lst (repsD n.toNat xs))) := nr rfl
@[simp] theorem fdiv_ii {i j : Int} {S : Store} {k : D → Prop} : fdivD (.int i) (.int j) S k = (CDivW i j ∧ k (.int (i / j))) := nr rfl
@[simp] theorem mod_ii {i j : Int} {S : Store} {k : D → Prop} : modD (.int i) (.int j) S k = (0 < j ∧ k (.int (i % j))) := nr rfl
@[simp] theorem pow_ii {i j : Int} {S : Store} {k : D → Prop} : powD (.int i) (.int j) S k = (CPow i j ∧ k (.int (i ^ j.toNat))) := nr rfl
@[simp] theorem cmp_ii {p : Int → Int → Bool} {q : List Nat → List Nat → Bool} {i j : Int} {S : Store} {k : D → Prop} : cmpD p q (.int i) (.int j) S k = k (.bl (p i j)) := nr rfl
@[simp] theorem eq_ii {i j : Int} {S : Store} {k : D → Prop} : eqD (.int i) (.int j) S k = k (.bl (decide (i = j))) := by simp [eqD]
@[simp] theorem eq_ss {i j : Str} {S : Store} {k : D → Prop} : eqD (.str i) (.str j) S k = (PyData.strOk i = true ∧ PyData.strOk j = true ∧ k (.bl (decide (i = j)))) := by simp [eqD]
@[simp] theorem ne_ii {i j : Int} {S : Store} {k : D → Prop} : neD (.int i) (.int j) S k = k (.bl (!decide (i = j))) := by simp [neD]
@[simp] theorem ne_ss {i j : Str} {S : Store} {k : D → Prop} : neD (.str i) (.str j) S k = (PyData.strOk i = true ∧ PyData.strOk j = true ∧ k (.bl (!decide (i = j)))) := by simp [neD]
@[simp] theorem is_nn {b : Bool} {S : Store} {k : D → Prop} : isD b .non .non S k = k (.bl (!b)) := nr rfl
@[simp] theorem is_bb {b x y : Bool} {S : Store} {k : D → Prop} : isD b (.bl x) (.bl y) S k = k (.bl (decide (x = y) != b)) := nr rfl
@[simp] theorem is_in {b : Bool} {i : Int} {S : Store} {k : D → Prop} : isD b (.int i) .non S k = k (.bl b) := nr rfl
@[simp] theorem is_sn {b : Bool} {i : Str} {S : Store} {k : D → Prop} : isD b (.str i) .non S k = k (.bl b) := nr rfl
@[simp] theorem is_tn {b : Bool} {i : List D} {S : Store} {k : D → Prop} : isD b (.tup i) .non S k = k (.bl b) := nr rfl
@[simp] theorem is_ln {b : Bool} {i : List D} {S : Store} {k : D → Prop} : isD b (.lst i) .non S k = k (.bl b) := nr rfl
@[simp] theorem in_l {neg : Bool} {x : D} {ys : List D} {S : Store} {k : D → Prop} : inD neg x (.lst ys) S k = (inOk x ys ∧ k (.bl ((ys.any fun z => z.eqb x) != neg))) := nr rfl
@[simp] theorem in_t {neg : Bool} {x : D} {ys : List D} {S : Store} {k : D → Prop} : inD neg x (.tup ys) S k = (inOk x ys ∧ k (.bl ((ys.any fun z => z.eqb x) != neg))) := nr rfl
@[simp] theorem flat_int {i : Int} : D.flat (.int i) = true := nr rfl
@[simp] theorem flat_str {i : Str} : D.flat (.str i) = true := nr rfl
@[simp] theorem flat_non : D.flat .non = true := nr rfl
@[simp] theorem flat_bl {b : Bool} : D.flat (.bl b) = true := nr rfl
@[simp] theorem inOk_of {x : D} {ys : List D} (h1 : x.flat = true) (h2 : ys.all D.flat = true) : inOk x ys = True := eq_true (.inl ⟨h1, h2⟩)
theorem inOk_pl {x : D} {ys : List D} {n : Nat} (hn : n ≤ 60) (h1 : x.pl n = true) (h2 : D.pls n ys = true) : inOk x ys := by
  obtain ⟨a1, a2⟩ := pl_lay n x h1
  exact .inr ⟨a1, by omega, (pls_lay n ys h2).1⟩
@[simp] theorem ix_t {xs : List D} {i : Int} {S : Store} {k : D → Prop} : ixD (.tup xs) (.int i) S k = atD xs i k := nr rfl
@[simp] theorem ix_l {xs : List D} {i : Int} {S : Store} {k : D → Prop} : ixD (.lst xs) (.int i) S k = atD xs i k := nr rfl
@[simp] theorem ix_loc {n : Nat} {i : Int} {S : Store} {k : D → Prop} : ixD (.loc n) (.int i) S k = (match S[n]? with
    | some (.lst xs) => atD xs i k
    | _ => False) := nr rfl
@[simp] theorem at_ {xs : List D} {i : Int} {k : D → Prop} : atD xs i k = (match atI xs i with
  | some d => k d
  | none => False) := nr rfl
@[simp] theorem len_t {xs : List D} {S : Store} {k : D → Prop} : lenD [.tup xs] S k = k (.int xs.length) := nr rfl
@[simp] theorem len_l {xs : List D} {S : Store} {k : D → Prop} : lenD [.lst xs] S k = k (.int xs.length) := nr rfl
@[simp] theorem len_scr {xs : List Int} {S : Store} {k : D → Prop} : lenD [.scr xs] S k = k (.int xs.length) := nr rfl
@[simp] theorem len_s {x : Str} {S : Store} {k : D → Prop} : lenD [.str x] S k = (x.length ≤ sizeLine ∧ k (.int x.length)) := nr rfl
@[simp] theorem abs_i {i : Int} {S : Store} {k : D → Prop} : absD [.int i] S k = k (.int (if i < 0 then -i else i)) := nr rfl
@[simp] theorem int_i {i : Int} {S : Store} {k : D → Prop} : intD [.int i] S k = k (.int i) := nr rfl
@[simp] theorem int_b {b : Bool} {S : Store} {k : D → Prop} : intD [.bl b] S k = k (.int (if b then 1 else 0)) := nr rfl
@[simp] theorem int_s {z : Str} {S : Store} {k : D → Prop} : intD [.str z] S k = (∃ n, PySem.intText? z = some n ∧ z.length ≤ 640 ∧ k (.int n)) := nr rfl
@[simp] theorem str_i {i : Int} {S : Store} {k : D → Prop} : strD [.int i] S k = (i.natAbs.log2 < 1920 ∧ k (.str (toString i))) := nr rfl
@[simp] theorem str_s {a : Str} {S : Store} {k : D → Prop} : strD [.str a] S k = k (.str a) := nr rfl
@[simp] theorem bool_b {b : Bool} {S : Store} {k : D → Prop} : boolD [.bl b] S k = k (.bl b) := nr rfl
@[simp] theorem list_t {xs : List D} {S : Store} {k : D → Prop} : listD [.tup xs] S k = k (.lst xs) := nr rfl
@[simp] theorem list_l {xs : List D} {S : Store} {k : D → Prop} : listD [.lst xs] S k = k (.lst xs) := nr rfl
@[simp] theorem tuple_t {xs : List D} {S : Store} {k : D → Prop} : tupleD [.tup xs] S k = k (.tup xs) := nr rfl
@[simp] theorem tuple_l {xs : List D} {S : Store} {k : D → Prop} : tupleD [.lst xs] S k = k (.tup xs) := nr rfl
@[simp] theorem tuple_loc {n : Nat} {S : Store} {k : D → Prop} : tupleD [.loc n] S k = (match S[n]? with
    | some (.lst ds) => k (.tup ds)
    | _ => False) := nr rfl
@[simp] theorem list_loc {n : Nat} {S : Store} {k : D → Prop} : listD [.loc n] S k = (match S[n]? with
    | some (.lst ds) => k (.lst ds)
    | _ => False) := nr rfl
@[simp] theorem isi_ {x : D} {c : String} {S : Store} {k : D → Prop} : isiD [x, .ty c] S k = (match x.tn with
    | some n => c ∈ ["int", "bool", "str", "tuple", "list"] ∧ k (.bl (isTn n c))
    | none => False) := nr rfl
@[simp] theorem sum_l {ds : List D} {S : Store} {k : D → Prop} : sumD [.lst ds] S k = (match intsOf ds with
    | some ns => k (.int ns.sum)
    | none => False) := nr rfl
@[simp] theorem max_ii {i j : Int} {S : Store} {k : D → Prop} : maxD [.int i, .int j] S k = k (.int (if j > i then j else i)) := nr rfl
@[simp] theorem min_ii {i j : Int} {S : Store} {k : D → Prop} : minD [.int i, .int j] S k = k (.int (if j < i then j else i)) := nr rfl
@[simp] theorem slice_t {xs : List D} {lo hi : Option Int} {k : D → Prop} : sliceV (.tup xs) lo hi k = k (.tup (cutD xs lo hi)) := nr rfl
@[simp] theorem slice_l {xs : List D} {lo hi : Option Int} {k : D → Prop} : sliceV (.lst xs) lo hi k = k (.lst (cutD xs lo hi)) := nr rfl
@[simp] theorem slice_s {z : Str} {lo hi : Option Int} {k : D → Prop} : sliceV (.str z) lo hi k = (z.length ≤ sizeLine ∧ k (.str (Txt.slice z lo hi))) := nr rfl
@[simp] theorem tn_int {i : Int} : D.tn (.int i) = some "int" := nr rfl
@[simp] theorem tn_bl {b : Bool} : D.tn (.bl b) = some "bool" := nr rfl
@[simp] theorem tn_str {b : Str} : D.tn (.str b) = some "str" := nr rfl
@[simp] theorem tn_non : D.tn .non = some "NoneType" := nr rfl
@[simp] theorem tn_tup {xs : List D} : D.tn (.tup xs) = some "tuple" := nr rfl
@[simp] theorem tn_lst {xs : List D} : D.tn (.lst xs) = some "list" := nr rfl
@[simp] theorem cell_ {n : Nat} {S : Store} {k : Nat → List D → Prop} : cellL S (.loc n) k = (match S[n]? with
    | some (.lst xs) => k n xs
    | _ => False) := nr rfl

/-! ### loops -/
/-- a for: what holds ahead of each turn -/
theorem forD_inv {g : GD} {tb : TSD} {D0 : DE} (I : List D → En → Store → Prop) (hn : ∀ env S, I [] env S → D0.nx env S)
    (hs : ∀ x xs env S (K : En → Store → Prop), (∀ env S, I xs env S → K env S) → I (x :: xs) env S → g x env fun env1 => tb { D0 with nx := K, ct := K, bk := D0.nx } env1 S) : ∀ xs env S, I xs env S → forD g tb D0 xs env S
  | [], env, S, h => hn env S h
  | x :: xs, env, S, h => hs x xs env S (forD g tb D0 xs) (fun env S h => forD_inv I hn hs xs env S h) h
/-- a comprehension: what holds ahead of each turn -/
theorem lcD_inv {g : GD} {tt : TTD} {te : TED} {env : En} {k : List D → Store → Prop} (I : List D → List D → Store → Prop) (hn : ∀ acc S, I [] acc S → k acc S)
    (hs : ∀ x xs acc S (K : List D → Store → Prop), (∀ acc S, I xs acc S → K acc S) → I (x :: xs) acc S → g x env fun env1 => tt env1 S (fun b S1 => if b = true then te env1 S1 (fun y S2 => acc.length < sizeLine ∧ K (acc ++ [y]) S2) noE else K acc S1) noE) :
    ∀ xs acc S, I xs acc S → lcD g tt te env k xs acc S
  | [], acc, S, h => hn acc S h
  | x :: xs, acc, S, h => hs x xs acc S (lcD g tt te env k xs) (fun acc S h => lcD_inv I hn hs xs acc S h) h
/-- a comprehension without an if: a map; the store stays -/
theorem lcD_map {g : GD} {te : TED} {env : En} {k : List D → Store → Prop} {S : Store} (f : D → D) : ∀ xs acc, acc.length + xs.length ≤ sizeLine → (∀ x ∈ xs, ∀ Q : QD, Q (f x) S → g x env fun env1 => te env1 S Q noE) → k (acc ++ xs.map f) S → lcD g dYes te env k xs acc S
  | [], acc, hl, ht, h => by simpa [lcD] using h
  | x :: xs, acc, hl, ht, h => by
    unfold lcD
    simp only [s_yes, if_true]
    refine ht x List.mem_cons_self _ ⟨by simp at hl; omega, ?_⟩
    refine lcD_map f xs _ (by simp at hl ⊢; omega) (fun y hy => ht y (List.mem_cons_of_mem _ hy)) (by simpa using h)
/-- a while: what holds ahead of each turn, and a number that gets less -/
theorem whileD_inv {c : TTD} {tb : TSD} {D0 : DE} (I : En → Store → Prop) (m : En → Store → Nat)
    (hs : ∀ env S (K : En → Store → Prop), (∀ env' S', I env' S' → m env' S' < m env S → K env' S') → I env S → c env S (fun b S1 => if b = true then tb { D0 with nx := K, ct := K, bk := D0.nx } env S1 else D0.nx env S1) (fun x S1 => D0.ex x env S1))
    {env : En} {S : Store} (h : I env S) : dWhile c tb D0 env S := by
  have go : ∀ n env S, I env S → m env S < n → whileN c tb D0 n env S := by
    intro n
    induction n with
    | zero => intro env S _ h; omega
    | succ n ih =>
      intro env S hI hm
      exact hs env S (whileN c tb D0 n) (fun env' S' h1 h2 => ih env' S' h1 (by omega)) hI
  exact ⟨m env S + 1, go _ env S h (by omega)⟩
end Fs
end
section
set_option Elab.async false
set_option linter.all false
set_option maxRecDepth 100000
set_option maxHeartbeats 4000000
namespace Fs
open PySem PySem.Spec PyProof.Rows L2 LamX

/-! ### draws -/
/-- the n-th object is what draws are taken from -/
def SrcOk (S : Store) (n : Nat) : Prop := ∃ a b : Int, S[n]? = some (.lst [.int a, .int b]) ∧ 0 ≤ a ∧ 0 ≤ b ∧ b < 4294967296
/-- the n-th object is turned on -/
def SrcTo (S : Store) (n : Nat) (S' : Store) : Prop := ∃ a b : Int, 0 ≤ a ∧ 0 ≤ b ∧ b < 4294967296 ∧ S' = S.set n (.lst [.int a, .int b])
theorem SrcOk.lt {S : Store} {n : Nat} (h : SrcOk S n) : n < S.length := by
  obtain ⟨a, b, h, _⟩ := h
  exact (List.getElem?_eq_some_iff.mp h).1
theorem SrcOk.to {S S' : Store} {n : Nat} (h : SrcOk S n) (t : SrcTo S n S') : SrcOk S' n := by
  obtain ⟨a, b, h1, h2, h3, rfl⟩ := t
  exact ⟨a, b, List.getElem?_set_self h.lt, h1, h2, h3⟩
theorem SrcTo.trans {S S1 S2 : Store} {n : Nat} (t : SrcTo S n S1) (u : SrcTo S1 n S2) : SrcTo S n S2 := by
  obtain ⟨a, b, h1, h2, h3, rfl⟩ := t
  obtain ⟨c, d, k1, k2, k3, rfl⟩ := u
  exact ⟨c, d, k1, k2, k3, by rw [List.set_set]⟩
theorem SrcOk.refl {S : Store} {n : Nat} (h : SrcOk S n) : SrcTo S n S := by
  obtain ⟨a, b, h, h1, h2, h3⟩ := h
  obtain ⟨hl, e⟩ := List.getElem?_eq_some_iff.mp h
  exact ⟨a, b, h1, h2, h3, by rw [← e, List.set_getElem_self]⟩
theorem SrcTo.len {S S' : Store} {n : Nat} (t : SrcTo S n S') : S'.length = S.length := by
  obtain ⟨a, b, _, _, _, rfl⟩ := t
  rw [List.length_set]
theorem cmulr {i j : Int} (h1 : -(2 ^ 64) < j) (h2 : j < 2 ^ 64) : CMulA i j := .inr (.inr ⟨h1, h2⟩)
theorem cmull {i j : Int} (h1 : -(2 ^ 64) < i) (h2 : i < 2 ^ 64) : CMulA i j := .inr (.inl ⟨h1, h2⟩)
theorem cdiv_lt {i j : Int} (h1 : 0 < j) (h2 : j < 2 ^ 64) : CDivW i j := by
  refine ⟨h1, ?_⟩
  by_cases h : j.natAbs = 0
  · rw [h]; decide
  · have : j.natAbs.log2 < 64 := (Nat.log2_lt h).mpr (by omega)
    omega
theorem cpow_s {i : Int} {j : Nat} (h : i.natAbs < 2 ^ 64) (hj : j ≤ 1000000) : CPow i j := ⟨by omega, by omega, h⟩
@[simp] theorem sizeLine_eq : sizeLine = 16777216 := rfl
@[simp] theorem ixN_0 {n : Nat} : ixN (n + 1) 0 = some 0 := by simp [ixN]
@[simp] theorem ixN_1 {n : Nat} : ixN (n + 2) 1 = some 1 := by
  unfold ixN
  rw [if_pos (by omega), if_pos (by omega)]
  rfl

def t__law_source : TSD :=
  (dSeq (dAsg (dIf (dTest (dBin ltD (dVar 1) (dCB lenD (dCons (dVar 0) dNil)))) (dCB absD (dCons (dCB intD (dCons (dBin ixD (dVar 0) (dVar 1)) dNil)) dNil)) (dBin addD (dBin mulD (dC (.int 137)) (dVar 1)) (dC (.int 73)))) (gN 2))
  (dRet (dNewL (dCons (dIf (dTest (dBin gtD (dVar 2) (dBin powD (dC (.int 10)) (dC (.int 17))))) (dVar 2) (dC (.int 0))) (dCons (dBin modD (dCB intD (dCons (dBin addD (dBin addD (dBin mulD (dVar 2) (dC (.int 16807))) (dBin mulD (dC (.int 10069)) (dVar 1))) (dC (.int 97))) dNil)) (dC (.int 2147483229))) dNil)))))
def sp__law_source : SpD := fun as S Q _ => ∃ (ns : List Int) (k : Nat), as = [.d (.scr ns), .d (.int k)] ∧ k ≤ 100 ∧ ∀ S', SrcOk S' S.length → (∃ c, S' = S ++ [c]) → Q (.loc S.length) S'
theorem sp__law_source_mono : MonoSp sp__law_source := fun as S Q Q' E E' hq he ⟨ns, k, h1, h2, h3⟩ => ⟨ns, k, h1, h2, fun S' h h' => hq _ _ (h3 S' h h')⟩
theorem p__law_source (as : List Va) (S : Store) (Q : QD) (E : EX) (h : sp__law_source as S Q E) : t__law_source (rtE Q E) (startD 3 as) S := by
  obtain ⟨ns, k, rfl, hk, hq⟩ := h
  have fin : ∀ c : Int, 0 ≤ c → Q (.loc S.length) (S ++ [.lst [.int (if c > 100000000000000000 then c else 0), .int ((c * 16807 + 10069 * k + 97) % 2147483229)]]) := fun c hc => by
    refine hq _ ⟨_, _, by rw [List.getElem?_append_right (Nat.le_refl _), Nat.sub_self]; rfl, by split <;> omega, Int.emod_nonneg _ (by decide), ?_⟩ ⟨_, rfl⟩
    have := Int.emod_lt_of_pos (c * 16807 + 10069 * k + 97) (by decide : (0 : Int) < 2147483229)
    omega
  have p17 : CPow 10 17 := ⟨by decide, by decide, by decide⟩
  have m1 : ∀ c : Int, CMulA c 16807 := fun c => cmulr (by decide) (by decide)
  have m2 : ∀ c : Int, CMulA 10069 c := fun c => cmull (by decide) (by decide)
  have m3 : ∀ c : Int, CMulA 137 c := fun c => cmull (by decide) (by decide)
  by_cases h1 : k < ns.length
  · have e : ixD (.scr ns) (.int k) S = fun q => q (.int ns[k]) := by
      funext q
      simp [ixD, atI, ixN, h1]
    have f := fin (if ns[k] < 0 then -ns[k] else ns[k]) (by split <;> omega)
    by_cases h2 : 100000000000000000 < (if ns[k] < 0 then -ns[k] else ns[k])
    · simp [h2] at f
      simp [t__law_source, h1, e, p17, m1, m2, h2]
      exact f
    · simp [h2] at f
      simp [t__law_source, h1, e, p17, m1, m2, h2]
      exact f
  · have f := fin (137 * k + 73) (by omega)
    have h2 : ¬ (100000000000000000 < 137 * (k : Int) + 73) := by omega
    simp [h2] at f
    simp [t__law_source, h1, p17, m1, m2, m3, h2]
    exact f

def t__law_draw : TSD :=
  (dSeq (dIfS (dTest (dBin gtD (dBin ixD (dVar 0) (dC (.int 0))) (dC (.int 0))))
    (dSeq (dAsg (dBin modD (dCB intD (dCons (dBin ixD (dVar 0) (dC (.int 0))) dNil)) (dVar 1)) (gN 2))
    (dSeq (dSetIx (dBin fdivD (dBin ixD (dVar 0) (dC (.int 0))) (dVar 1)) (dVar 0) (dC (.int 0)))
    (dRet (dVar 2))))
    dNext)
  (dSeq (dSetIx (dBin modD (dCB intD (dCons (dBin addD (dBin mulD (dBin ixD (dVar 0) (dC (.int 1))) (dC (.int 48271))) (dC (.int 89))) dNil)) (dC (.int 2147483229))) (dVar 0) (dC (.int 1)))
  (dSeq (dAsg (dBin modD (dCB intD (dCons (dBin mulD (dBin ixD (dVar 0) (dC (.int 1))) (dBin addD (dBin fdivD (dBin ixD (dVar 0) (dC (.int 1))) (dC (.int 43))) (dC (.int 28)))) dNil)) (dC (.int 2147483179))) (gN 3))
  (dRet (dBin modD (dCB intD (dCons (dBin fdivD (dVar 3) (dC (.int 32))) dNil)) (dVar 1))))))
def sp__law_draw : SpD := fun as S Q _ => ∃ (n m : Nat), as = [.d (.loc n), .d (.int m)] ∧ 0 < m ∧ m < 4294967296 ∧ SrcOk S n ∧ ∀ (r : Nat) S', r < m → SrcTo S n S' → Q (.int r) S'
theorem sp__law_draw_mono : MonoSp sp__law_draw := fun as S Q Q' E E' hq he ⟨n, m, h1, h2, h3, h4, h5⟩ => ⟨n, m, h1, h2, h3, h4, fun r S' h h' => hq _ _ (h5 r S' h h')⟩
theorem p__law_draw (as : List Va) (S : Store) (Q : QD) (E : EX) (h : sp__law_draw as S Q E) : t__law_draw (rtE Q E) (startD 4 as) S := by
  obtain ⟨n, m, rfl, hm, hm2, ok, hq⟩ := h
  have hl := ok.lt
  obtain ⟨a, b, hs, ha, hb, hb2⟩ := ok
  have fin : ∀ (x : Int) S', SrcTo S n S' → Q (.int (x % m)) S' := fun x S' t => by
    have h1 := Int.emod_nonneg x (by omega : (m : Int) ≠ 0)
    have h2 := Int.emod_lt_of_pos x (by omega : (0 : Int) < m)
    have := hq (x % m).toNat S' (by omega) t
    rwa [Int.toNat_of_nonneg h1] at this
  have set_get : ∀ (l : Store) (c : Cell), n < l.length → (l.set n c)[n]? = some c := fun l c h => List.getElem?_set_self h
  simp [t__law_draw, hs]
  have d1 : CDivW a m := cdiv_lt (by omega) (by omega)
  by_cases h1 : 0 < a
  · simp [h1, hs, d1, hm]
    exact fin a _ ⟨a / m, b, Int.ediv_nonneg ha (by omega), hb, hb2, rfl⟩
  · have m1 : ∀ x : Int, CMulA x 48271 := fun x => cmulr (by decide) (by decide)
    have c1 : ∀ x : Int, CDivW x 43 := fun x => cdiv_lt (by decide) (by decide)
    have c2 : ∀ x : Int, CDivW x 32 := fun x => cdiv_lt (by decide) (by decide)
    have r1 := Int.emod_nonneg (b * 48271 + 89) (by decide : (2147483229 : Int) ≠ 0)
    have r2 := Int.emod_lt_of_pos (b * 48271 + 89) (by decide : (0 : Int) < 2147483229)
    have m2 : ∀ x : Int, CMulA ((b * 48271 + 89) % 2147483229) x := fun x => cmull (by omega) (by omega)
    simp [h1, hs, hl, m1, set_get, c1, c2, m2, hm]
    exact fin _ _ ⟨a, _, ha, r1, by omega, rfl⟩

def t__law_choice : TSD :=
  (dRet (dBin ixD (dVar 1) (dCall 2 sp__law_draw (dCons (dVar 0) (dCons (dCB lenD (dCons (dVar 1) dNil)) dNil)))))
def sp__law_choice : SpD := fun as S Q _ => ∃ (n : Nat) (xs : List D), as = [.d (.loc n), .d (.lst xs)] ∧ xs ≠ [] ∧ xs.length < 1000000 ∧ SrcOk S n ∧ ∀ x S', x ∈ xs → SrcTo S n S' → Q x S'
theorem sp__law_choice_mono : MonoSp sp__law_choice := fun as S Q Q' E E' hq he ⟨n, m, h1, h2, h3, h4, h5⟩ => ⟨n, m, h1, h2, h3, h4, fun r S' h h' => hq _ _ (h5 r S' h h')⟩
theorem p__law_choice (as : List Va) (S : Store) (Q : QD) (E : EX) (h : sp__law_choice as S Q E) : t__law_choice (rtE Q E) (startD 2 as) S := by
  obtain ⟨n, xs, rfl, hx, hx2, ok, hq⟩ := h
  simp [t__law_choice]
  have : 0 < xs.length := List.length_pos_iff.mpr hx
  refine ⟨n, xs.length, by simp, this, by omega, ok, fun r S' hr t => ?_⟩
  have e : atI xs (r : Int) = some xs[r] := by simp [atI, ixN, hr]
  simp [e]
  exact hq _ _ (List.getElem_mem _) t
end Fs
end
section
set_option Elab.async false
set_option linter.all false
set_option maxRecDepth 100000
set_option maxHeartbeats 4000000
namespace Fs
open PySem PySem.Spec PyProof.Rows L2 LamX

/-! ### steps -/
inductive Way where
  | away | even | high | low | near | zero
  deriving DecidableEq
def Way.s : Way → String
  | .away => "away" | .even => "even" | .high => "high" | .low => "low" | .near => "near" | .zero => "zero"
inductive St1 where
  | turn | tens (k : Nat) | figs (k : Nat) (w : Way) | steps (u : Nat) (w : Way)
  deriving DecidableEq
def St1.d : St1 → D
  | .turn => .tup [.str "turn"]
  | .tens k => .tup [.str "tens", .int k]
  | .figs k w => .tup [.str "figures", .int k, .str w.s]
  | .steps u w => .tup [.str "steps", .int u, .str w.s]
def sizesN : List Nat := [1, 2, 5, 10, 20, 50, 100, 200, 500, 1000, 2000, 5000, 10000, 20000, 50000, 100000, 200000, 500000, 1000000]
def St1.ok : St1 → Prop
  | .turn => True
  | .tens k => 1 ≤ k ∧ k ≤ 3
  | .figs k _ => 1 ≤ k ∧ k ≤ 3
  | .steps u _ => u ∈ sizesN
def chD (c : List St1) : D := .tup (c.map St1.d)
def ChOk (c : List St1) : Prop := c.length ≤ 4 ∧ ∀ s ∈ c, s.ok
theorem way_mem (w : Way) : Str.ofString w.s ∈ waysL := by cases w <;> decide +kernel
theorem way_of {y : Str} (h : y ∈ waysL) : ∃ w : Way, y = Str.ofString w.s := by
  simp only [waysL, List.mem_cons, List.not_mem_nil, or_false] at h
  rcases h with e | e | e | e | e | e
  · exact ⟨.away, e⟩
  · exact ⟨.even, e⟩
  · exact ⟨.high, e⟩
  · exact ⟨.low, e⟩
  · exact ⟨.near, e⟩
  · exact ⟨.zero, e⟩
theorem size_of {i : Int} (h : i ∈ sizesL) : ∃ u : Nat, i = u ∧ u ∈ sizesN := by
  have e : sizesL = sizesN.map fun (n : Nat) => (n : Int) := by decide
  rw [e] at h
  obtain ⟨u, h1, h2⟩ := List.mem_map.mp h
  exact ⟨u, h2.symm, h1⟩
theorem size_mem {u : Nat} (h : u ∈ sizesN) : (u : Int) ∈ sizesL := by
  have e : sizesL = sizesN.map fun (n : Nat) => (n : Int) := by decide
  rw [e]
  exact List.mem_map.mpr ⟨u, h, rfl⟩
theorem size_b {u : Nat} (h : u ∈ sizesN) : 1 ≤ u ∧ u ≤ 1000000 := by
  have : ∀ u ∈ sizesN, 1 ≤ u ∧ u ≤ 1000000 := by decide
  exact this u h
theorem isWh_iff {v : D} {lo hi : Int} : isWh v lo hi = true ↔ ∃ i, v = .int i ∧ lo ≤ i ∧ i ≤ hi := by
  cases v <;> simp [isWh]
theorem goodStep_iff {d : D} : goodStep d = true ↔ ∃ s : St1, s.ok ∧ d = s.d := by
  constructor
  · intro h
    unfold goodStep at h
    split at h
    · rename_i w
      have h := of_decide_eq_true h
      exact ⟨.turn, trivial, by rw [h]; rfl⟩
    · rename_i w a
      rw [Bool.and_eq_true, decide_eq_true_eq, isWh_iff] at h
      obtain ⟨h1, i, rfl, h2, h3⟩ := h
      refine ⟨.tens i.toNat, ⟨by omega, by omega⟩, ?_⟩
      rw [h1]
      simp [St1.d]
      omega
    · rename_i w a y
      simp only [Bool.and_eq_true, Bool.or_eq_true, Bool.not_eq_true', decide_eq_true_eq, decide_eq_false_iff_not, isWh_iff] at h
      obtain ⟨⟨⟨h1, h2⟩, h3⟩, h4⟩ := h
      obtain ⟨y, rfl⟩ := way_of h3
      rcases h4 with ⟨h4, i, rfl, h5, h6⟩ | ⟨⟨h4, i, rfl, h5, h6⟩, h7⟩
      · refine ⟨.figs i.toNat y, ⟨by omega, by omega⟩, ?_⟩
        rw [h4]
        simp [St1.d]
        omega
      · have h7 : i ∈ sizesL := by simpa [inSz] using h7
        obtain ⟨u, rfl, hu⟩ := size_of h7
        exact ⟨.steps u y, hu, by rw [h4]; rfl⟩
    · cases h
  · rintro ⟨s, hs, rfl⟩
    cases s with
    | turn => simp [St1.d, goodStep]
    | tens k =>
      have := hs.1; have := hs.2
      simp [St1.d, goodStep, isWh]; omega
    | figs k w =>
      have := hs.1; have := hs.2
      have hw := way_mem w
      simp [St1.d, goodStep, isWh, hw]; omega
    | steps u w =>
      have hs : u ∈ sizesN := hs
      have hw := way_mem w
      have := size_b hs
      have hi := size_mem hs
      simp [St1.d, goodStep, isWh, hw, inSz, hi]; omega
theorem goodChain_iff {d : D} : goodChain d = true ↔ ∃ c, ChOk c ∧ d = chD c := by
  constructor
  · intro h
    cases d with
    | tup ds =>
      simp only [goodChain, Bool.and_eq_true, decide_eq_true_eq, List.all_eq_true] at h
      obtain ⟨h1, h2⟩ := h
      have : ∀ ds : List D, (∀ d ∈ ds, goodStep d = true) → ∃ c : List St1, (∀ s ∈ c, s.ok) ∧ ds = c.map St1.d := by
        intro ds
        induction ds with
        | nil => intro _; exact ⟨[], by simp, rfl⟩
        | cons d ds ih =>
          intro h
          obtain ⟨s, hs, e⟩ := goodStep_iff.mp (h d List.mem_cons_self)
          obtain ⟨c, hc, e2⟩ := ih fun x hx => h x (List.mem_cons_of_mem _ hx)
          exact ⟨s :: c, by simpa using ⟨hs, hc⟩, by rw [e, e2]; rfl⟩
      obtain ⟨c, hc, e⟩ := this ds h2
      exact ⟨c, ⟨by rw [e, List.length_map] at h1; exact h1, hc⟩, by rw [e]; rfl⟩
    | _ => cases h
  · rintro ⟨c, ⟨h1, h2⟩, rfl⟩
    simp only [chD, goodChain, Bool.and_eq_true, decide_eq_true_eq, List.all_eq_true, List.length_map]
    refine ⟨h1, fun x hx => ?_⟩
    obtain ⟨s, hs, rfl⟩ := List.mem_map.mp hx
    exact goodStep_iff.mpr ⟨s, h2 s hs, rfl⟩
theorem St1.pl (s : St1) : s.d.pl 1 = true := by
  cases s <;> simp [St1.d, D.pl, D.pls]
mutual
theorem pl_mono {m n : Nat} (h : m ≤ n) : ∀ d : D, D.pl m d = true → D.pl n d = true
  | .non, _ => by cases n <;> rfl
  | .bl _, _ => by cases n <;> rfl
  | .int _, _ => by cases n <;> rfl
  | .str x, q => by
    have q : PyData.strOk x = true := by cases m <;> exact q
    cases n <;> exact q
  | .tup ds, q => by
    cases m with
    | zero => cases q
    | succ m =>
      cases n with
      | zero => omega
      | succ n => exact pls_mono (by omega) ds q
  | .lst ds, q => by
    cases m with
    | zero => cases q
    | succ m =>
      cases n with
      | zero => omega
      | succ n => exact pls_mono (by omega) ds q
  | .ref _, q => by cases m <;> cases q
  | .ty _, q => by cases m <;> cases q
  | .loc _, q => by cases m <;> cases q
  | .lam _, q => by cases m <;> cases q
  | .scr _, q => by cases m <;> cases q
theorem pls_mono {m n : Nat} (h : m ≤ n) : ∀ ds : List D, D.pls m ds = true → D.pls n ds = true
  | [], _ => by simp [D.pls]
  | d :: ds, q => by
    simp only [D.pls, Bool.and_eq_true] at q ⊢
    exact ⟨pl_mono h d q.1, pls_mono h ds q.2⟩
end
theorem ChOk.pl {c : List St1} : (chD c).pl 2 = true := by
  show D.pls 1 (c.map St1.d) = true
  refine pls_of fun d hd => ?_
  obtain ⟨s, _, rfl⟩ := List.mem_map.mp hd
  exact s.pl

/-  -/
def t__law_ways : TSD :=
  (dRet (dLst (dCons (dC (.str "away")) (dCons (dC (.str "even")) (dCons (dC (.str "high")) (dCons (dC (.str "low")) (dCons (dC (.str "near")) (dCons (dC (.str "zero")) dNil))))))))
def sp__law_ways : SpD := fun as S Q _ => as = [] ∧ Q (.lst (waysL.map D.str)) S
theorem sp__law_ways_mono : MonoSp sp__law_ways := fun as S Q Q' E E' hq he ⟨h1, h2⟩ => ⟨h1, hq _ _ h2⟩
theorem p__law_ways (as : List Va) (S : Store) (Q : QD) (E : EX) (h : sp__law_ways as S Q E) : t__law_ways (rtE Q E) (startD 0 as) S := by
  obtain ⟨rfl, hq⟩ := h
  simp [t__law_ways]
  exact hq

def t__law_step : TSD :=
  (dSeq (dAsg (dCall 2 sp__law_choice (dCons (dVar 0) (dCons (dLst (dCons (dC (.str "figures")) (dCons (dC (.str "figures")) (dCons (dC (.str "figures")) (dCons (dC (.str "steps")) (dCons (dC (.str "steps")) (dCons (dC (.str "tens")) (dCons (dC (.str "turn")) dNil)))))))) dNil))) (gN 1))
  (dSeq (dIfS (dTest (dBin eqD (dVar 1) (dC (.str "turn"))))
    (dRet (dTup (dCons (dC (.str "turn")) dNil)))
    dNext)
  (dSeq (dIfS (dTest (dBin eqD (dVar 1) (dC (.str "tens"))))
    (dRet (dTup (dCons (dVar 1) (dCons (dBin addD (dC (.int 1)) (dCall 2 sp__law_draw (dCons (dVar 0) (dCons (dC (.int 3)) dNil)))) dNil))))
    dNext)
  (dSeq (dAsg (dCall 2 sp__law_choice (dCons (dVar 0) (dCons (dCall 0 sp__law_ways dNil) dNil))) (gN 2))
  (dSeq (dIfS (dTest (dBin eqD (dVar 1) (dC (.str "figures"))))
    (dRet (dTup (dCons (dVar 1) (dCons (dCall 2 sp__law_choice (dCons (dVar 0) (dCons (dLst (dCons (dC (.int 1)) (dCons (dC (.int 1)) (dCons (dC (.int 1)) (dCons (dC (.int 1)) (dCons (dC (.int 1)) (dCons (dC (.int 2)) (dCons (dC (.int 2)) (dCons (dC (.int 2)) (dCons (dC (.int 2)) (dCons (dC (.int 3)) dNil))))))))))) dNil))) (dCons (dVar 2) dNil)))))
    dNext)
  (dRet (dTup (dCons (dVar 1) (dCons (dCall 2 sp__law_choice (dCons (dVar 0) (dCons (dLst (dCons (dC (.int 1)) (dCons (dC (.int 2)) (dCons (dC (.int 5)) (dCons (dC (.int 10)) (dCons (dC (.int 10)) (dCons (dC (.int 20)) (dCons (dC (.int 50)) (dCons (dC (.int 50)) (dCons (dC (.int 100)) (dCons (dC (.int 200)) (dCons (dC (.int 500)) (dCons (dC (.int 5000)) (dCons (dBin powD (dC (.int 10)) (dC (.int 6))) dNil)))))))))))))) dNil))) (dCons (dVar 2) dNil))))))))))
def sp__law_step : SpD := fun as S Q _ => ∃ (n : Nat), as = [.d (.loc n)] ∧ SrcOk S n ∧ ∀ (s : St1) S', s.ok → SrcTo S n S' → Q s.d S'
theorem sp__law_step_mono : MonoSp sp__law_step := fun as S Q Q' E E' hq he ⟨n, h1, h2, h3⟩ => ⟨n, h1, h2, fun r S' h h' => hq _ _ (h3 r S' h h')⟩
theorem p__law_step (as : List Va) (S : Store) (Q : QD) (E : EX) (h : sp__law_step as S Q E) : t__law_step (rtE Q E) (startD 3 as) S := by
  obtain ⟨n, rfl, ok, hq⟩ := h
  simp [t__law_step]
  refine ⟨n, _, rfl, by simp, by simp, ok, fun x S1 hx t1 => ?_⟩
  have ok1 := ok.to t1
  have rest : ∀ (w : Str) (S2 : Store) (a : Str), S2 = S1 → True := fun _ _ _ _ => trivial
  simp only [List.mem_cons, List.not_mem_nil, or_false] at hx
  have hw : x = .str "figures" ∨ x = .str "steps" ∨ x = .str "tens" ∨ x = .str "turn" := by
    rcases hx with e | e | e | e | e | e | e <;> simp [e]
  rcases hw with rfl | rfl | rfl | rfl
  · simp
    refine ⟨rfl, n, _, rfl, by decide, by decide, ok1, fun x S2 hx t2 => ?_⟩
    have ok2 := ok1.to t2
    obtain ⟨y, hy, rfl⟩ := List.mem_map.mp hx
    obtain ⟨w, rfl⟩ := way_of hy
    simp
    refine ⟨n, _, rfl, by simp, by simp, ok2, fun x S3 hx t3 => ?_⟩
    simp only [List.mem_cons, List.not_mem_nil, or_false] at hx
    have hk : ∃ k : Nat, x = .int k ∧ 1 ≤ k ∧ k ≤ 3 := by
      rcases hx with e | e | e | e | e | e | e | e | e | e <;> first | exact ⟨1, e, by decide, by decide⟩ | exact ⟨2, e, by decide, by decide⟩ | exact ⟨3, e, by decide, by decide⟩
    obtain ⟨k, rfl, hk⟩ := hk
    exact hq (.figs k w) S3 hk ((t1.trans t2).trans t3)
  · simp
    refine ⟨rfl, n, _, rfl, by decide, by decide, ok1, fun x S2 hx t2 => ?_⟩
    have ok2 := ok1.to t2
    obtain ⟨y, hy, rfl⟩ := List.mem_map.mp hx
    obtain ⟨w, rfl⟩ := way_of hy
    simp
    refine ⟨cpow_six, n, _, rfl, by simp, by simp, ok2, fun x S3 hx t3 => ?_⟩
    simp only [List.mem_cons, List.not_mem_nil, or_false] at hx
    have hk : ∃ k : Nat, x = .int k ∧ k ∈ sizesN := by
      rcases hx with e | e | e | e | e | e | e | e | e | e | e | e | e
      · exact ⟨1, e, by decide⟩
      · exact ⟨2, e, by decide⟩
      · exact ⟨5, e, by decide⟩
      · exact ⟨10, e, by decide⟩
      · exact ⟨10, e, by decide⟩
      · exact ⟨20, e, by decide⟩
      · exact ⟨50, e, by decide⟩
      · exact ⟨50, e, by decide⟩
      · exact ⟨100, e, by decide⟩
      · exact ⟨200, e, by decide⟩
      · exact ⟨500, e, by decide⟩
      · exact ⟨5000, e, by decide⟩
      · exact ⟨1000000, e, by decide⟩
    obtain ⟨k, rfl, hk⟩ := hk
    exact hq (.steps k w) S3 hk ((t1.trans t2).trans t3)
  · simp
    refine ⟨n, 3, rfl, by decide, by decide, ok1, fun r S2 hr t2 => ?_⟩
    have := hq (.tens (1 + r)) S2 ⟨by omega, by omega⟩ (t1.trans t2)
    simpa [St1.d] using this
  · simp
    exact hq .turn S1 trivial t1

def t__law_chain : TSD :=
  (dRet (dCB tupleD (dCons (dLc (dRng1 (dCons (dCall 2 sp__law_draw (dCons (dVar 0) (dCons (dBin addD (dVar 1) (dC (.int 1))) dNil))) dNil)) [2] (gN 2) dYes (dCall 1 sp__law_step (dCons (dVar 0) dNil))) dNil)))
def sp__law_chain : SpD := fun as S Q _ => ∃ (n m : Nat), as = [.d (.loc n), .d (.int m)] ∧ m ≤ 4 ∧ SrcOk S n ∧ ∀ (c : List St1) S', c.length ≤ m → (∀ s ∈ c, s.ok) → SrcTo S n S' → Q (chD c) S'
theorem sp__law_chain_mono : MonoSp sp__law_chain := fun as S Q Q' E E' hq he ⟨n, m, h1, h2, h3, h4⟩ => ⟨n, m, h1, h2, h3, fun r S' h h' h'' => hq _ _ (h4 r S' h h' h'')⟩
theorem p__law_chain (as : List Va) (S : Store) (Q : QD) (E : EX) (h : sp__law_chain as S Q E) : t__law_chain (rtE Q E) (startD 3 as) S := by
  obtain ⟨n, m, rfl, hm, ok, hq⟩ := h
  simp [t__law_chain]
  refine ⟨n, m + 1, by simp, by omega, by omega, ok, fun r S1 hr t1 => ?_⟩
  simp
  refine ⟨by omega, lcD_inv (fun xs acc S' => ∃ c : List St1, acc = c.map St1.d ∧ (∀ s ∈ c, s.ok) ∧ c.length + xs.length ≤ m ∧ SrcTo S n S') ?_ ?_ _ _ _ ⟨[], rfl, by simp, by simp [rngD]; omega, t1⟩⟩
  · rintro acc S' ⟨c, rfl, h1, h2, h3⟩
    exact hq c S' (by simpa using h2) h1 h3
  · rintro x xs acc S' K hK ⟨c, rfl, h1, h2, h3⟩
    simp
    refine ⟨n, rfl, ok.to h3, fun s S2 hs t2 => ⟨by simp at h2; omega, hK _ _ ⟨c ++ [s], by simp, ?_, by simp at h2 ⊢; omega, h3.trans t2⟩⟩⟩
    intro s' hs'
    rcases List.mem_append.mp hs' with h | h
    · exact h1 s' h
    · rw [List.mem_singleton.mp h]; exact hs
end Fs
end
section
set_option Elab.async false
set_option linter.all false
set_option maxRecDepth 100000
set_option maxHeartbeats 4000000
namespace Fs
open PySem PySem.Spec PyProof.Rows L2 LamX

/-! ### a 1 and so many noughts; how many figures -/
theorem fold_rep (n : Nat) (acc : Array Nat) : (List.replicate n (#[48] : Array Nat)).foldl (· ++ ·) acc = acc ++ (List.replicate n 48).toArray := by
  induction n generalizing acc with
  | zero => simp
  | succ n ih =>
    rw [List.replicate_succ, List.foldl_cons, ih, List.replicate_succ]
    apply Array.ext'
    simp
theorem mul_zeros (n : Nat) : Txt.mul (Str.ofString "0") (n : Int) = SX.S (List.replicate n 48) := by
  have e0 : (Str.ofString "0").cps = #[48] := by decide +kernel
  unfold Txt.mul
  by_cases h : (n : Int) < 1
  · rw [if_pos h]
    have : n = 0 := by omega
    subst this
    rfl
  · rw [if_neg h]
    by_cases h1 : n = 1
    · subst h1
      simp
      exact congrArg Str.mk e0
    · have : ((n : Int) == 1 || (Str.ofString "0").length == 0) = false := by
        have e1 : (Str.ofString "0").length = 1 := by decide +kernel
        simp [e1]
        omega
      rw [if_neg (by rw [this]; decide), e0, fold_rep]
      apply congrArg Str.mk
      simp
theorem mulOk_zeros {n : Nat} (h : n ≤ 10000) : MulOk (Str.ofString "0") (n : Int) := by
  have e1 : (Str.ofString "0").length = 1 := by decide +kernel
  refine ⟨by simp; omega, fun h1 h2 => ?_, fun h1 h2 => ?_⟩
  · rw [e1]
    have : (1 : Int) ≤ (2 ^ 63 - 1) / n := by
      rw [Int.le_ediv_iff_mul_le (by omega)]
      omega
    generalize ((2 : Int) ^ 63 - 1) / n = z at this ⊢
    omega
  · rw [e1]
    unfold Builtin.Str.tooLong
    rw [sizeLine_eq]
    simp
    omega
theorem digits_ten (n : Nat) : NumText.digitsVal (49 :: List.replicate n 48) = 10 ^ n := by
  have : ∀ n acc, (List.replicate n 48).foldl (fun acc c => acc * 10 + (c - 48)) acc = acc * 10 ^ n := by
    intro n
    induction n with
    | zero => intro acc; simp
    | succ n ih =>
      intro acc
      rw [List.replicate_succ, List.foldl_cons, ih, Nat.pow_succ]
      simp [Nat.mul_assoc, Nat.mul_comm 10]
  unfold NumText.digitsVal
  rw [List.foldl_cons, this]
  simp
theorem one_zeros (n : Nat) : (Str.ofString "1" ++ SX.S (List.replicate n 48) : Str) = SX.S (49 :: List.replicate n 48) := by
  have e0 : (Str.ofString "1").cps = #[49] := by decide +kernel
  show Str.mk ((Str.ofString "1").cps ++ (List.replicate n 48).toArray) = _
  rw [e0]
  apply congrArg Str.mk
  simp
theorem int_ten {n : Nat} (h : n ≤ 600) : PySem.intText? (Str.ofString "1" ++ SX.S (List.replicate n 48)) = some ((10 ^ n : Nat) : Int) := by
  rw [one_zeros, SX.int_S (by simp [List.all_eq_true]) (by simp) (by simp; omega), digits_ten]
def t_ten_to : TSD :=
  (dRet (dCB intD (dCons (dBin addD (dC (.str "1")) (dBin mulD (dC (.str "0")) (dVar 0))) dNil)))
def sp_ten_to : SpD := fun as S Q _ => ∃ n : Nat, as = [.d (.int n)] ∧ n ≤ 600 ∧ Q (.int ((10 ^ n : Nat) : Int)) S
theorem sp_ten_to_mono : MonoSp sp_ten_to := fun as S Q Q' E E' hq he ⟨n, h1, h2, h3⟩ => ⟨n, h1, h2, hq _ _ h3⟩
theorem p_ten_to (as : List Va) (S : Store) (Q : QD) (E : EX) (h : sp_ten_to as S Q E) : t_ten_to (rtE Q E) (startD 1 as) S := by
  obtain ⟨n, rfl, hn, hq⟩ := h
  have e1 : (Str.ofString "1").length = 1 := by decide +kernel
  have e2 : (SX.S (List.replicate n 48)).length = n := by simp [SX.S, Str.length]
  have e3 : (Str.ofString "1" ++ SX.S (List.replicate n 48) : Str).length = n + 1 := by rw [one_zeros]; simp [SX.S, Str.length]
  simp [t_ten_to]
  rw [mul_zeros, e1, e2, e3, int_ten hn]
  refine ⟨mulOk_zeros (by omega), by omega, _, rfl, by omega, by simpa using hq⟩
abbrev sp__law_ten := sp_ten_to
abbrev sp__law_ten_mono := sp_ten_to_mono
def t__law_ten : TSD :=
  (dRet (dCB intD (dCons (dBin addD (dC (.str "1")) (dBin mulD (dC (.str "0")) (dVar 0))) dNil)))
theorem p__law_ten (as : List Va) (S : Store) (Q : QD) (E : EX) (h : sp__law_ten as S Q E) : t__law_ten (rtE Q E) (startD 1 as) S := p_ten_to as S Q E h
/-- how many figures a number has -/
def nd (n : Nat) : Nat := (TL.numL n).length
theorem str_len (n : Nat) : (Str.ofString (toString (n : Int))).length = nd n := by
  rw [SX.num_S]; simp [SX.S, Str.length, nd]
theorem nd_lt {n : Nat} (h : n < 10) : nd n = 1 := by unfold nd; rw [TL.numL_lt h]; rfl
theorem nd_step {n : Nat} (h : 10 ≤ n) : nd n = nd (n / 10) + 1 := by unfold nd; rw [TL.numL_step h]; simp
theorem nd_pos (n : Nat) : 1 ≤ nd n := by
  by_cases h : n < 10
  · rw [nd_lt h]; omega
  · rw [nd_step (by omega)]; omega
theorem nd_bounds : ∀ n : Nat, n < 10 ^ nd n ∧ (0 < n → 10 ^ (nd n - 1) ≤ n) := by
  intro n
  induction n using Nat.strongRecOn with
  | _ n ih =>
    by_cases h : n < 10
    · rw [nd_lt h]
      exact ⟨by simpa using h, fun h0 => by simp; omega⟩
    · have h : 10 ≤ n := by omega
      obtain ⟨a, b⟩ := ih (n / 10) (by omega)
      have b := b (by omega)
      have hp := nd_pos (n / 10)
      rw [nd_step h]
      refine ⟨?_, fun _ => ?_⟩
      · rw [Nat.pow_succ]; omega
      · have e : nd (n / 10) + 1 - 1 = (nd (n / 10) - 1) + 1 := by omega
        rw [e, Nat.pow_succ]
        omega
theorem nd_le {n k : Nat} (hk : 0 < k) (h : n < 10 ^ k) : nd n ≤ k := by
  by_cases h0 : n = 0
  · subst h0; rw [nd_lt (by omega)]; omega
  · have := (nd_bounds n).2 (by omega)
    have h2 : 10 ^ (nd n - 1) < 10 ^ k := by omega
    have := (Nat.pow_lt_pow_iff_right (by decide : 1 < 10)).mp h2
    omega
theorem nd_eq {n k : Nat} (h1 : 10 ^ k ≤ n) (h2 : n < 10 ^ (k + 1)) : nd n = k + 1 := by
  have a := nd_le (by omega) h2
  have b := (nd_bounds n).1
  have c : 10 ^ k < 10 ^ nd n := by omega
  have := (Nat.pow_lt_pow_iff_right (by decide : 1 < 10)).mp c
  omega
theorem nd_mono {m n : Nat} (h : m ≤ n) : nd m ≤ nd n := nd_le (nd_pos n) (by have := (nd_bounds n).1; omega)
theorem log_ten {n k : Nat} (hk : k ≤ 570) (h : n < 10 ^ k) : n.log2 < 1920 := by
  by_cases h0 : n = 0
  · subst h0; decide
  · refine (Nat.log2_lt h0).mpr (Nat.lt_of_lt_of_le h ?_)
    calc 10 ^ k ≤ 10 ^ 570 := Nat.pow_le_pow_right (by decide) hk
      _ ≤ 2 ^ 1920 := by decide +kernel
def t_length_of : TSD :=
  (dRet (dCB lenD (dCons (dCB strD (dCons (dVar 0) dNil)) dNil)))
def sp_length_of : SpD := fun as S Q _ => ∃ n : Nat, as = [.d (.int n)] ∧ n < 10 ^ 570 ∧ Q (.int (nd n)) S
theorem sp_length_of_mono : MonoSp sp_length_of := fun as S Q Q' E E' hq he ⟨n, h1, h2, h3⟩ => ⟨n, h1, h2, hq _ _ h3⟩
theorem p_length_of (as : List Va) (S : Store) (Q : QD) (E : EX) (h : sp_length_of as S Q E) : t_length_of (rtE Q E) (startD 1 as) S := by
  obtain ⟨n, rfl, hn, hq⟩ := h
  have e := str_len n
  simp only [t_length_of, s_ret, s_cb, s_cons, s_var, s_nil, s_start, List.map_cons, List.map_nil, List.length_cons, List.length_nil, Nat.zero_add, Nat.sub_self, List.replicate_zero, List.append_nil, List.getElem?_cons_zero, str_i, len_s, rt_rt]
  refine ⟨log_ten (k := 570) (by decide) (by rw [Int.natAbs_natCast]; exact hn), ?_, ?_⟩
  · rw [e]
    have := nd_le (by decide) hn
    simp; omega
  · rw [e]; exact hq
end Fs
end
section
set_option Elab.async false
set_option linter.all false
set_option maxRecDepth 100000
set_option maxHeartbeats 4000000
namespace Fs
open PySem PySem.Spec PyProof.Rows L2 LamX

/-! ### what the laws have in common: refusals -/
/-- the call raises what nm names by w, and leaves the store -/
def Refuses (rv : RV) (nm : Addr → Option D) (v : Va) (w : Str) (d : D) (S : Store) : Prop := rv.run v [d] S (fun _ _ => False) (fun x S1 => S1 = S ∧ ∃ C, x = .ref C ∧ nm C = some (.str w))
def t__law_refused (rv : RV) (rn__law_error : TED → TED) : TSD :=
  (dRet (dBin eqD (dLc (dItS (dVar 1)) [3] (gN 3) (dTest (dBin neD (rn__law_error (dCallV rv 0 (dCons (dVar 3) dNil))) (dVar 2))) (dVar 3)) (dLst dNil)))
def sp__law_refused (rv : RV) (nm : Addr → Option D) : SpD := fun as S Q _ => ∃ v ds w, as = [v, .d (.lst ds), .d (.str w)] ∧ PyData.strOk w = true ∧ w ≠ Str.ofString "" ∧ rv.ok v ∧ (∀ d ∈ ds, Refuses rv nm v w d S) ∧ Q (.bl true) S
theorem sp__law_refused_mono {rv : RV} {nm : Addr → Option D} : MonoSp (sp__law_refused rv nm) := fun as S Q Q' E E' hq he ⟨v, ds, w, h1, h2, h3, h4, h5, h6⟩ => ⟨v, ds, w, h1, h2, h3, h4, h5, hq _ _ h6⟩
theorem p__law_refused {rv : RV} {nm : Addr → Option D} (mr : MonoRv rv) (as : List Va) (S : Store) (Q : QD) (E : EX) (h : sp__law_refused rv nm as S Q E) : t__law_refused rv (dTold (fun _ => .str "") nm) (rtE Q E) (startD 4 as) S := by
  obtain ⟨v, ds, w, rfl, hw, hw2, hv, hr, hq⟩ := h
  simp [t__law_refused]
  refine lcD_inv (fun xs acc S' => acc = [] ∧ S' = S ∧ ∀ x ∈ xs, x ∈ ds) ?_ ?_ _ _ _ ⟨rfl, rfl, fun x h => h⟩
  · rintro acc S' ⟨rfl, rfl, _⟩
    refine ⟨pl_fit (n := 1) (by decide) (by simp [D.pl, D.pls]), pl_fit (n := 1) (by decide) (by simp [D.pl, D.pls]), ?_⟩
    rw [eqb_lnil]
    exact hq
  · rintro x xs acc S' K hK ⟨rfl, rfl, hx⟩
    simp [dTold, dCallV, hv]
    refine mr.mo _ _ _ _ _ _ _ (fun d S1 h => h.elim) (fun e S1 h => ?_) (hr x (hx x List.mem_cons_self))
    obtain ⟨rfl, C, rfl, hn⟩ := h
    simp [hn, hw]
    exact hK _ _ ⟨rfl, rfl, fun y hy => hx y (List.mem_cons_of_mem _ hy)⟩

def tups (l : List D) : D := .tup l
def stepsBad : List D := [.tup [.str "turn", .int 1]]
/-- values that are no chains -/
def badChains : List D := [.non, .lst [], .str "none", .int 1, .tup [.tup [.str "turn"], .tup [.str "turn"], .tup [.str "turn"], .tup [.str "turn"], .tup [.str "turn"]], .tup [.str "turn"], .tup [.lst [.str "turn"]], .tup [.tup [.str "turn", .int 1]],
  .tup [.tup [.str "tens", .int 0]], .tup [.tup [.str "tens", .int 4]], .tup [.tup [.str "figures", .int 4, .str "near"]], .tup [.tup [.str "figures", .int 0, .str "near"]], .tup [.tup [.str "figures", .bl true, .str "near"]], .tup [.tup [.str "steps", .int 3, .str "low"]],
  .tup [.tup [.str "figures", .int 1, .str "half"]], .tup [.tup [.str "figures", .int 1]], .tup [.tup [.str "steps", .int 2000000, .str "low"]], .tup [.tup [.str "steps", .int 10, .non]],
  .tup [.tup [.str "figures", .int 1, .str "near", .str "near"]], .tup [.tup [.str "tens", .bl true]], .tup [.tup [.str "tens", .int 1, .str "near"]], .tup [.tup [.str "TURN"]], .tup [.tup []]]
theorem bad_all : (badChains.all fun d => !goodChain d && d.pl 3) = true := by decide +kernel
theorem bad_of {d : D} (h : d ∈ badChains) : goodChain d = false ∧ d.pl 3 = true := by
  have := List.all_eq_true.mp bad_all d h
  simpa using this
def t__law_bad_chains : TSD :=
  (dSeq (dAsg (dLst (dCons (dC .non) (dCons (dLst dNil) (dCons (dC (.str "none")) (dCons (dC (.int 1)) (dCons (dBin mulD (dTup (dCons (dTup (dCons (dC (.str "turn")) dNil)) dNil)) (dC (.int 5))) (dCons (dTup (dCons (dC (.str "turn")) dNil)) (dCons (dTup (dCons (dLst (dCons (dC (.str "turn")) dNil)) dNil)) (dCons (dTup (dCons (dTup (dCons (dC (.str "turn")) (dCons (dC (.int 1)) dNil))) dNil)) (dCons (dTup (dCons (dTup (dCons (dC (.str "tens")) (dCons (dC (.int 0)) dNil))) dNil)) (dCons (dTup (dCons (dTup (dCons (dC (.str "tens")) (dCons (dC (.int 4)) dNil))) dNil)) dNil))))))))))) (gN 0))
  (dSeq (dAsg (dBin addD (dVar 0) (dLst (dCons (dTup (dCons (dTup (dCons (dC (.str "figures")) (dCons (dC (.int 4)) (dCons (dC (.str "near")) dNil)))) dNil)) (dCons (dTup (dCons (dTup (dCons (dC (.str "figures")) (dCons (dC (.int 0)) (dCons (dC (.str "near")) dNil)))) dNil)) (dCons (dTup (dCons (dTup (dCons (dC (.str "figures")) (dCons (dC (.bl true)) (dCons (dC (.str "near")) dNil)))) dNil)) (dCons (dTup (dCons (dTup (dCons (dC (.str "steps")) (dCons (dC (.int 3)) (dCons (dC (.str "low")) dNil)))) dNil)) dNil)))))) (gN 0))
  (dSeq (dAsg (dBin addD (dVar 0) (dLst (dCons (dTup (dCons (dTup (dCons (dC (.str "figures")) (dCons (dC (.int 1)) (dCons (dC (.str "half")) dNil)))) dNil)) (dCons (dTup (dCons (dTup (dCons (dC (.str "figures")) (dCons (dC (.int 1)) dNil))) dNil)) (dCons (dTup (dCons (dTup (dCons (dC (.str "steps")) (dCons (dBin mulD (dC (.int 2)) (dBin powD (dC (.int 10)) (dC (.int 6)))) (dCons (dC (.str "low")) dNil)))) dNil)) (dCons (dTup (dCons (dTup (dCons (dC (.str "steps")) (dCons (dC (.int 10)) (dCons (dC .non) dNil)))) dNil)) dNil)))))) (gN 0))
  (dRet (dBin addD (dVar 0) (dLst (dCons (dTup (dCons (dTup (dCons (dC (.str "figures")) (dCons (dC (.int 1)) (dCons (dC (.str "near")) (dCons (dC (.str "near")) dNil))))) dNil)) (dCons (dTup (dCons (dTup (dCons (dC (.str "tens")) (dCons (dC (.bl true)) dNil))) dNil)) (dCons (dTup (dCons (dTup (dCons (dC (.str "tens")) (dCons (dC (.int 1)) (dCons (dC (.str "near")) dNil)))) dNil)) (dCons (dTup (dCons (dTup (dCons (dC (.str "TURN")) dNil)) dNil)) (dCons (dTup (dCons (dTup dNil) dNil)) dNil)))))))))))
def sp__law_bad_chains : SpD := fun as S Q _ => as = [] ∧ Q (.lst badChains) S
theorem sp__law_bad_chains_mono : MonoSp sp__law_bad_chains := fun as S Q Q' E E' hq he ⟨h1, h2⟩ => ⟨h1, hq _ _ h2⟩
theorem p__law_bad_chains (as : List Va) (S : Store) (Q : QD) (E : EX) (h : sp__law_bad_chains as S Q E) : t__law_bad_chains (rtE Q E) (startD 1 as) S := by
  obtain ⟨rfl, hq⟩ := h
  have m2 : ∀ c : Int, CMulA 2 c := fun c => cmull (by decide) (by decide)
  simp [t__law_bad_chains, cpow_six, m2]
  exact hq
end Fs
end
section
set_option Elab.async false
set_option linter.all false
set_option maxRecDepth 100000
set_option maxHeartbeats 4000000
namespace Fs
open PySem PySem.Spec PyProof.Rows L2 LamX

/-! ### from a law's facts to the promises of its defs -/
structure LW (fa : List He.Fa) (fn : List He.DefD) (tf : List He.Defn) (ex : PySem.W.Frag → Bool) (w : World) (h : Heap) (K : PySem.W.Frag) (mg : Str → Option Value) (base : Heap) : Prop where
  c : He.SaysX fa fn [] tf ex w h K
  kb : K.In base
  nb : base.Ns mainGlobals mg
  tb : ∀ p ∈ tf, TabB base mg (He.cT K p).1 (He.cT K p).2
/-- a def's facts -/
structure DefF (K : PySem.W.Frag) (mg : Str → Option Value) (x : Str) (params : Arguments) (body : List Stmt) (sc : Scope) : Prop where
  mg : mg x = some (.ref (He.ga K x))
  fn : ∃ fd, FunD K x x params body sc [] [] (He.ga K x) fd
section
variable {fa : List He.Fa} {fn : List He.DefD} {tf : List He.Defn} {ex : PySem.W.Frag → Bool} {w : World} {h : Heap} {K : PySem.W.Frag} {mg : Str → Option Value} {base : Heap} {G : Wd} {k : Nat}
theorem LW.glo (L : LW fa fn tf ex w h K mg base) {x : Str} (j : Nat) (hj : fa[j]? = some (.glo x)) : mg x = some (.ref (He.ga K x)) := He.glo_ok L.kb L.nb (L.c.t.d.fact j hj)
theorem LW.def_ (L : LW fa fn tf ex w h K mg base) {x : Str} {params : Arguments} {body : List Stmt} {sc : Scope} (i j : Nat) (hi : fn[i]? = some ⟨(x, none), x, x, params, body, sc, [], []⟩) (hj : fa[j]? = some (.glo x)) : DefF K mg x params body sc :=
  ⟨L.glo j hj, L.c.t.d.def_ i hi⟩
theorem gok_nil : GOk G k [] := fun x e h => by cases h
/-- an entry of a table -/
def EOk (G : Wd) (k : Nat) (x : Str) : GE → Prop
  | .val d => ∃ u v, G.mg x = some u ∧ RelV v u ∧ ∀ A H, Rep G.K A H d v
  | .fn n c => GFn G k n x c
  | .fv f n c => G.mg x = some (.ref f) ∧ FnD G k n f c
  | .run j r => j + 2 ≤ k ∧ Runner G j x r
  | .exc C => G.mg x = some (.ref C) ∧ ExcD G C
  | .blt => G.mg x = none
theorem gok_cons {x : Str} {e : GE} {gl : List (Str × GE)} (h : EOk G k x e) (t : GOk G k gl) : GOk G k ((x, e) :: gl) := fun y e' hy => by
  unfold List.lookup at hy
  split at hy
  · rename_i hb
    have eb := beq_iff_eq.mp hb
    subst eb
    cases hy
    cases e <;> exact h
  · exact t y e' hy
theorem eok_blt {x : Str} (h : G.mg x = none) : EOk G k x .blt := h
theorem eok_fn {x : Str} {n j : Nat} {c : SpD} (h : GFn G j n x c) (hk : j ≤ k) : EOk G k x (.fn n c) := let ⟨f, h1, h2⟩ := h; ⟨f, h1, h2.mono hk⟩
theorem eok_run {x : Str} {j : Nat} {r : TED → TED} (hk : j + 2 ≤ k) (h : Runner G j x r) : EOk G k x (.run j r) := ⟨hk, h⟩
theorem GFn.up {j n : Nat} {x : Str} {c : SpD} (h : GFn G j n x c) (hk : j ≤ k) : GFn G k n x c := let ⟨f, h1, h2⟩ := h; ⟨f, h1, h2.mono hk⟩
theorem GFn.at_ {n : Nat} {x : Str} {c : SpD} {f : Addr} (h : GFn G k n x c) (hm : G.mg x = some (.ref f)) : FnD G k n f c := by
  obtain ⟨f', h1, h2⟩ := h
  rw [hm] at h1
  cases h1
  exact h2
theorem eok_fv {x : Str} {n j : Nat} {c : SpD} {f : Addr} (hm : G.mg x = some (.ref f)) (h : GFn G j n x c) (hk : j ≤ k) : EOk G k x (.fv f n c) := ⟨hm, (h.up hk).at_ hm⟩
/-- THE STEP of a wiring: a def's text, read, keeps its promise -/
theorem gfn_by {x : Str} {params : Arguments} {body : List Stmt} {sc : Scope} (F : DefF G.K G.mg x params body sc) {N ps : List Str} (S : C8.scC N ps sc = true) {n fu : Nat} (hn : ps.length = n)
    (hb : ∀ (kV doc pm : Value) (an : Option Addr) (cdv ct : Value) (us : List Value), us.length = ps.length → bindArgs (PySem.W.fnOf x x params body sc .none kV doc pm an cdv ct) ⟨us, []⟩ = pure (ps.zip us))
    {gl : List (Str × GE)} {mu dc : List Str} (go : GOk G k gl) {t : TSD} (ht : cSs { N := N, sc := sc, gl := gl, mu := mu, dc := dc } fu body = some t) {c : SpD} (mo : MonoSp c) (hp : ∀ as S Q E, c as S Q E → t (rtE Q E) (startD N.length as) S) : GFn G (k + 1) n x c := by
  obtain ⟨fd, hF⟩ := F.fn
  exact ⟨_, F.mg, fnd_by hF (C8.fnScope_by S) hn hb rfl rfl rfl (cOk_of go) (lamDef_no rfl) ht mo fun as S Q E _ h => hp as S Q E h⟩
/-- .. that makes objects of its own -/
theorem gfn_byG {x : Str} {params : Arguments} {body : List Stmt} {sc : Scope} (F : DefF G.K G.mg x params body sc) {N ps : List Str} (S : C8.scC N ps sc = true) {n fu : Nat} (hn : ps.length = n)
    (hb : ∀ (kV doc pm : Value) (an : Option Addr) (cdv ct : Value) (us : List Value), us.length = ps.length → bindArgs (PySem.W.fnOf x x params body sc .none kV doc pm an cdv ct) ⟨us, []⟩ = pure (ps.zip us))
    {gl : List (Str × GE)} {mu dc : List Str} (go : GOk G k gl) {t : TSD} (ht : cSs { N := N, sc := sc, gl := gl, mu := mu, dc := dc } fu body = some t) {c : SpD} (mo : MonoSp c) (hp : ∀ as S Q E, c as S Q E → t (rtE (Pur S Q) E) (startD N.length as) S) : GFn G (k + 1) n x c := by
  obtain ⟨fd, hF⟩ := F.fn
  exact ⟨_, F.mg, fnd_byG hF (C8.fnScope_by S) hn hb rfl rfl rfl (cOk_of go) (lamDef_no rfl) ht mo fun as S Q E _ h => hp as S Q E h⟩
/-- .. that calls values -/
theorem gfn_byL {x : Str} {params : Arguments} {body : List Stmt} {sc : Scope} (F : DefF G.K G.mg x params body sc) {N ps : List Str} (S : C8.scC N ps sc = true) {n fu : Nat} (hn : ps.length = n)
    (hb : ∀ (kV doc pm : Value) (an : Option Addr) (cdv ct : Value) (us : List Value), us.length = ps.length → bindArgs (PySem.W.fnOf x x params body sc .none kV doc pm an cdv ct) ⟨us, []⟩ = pure (ps.zip us))
    {cc : CC} (hN : cc.N = N) (hsc : cc.sc = sc) (hh : cc.hot = none) (go : COk G k cc) (L : ∀ fd, FunD G.K x x params body sc [] [] (He.ga G.K x) fd → LamDef G fd x cc) {t : TSD} (ht : cSs cc fu body = some t) {c : SpD} (mo : MonoSp c) (hp : ∀ as S Q E, c as S Q E → t (rtE Q E) (startD N.length as) S) : GFn G (k + 1) n x c := by
  obtain ⟨fd, hF⟩ := F.fn
  exact ⟨_, F.mg, fnd_by hF (C8.fnScope_by S) hn hb hN hsc hh go (L fd hF) ht mo fun as S Q E _ h => hp as S Q E h⟩
/-- never called: nothing is promised -/
def spNo : SpD := fun _ _ _ _ => False
theorem spNo_mono : MonoSp spNo := fun _ _ _ _ _ _ _ _ h => h
theorem gfn_no {x : Str} {params : Arguments} {body : List Stmt} {sc : Scope} (F : DefF G.K G.mg x params body sc) {N ps : List Str} (S : C8.scC N ps sc = true) {n : Nat} (hn : ps.length = n)
    (hb : ∀ (kV doc pm : Value) (an : Option Addr) (cdv ct : Value) (us : List Value), us.length = ps.length → bindArgs (PySem.W.fnOf x x params body sc .none kV doc pm an cdv ct) ⟨us, []⟩ = pure (ps.zip us)) : GFn G (k + 1) n x spNo := by
  obtain ⟨fd, hF⟩ := F.fn
  refine ⟨_, F.mg, fnd_of (t := fun _ _ _ => False) hF (C8.fnScope_by S) hn hb spNo_mono (fun X W dc hq tk hc => ⟨⟨fun pins s σ H D I q => ?_⟩, fun _ _ _ _ _ h => h⟩) fun as S Q E _ h => h.elim⟩
  obtain ⟨A, S, env, _, _, q⟩ := q
  exact q.elim
/-! constants -/
theorem eok_int (X : K.In base) (N : base.Ns mainGlobals mg) {x : Str} {i : Int} (c : (He.Fa.int x i).ok K = true) {P : Program} {tl} : EOk ⟨P, w, K, mg, base, tl⟩ k x (.val (.int i)) := by
  obtain ⟨t, ht⟩ := He.int_ok X N c
  exact ⟨_, .int i, ht, ⟨t, rfl⟩, fun A H => rfl⟩
theorem eok_str (X : K.In base) (N : base.Ns mainGlobals mg) {x z : Str} (c : (He.Fa.str x z).ok K = true) {P : Program} {tl} : EOk ⟨P, w, K, mg, base, tl⟩ k x (.val (.str z)) := by
  obtain ⟨t, ht⟩ := He.str_ok X N c
  exact ⟨_, .str z, ht, ⟨t, rfl⟩, fun A H => rfl⟩
def dvD : He.Dv → D
  | .bl b => .bl b
  | .int i => .int i
  | .str x => .str x
  | _ => .non
def dvP : He.Dv → Bool
  | .bl _ | .int _ | .str _ | .non => true
  | _ => false
theorem reps_dv {K' : PySem.W.Frag} {A : Ad} {H : Hp} : ∀ {l : List He.Dv}, l.all dvP = true → Reps K A H (l.map dvD) (l.map (He.Dv.v K'))
  | [], _ => rfl
  | d :: l, h => by
    rw [List.all_cons, Bool.and_eq_true] at h
    refine ⟨d.v K', _, rfl, ?_, reps_dv h.2⟩
    cases d <;> first | rfl | (exact absurd h.1 (by simp [dvP]))
theorem eok_tup {x : Str} (hm : mg x = some (.ref (He.ga K x))) {l : List He.Dv} (hp : l.all dvP = true) (c : He.tupB K x l = true) {P : Program} {tl} : EOk ⟨P, w, K, mg, base, tl⟩ k x (.val (.tup (l.map dvD))) := by
  refine ⟨_, .ref (He.ga K x), hm, rfl, fun A H => ⟨_, _, rfl, .inr ?_, reps_dv (K' := K) hp⟩⟩
  rcases He.tupB_ok c (fun _ => none) with (h | ⟨_, h⟩) | h
  · cases h
  · cases h
  · exact h
theorem eok_ref {x : Str} (hm : mg x = some (.ref (He.ga K x))) {P : Program} {tl} : EOk ⟨P, w, K, mg, base, tl⟩ k x (.val (.ref (He.ga K x))) := ⟨_, .ref _, hm, rfl, fun A H => rfl⟩
theorem eok_exc {x : Str} (hm : mg x = some (.ref (He.ga K x))) (c : (He.Fa.exc x).ok K = true) {P : Program} {tl} : EOk ⟨P, w, K, mg, base, tl⟩ k x (.exc (He.ga K x)) := by
  obtain ⟨h1, h2, h3, h4⟩ := He.exc_ok c
  exact ⟨hm, ⟨h1, h2, h3, h4⟩⟩
/-! lambdas -/
def uniqB (tf : List He.Defn) (K : PySem.W.Frag) : Bool := tf.all fun p => tf.all fun q => !(decide ((He.cT K p).2 = (He.cT K q).2)) || decide (p.1 = q.1)
theorem LW.lam (L : LW fa fn tf ex w h K mg base) (u : uniqB tf K = true) {x : Str} (hx : (x, none) ∈ tf) {P : Program} {params : Arguments} {body : List Stmt} {sc : Scope} {cc : CC} (hq : ∀ q, cc.lq = some q → x ++ ".<locals>." ++ "<lambda>" = q) :
    ∀ fd, FunD K x x params body sc [] [] (He.ga K x) fd → LamDef ⟨P, w, K, mg, base, tabsOf K tf⟩ fd x cc := by
  intro fd hF q e
  refine ⟨hq q e, (He.cT K (x, none)).1, (He.cT K (x, none)).2, ?_, L.tb _ hx, ?_, ?_⟩
  · obtain ⟨oc, od, dV, kV, doc, pm, an, cdv, ct, osl, rfl, lk, hcd, _, _⟩ := hF.ex
    obtain ⟨c, rfl⟩ := He.codeIn_ref hcd
    have : He.codeOf K (x, none) = c := He.codeOf_eq (p := (x, none)) lk rfl
    show Value.ref c = Value.ref (He.codeOf K (x, none))
    rw [this]
  · rw [← hq q e]
    exact List.mem_map.mpr ⟨(x, none), hx, rfl⟩
  · intro p hp e2
    obtain ⟨d, hd, rfl⟩ := List.mem_map.mp hp
    have h1 := List.all_eq_true.mp (List.all_eq_true.mp u d hd) (x, none) hx
    simp only [Bool.or_eq_true, Bool.not_eq_true', decide_eq_false_iff_not, decide_eq_true_eq] at h1
    rcases h1 with h1 | h1
    · exact absurd e2 h1
    · rw [← hq q e]
      show d.1 ++ ".<locals>." ++ "<lambda>" = _
      rw [h1]
/-- a lambda with parameters, read -/
theorem lamok_by {l : Lam} {ps fr : List Str} {t : TED} {cc : CC} {fu : Nat} (hN : cc.N = ps ++ fr) (hsc : cc.sc = l.scope) (hh : cc.hot = none) (hq : cc.lq = none) (hcf : cc.cf = false) (S : NdefX.nscB (ps ++ fr) ps fr l.scope = true)
    (hb : ∀ (cl : List (Str × Addr)) (pm cv ctv : Value) (us : List Value), us.length = ps.length → bindArgs (PySem.W.kla_fn "<lambda>" l.qual l.args l.body l.scope cl pm cv ctv) ⟨us, []⟩ = pure (ps.zip us))
    (go : COk G k cc) (ht : (cA fu cc).1 l.body = some t) (mo : MonoE t) : LamOk G k l ps fr t := by
  have sc := NdefX.nscope_by S
  refine ⟨sc, hb, mo, fun X W gx hXN hXs hc hr tk => (cA_ok fu k cc go).1 _ _ ht X W ?_ tk⟩
  exact ⟨gx, by rw [hXN, hN], by rw [hN]; exact sc.nd, by rw [hXs, hsc], fun _ => hc, fun _ => hr, hr.units, (fun m e => by rw [hh] at e; cases e), (fun q e => by rw [hq] at e; cases e), fun e => by rw [hcf] at e; cases e⟩
theorem binds0 {x q : Str} {params : Arguments} {body : List Stmt} {sc : Scope} {f : Addr} {fd : FuncData} {ps : List Str} (F : FunD K x q params body sc [] [] f fd)
    (hb : ∀ (kV doc pm : Value) (an : Option Addr) (cdv ct : Value) (us : List Value), us.length = ps.length → bindArgs (PySem.W.fnOf x q params body sc .none kV doc pm an cdv ct) ⟨us, []⟩ = pure (ps.zip us)) (s : Shared) (us : List Value) (h : us.length = ps.length) : BindsTo s fd ⟨us, []⟩ (ps.zip us) := by
  obtain ⟨oc, od, dV, kV, doc, pm, an, cdv, ct, osl, rfl, lk, hcd, hd, _⟩ := F.ex
  rcases hd with ⟨_, rfl⟩ | ⟨h0, _⟩
  · exact BindsTo.of_eq (hb kV doc pm an cdv ct us h)
  · exact absurd rfl h0
/-- a law's lambda that calls what it captured: lambda odd: call(.., odd, ..) -/
theorem no_left {P : Program} {w : World} (H : Hp) (s : Shared) (e : Value) (s' : Shared) (h : L2N.CX P w [] H s (fun _ _ _ => False) e s') : False := by
  obtain ⟨_, _, _, _, _, _, _, _, _, _, _, _, z⟩ := h
  exact z
end
end Fs
end
section
set_option Elab.async false
set_option linter.all false
set_option maxRecDepth 100000
set_option maxHeartbeats 4000000
namespace Fs
open PySem PySem.Spec PyProof.Rows L2 LamX HotX L2H

/-! ### the names of an error, the law's _law_error -/
def excNames : List (Str × Str) := [("InvalidStep", "step"), ("InvalidChain", "chain"), ("InvalidNumber", "number"), ("InvalidPairs", "pairs"), ("InvalidIndex", "index"), ("InvalidNumbers", "numbers"), ("InvalidText", "text"), ("OutOfReach", "reach"), ("Impossible", "impossible"), ("Unlike", "unlike"), ("NothingToUndo", "undo"), ("TooMany", "many")]
def nmS (K : PySem.W.Frag) (C : Addr) : Option Str := (excNames.find? fun p => decide (He.ga K p.1 = C)).map (·.2)
def nmD (K : PySem.W.Frag) (C : Addr) : Option D := (nmS K C).map D.str
def excB (K : PySem.W.Frag) (D : Addr) : Bool :=
  decide (PySem.W.findIn K (.ref D) "__getattribute__" = some (some (.builtin "BaseException.__getattribute__"))) && decide (PySem.W.findIn K (.ref D) "__getattr__" = some none) && decide (PySem.W.subIn K (.ref D) (.type "BaseException") = some true) && PySem.W.hasDictIn K D &&
  decide (PySem.W.findIn K (.ref D) "__class__" = some (some (.builtin "object.__class__"))) && decide (PySem.W.specialIn K (.builtin "object.__class__") "__get__" = some (some (.builtin "getset_descriptor.__get__"))) && decide (PySem.W.takesIn K (.builtin "object.__class__") = some true) && decide (PySem.W.mroIn K D (.type "object") = some true)
theorem excB_ok {K : PySem.W.Frag} {D : Addr} (h : excB K D = true) : ExcC K D := by
  unfold excB at h
  simp only [Bool.and_eq_true, decide_eq_true_eq] at h
  obtain ⟨⟨⟨⟨⟨⟨⟨h1, h2⟩, h3⟩, h4⟩, h5⟩, h6⟩, h7⟩, h8⟩ := h
  exact ⟨h1, h2, h3, h4, h5, h6, h7, h8⟩
def errB (K : PySem.W.Frag) : Bool := excNames.all fun p => excB K (He.ga K p.1) && (decide (PySem.W.kitOne K (.ref (He.ga K p.1)) (.type "ValueError") = some true) && (decide (PySem.W.exmOne K (.ref (He.ga K p.1)) (.ref (He.ga K "FigureError")) = some true) &&
  excNames.all fun q => decide (PySem.W.kitOne K (.ref (He.ga K p.1)) (.ref (He.ga K q.1)) = some (decide (p.1 = q.1)))))
theorem errB_at {K : PySem.W.Frag} (h : errB K = true) {p : Str × Str} (hp : p ∈ excNames) : ExcC K (He.ga K p.1) ∧ PySem.W.kitOne K (.ref (He.ga K p.1)) (.type "ValueError") = some true ∧ PySem.W.exmOne K (.ref (He.ga K p.1)) (.ref (He.ga K "FigureError")) = some true ∧
    ∀ q ∈ excNames, PySem.W.kitOne K (.ref (He.ga K p.1)) (.ref (He.ga K q.1)) = some (decide (p.1 = q.1)) := by
  have := List.all_eq_true.mp h p hp
  simp only [Bool.and_eq_true, decide_eq_true_eq, List.all_eq_true] at this
  exact ⟨excB_ok this.1, this.2.1, this.2.2.1, this.2.2.2⟩
theorem exc_nodup : ∀ p ∈ excNames, ∀ q ∈ excNames, p.1 = q.1 → p = q := by decide +kernel
theorem nmS_get {K : PySem.W.Frag} {C : Addr} {s : Str} (h : nmS K C = some s) : ∃ p ∈ excNames, C = He.ga K p.1 ∧ s = p.2 := by
  unfold nmS at h
  cases e : excNames.find? (fun p => decide (He.ga K p.1 = C)) with
  | none => rw [e] at h; cases h
  | some p =>
    rw [e] at h
    cases h
    have := List.find?_some e
    exact ⟨p, List.mem_of_find?_eq_some e, (of_decide_eq_true this).symm, rfl⟩
theorem nmS_of {K : PySem.W.Frag} (h : errB K = true) {p : Str × Str} (hp : p ∈ excNames) : nmS K (He.ga K p.1) = some p.2 := by
  cases e : nmS K (He.ga K p.1) with
  | none =>
    exfalso
    unfold nmS at e
    cases e2 : excNames.find? (fun q => decide (He.ga K q.1 = He.ga K p.1)) with
    | none =>
      have := List.find?_eq_none.mp e2 p hp
      simp at this
    | some q => rw [e2] at e; cases e
  | some s =>
    obtain ⟨q, hq, h1, rfl⟩ := nmS_get e
    have a := (errB_at h hp).2.2.2 q hq
    have b := (errB_at h hq).2.2.2 q hq
    rw [h1, b] at a
    have c : p.1 = q.1 := by
      have : decide (p.1 = q.1) = true := by
        have := Option.some.inj a
        rw [← this]; simp
      exact of_decide_eq_true this
    rw [exc_nodup p hp q hq c]
theorem nmD_of {K : PySem.W.Frag} (h : errB K = true) {x w : Str} (hp : (x, w) ∈ excNames) : nmD K (He.ga K x) = some (.str w) := by
  unfold nmD
  rw [nmS_of h hp]
  rfl
def t__law_names (er : Str → Addr) (K : PySem.W.Frag) (aE cE : Addr) : TSD :=
  (dSeq (dAsg (dLst (dCons (dCB (isxD K aE cE) (dCons (dVar 0) (dCons (dC (.ref (er "InvalidStep"))) dNil))) (dCons (dCB (isxD K aE cE) (dCons (dVar 0) (dCons (dC (.ref (er "InvalidChain"))) dNil))) (dCons (dCB (isxD K aE cE) (dCons (dVar 0) (dCons (dC (.ref (er "InvalidNumber"))) dNil))) dNil)))) (gN 1))
  (dSeq (dAsg (dBin addD (dVar 1) (dLst (dCons (dCB (isxD K aE cE) (dCons (dVar 0) (dCons (dC (.ref (er "InvalidPairs"))) dNil))) (dCons (dCB (isxD K aE cE) (dCons (dVar 0) (dCons (dC (.ref (er "InvalidIndex"))) dNil))) (dCons (dCB (isxD K aE cE) (dCons (dVar 0) (dCons (dC (.ref (er "InvalidNumbers"))) dNil))) dNil))))) (gN 1))
  (dSeq (dAsg (dBin addD (dVar 1) (dLst (dCons (dCB (isxD K aE cE) (dCons (dVar 0) (dCons (dC (.ref (er "InvalidText"))) dNil))) (dCons (dCB (isxD K aE cE) (dCons (dVar 0) (dCons (dC (.ref (er "OutOfReach"))) dNil))) (dCons (dCB (isxD K aE cE) (dCons (dVar 0) (dCons (dC (.ref (er "Impossible"))) dNil))) dNil))))) (gN 1))
  (dSeq (dAsg (dBin addD (dVar 1) (dLst (dCons (dCB (isxD K aE cE) (dCons (dVar 0) (dCons (dC (.ref (er "Unlike"))) dNil))) (dCons (dCB (isxD K aE cE) (dCons (dVar 0) (dCons (dC (.ref (er "NothingToUndo"))) dNil))) (dCons (dCB (isxD K aE cE) (dCons (dVar 0) (dCons (dC (.ref (er "TooMany"))) dNil))) dNil))))) (gN 1))
  (dSeq (dAsg (dM1 splitD (dC (.str "step chain number pairs index numbers text reach impossible unlike undo many")) (dC (.str " "))) (gN 2))
  (dRet (dBin addD (dM1 joinD (dC (.str " ")) (dLc (dZip1 (dCons (dVar 2) (dCons (dVar 1) dNil))) [3, 4] (gTH [3, 4]) (dTru (dVar 4)) (dVar 3))) (dBin mulD (dC (.str " ")) (dCB intD (dCons (dNotV (dCB (isxD K aE cE) (dCons (dVar 0) (dCons (dC (.ty "ValueError")) dNil)))) dNil))))))))))
theorem split_names : Txt.split (Str.ofString "step chain number pairs index numbers text reach impossible unlike undo many") (Str.ofString " ") = (["step", "chain", "number", "pairs", "index", "numbers", "text", "reach", "impossible", "unlike", "undo", "many"] : List String).map Str.ofString := by decide +kernel
theorem join_one : ∀ p ∈ excNames, Txt.join (Str.ofString " ") [p.2] = p.2 := by decide +kernel
theorem mul_none (x : Str) : Txt.mul x 0 = Str.empty := by unfold Txt.mul; rw [if_pos (by decide)]
theorem app_empty (x : Str) : x ++ Str.empty = x := by
  show Str.mk (x.cps ++ #[]) = x
  rw [Array.append_empty]
theorem mulOk_sp : MulOk (Str.ofString " ") 0 := ⟨by decide, fun h => absurd (by decide) h, fun h => absurd (by decide) h⟩
theorem names_lc {env : En} {k : List D → Store → Prop} {S : Store} : ∀ (zs : List (Str × Bool)) (acc : List D), acc.length + zs.length ≤ 100 → 5 ≤ env.length → k (acc ++ (zs.filter (·.2)).map fun z => D.str z.1) S → lcD (gTH [3, 4]) (dTru (dVar 4)) (dVar 3) env k (zs.map fun z => D.tup [.str z.1, .bl z.2]) acc S
  | [], acc, _, _, h => by simpa [lcD] using h
  | (x, b) :: zs, acc, hl, he, h => by
    have h3 : ((env.set 3 (some (.d (.str x)))).set 4 (some (.d (.bl b))))[4]? = some (some (.d (.bl b))) := List.getElem?_set_self (by simp; omega)
    have h4 : ((env.set 3 (some (.d (.str x)))).set 4 (some (.d (.bl b))))[3]? = some (some (.d (.str x))) := by
      rw [List.getElem?_set_ne (by decide)]
      exact List.getElem?_set_self (by omega)
    rw [List.map_cons]
    unfold lcD
    simp only [s_gTH, setAll_cons, setAll_nil, s_tru, s_var, h3, h4, tru_bl, List.length_cons, List.length_nil, true_and]
    simp only [List.length_cons] at hl
    cases b with
    | true =>
      rw [if_pos rfl]
      refine ⟨by rw [sizeLine_eq]; omega, names_lc zs _ (by simp; omega) he ?_⟩
      simpa using h
    | false =>
      rw [if_neg (by decide)]
      refine names_lc zs _ (by omega) he ?_
      simpa using h
def rowOf (x : Str) : List D := excNames.map fun q => .bl (decide (x = q.1))
theorem p__law_names {K : PySem.W.Frag} (hE : errB K = true) {p : Str × Str} (hp : p ∈ excNames) (a : Addr) (S : Store) (Q : QD) (hq : Q (.str p.2) S) : t__law_names (He.ga K) K a (He.ga K p.1) (rtE Q noE) (startD 5 [.d (.ref a)]) S := by
  obtain ⟨_, hv, _, hk⟩ := errB_at hE hp
  have isx : ∀ (x w : Str) (S : Store) (k : D → Prop), (x, w) ∈ excNames → k (.bl (decide (p.1 = x))) → isxD K a (He.ga K p.1) [.ref a, .ref (He.ga K x)] S k := fun x w S k h1 h2 => ⟨rfl, _, hk _ h1, h2⟩
  have isv : ∀ (S : Store) (k : D → Prop), k (.bl true) → isxD K a (He.ga K p.1) [.ref a, .ty "ValueError"] S k := fun S k h2 => ⟨rfl, _, hv, h2⟩
  simp only [t__law_names, s_seq, s_next, s_ret, s_retN, s_drop, s_ifS, s_asg, s_par, s_raise, s_for, rt_nx, rt_rt, rt_ex, s_gN, s_gT, s_gTl, setAll_nil, setAll_cons, wipe_nil, wipe_cons, s_start, s_var, s_c, s_bin, s_test, s_chain, s_tru, s_and, s_or, s_not, s_andV, s_orV, s_notV, s_if, s_nil, s_cons, s_tup, s_lst, s_neg, s_cb, s_itS, s_rng1, s_rng2, s_lc, s_yes, s_newL, s_part, s_nop, s_slice, s_rev, s_m1, s_call, s_app, s_setIx, s_dnew, s_done, s_dput, s_dget2, key_s, key_i, cellK_, tru_str, in_s, mul_ti, mul_li, s_onB, s_condB, tru_bl, tru_int, tru_non, tru_tup, tru_lst, add_ii, add_ss, add_tt, add_ll, sub_ii, mul_ii, mul_si, fdiv_ii, mod_ii, pow_ii, cmp_ii, eq_ii, eq_ss, ne_ii, ne_ss, is_nn, is_bb, is_in, is_sn, is_tn, is_ln, ix_t, ix_l, ix_loc, at_, len_t, len_l, len_scr, len_s, abs_i, int_i, int_b, int_s, str_i, str_s, bool_b, list_t, list_l, tuple_t, tuple_l, tuple_loc, list_loc, isi_, sum_l, max_ii, min_ii, slice_t, slice_l, slice_s, tn_int, tn_bl, tn_str, tn_non, tn_tup, tn_lst, cell_, strOk_of, atI_0, atI_1, atI_2, List.map_cons, List.map_nil, List.length_cons, List.length_nil, List.replicate_succ, List.replicate_zero, List.nil_append, List.cons_append, List.append_nil, List.getElem?_cons_zero, List.getElem?_cons_succ, List.set_cons_zero, List.set_cons_succ, Nat.reduceAdd, Nat.reduceSub, Nat.sub_self, Bool.not_true, Bool.not_false, if_true, if_false, reduceIte, Bool.false_eq_true, Bool.true_eq_false, true_and, and_true, decide_eq_true_eq, Bool.not_eq_true', decide_eq_false_iff_not, ne_eq, not_true_eq_false, not_false_eq_true, ofString_inj]
  refine isx "InvalidStep" "step" _ _ (by decide +kernel) (isx "InvalidChain" "chain" _ _ (by decide +kernel) (isx "InvalidNumber" "number" _ _ (by decide +kernel) ⟨by decide, ?_⟩))
  refine isx "InvalidPairs" "pairs" _ _ (by decide +kernel) (isx "InvalidIndex" "index" _ _ (by decide +kernel) (isx "InvalidNumbers" "numbers" _ _ (by decide +kernel) ⟨by decide, by decide, ?_⟩))
  refine isx "InvalidText" "text" _ _ (by decide +kernel) (isx "OutOfReach" "reach" _ _ (by decide +kernel) (isx "Impossible" "impossible" _ _ (by decide +kernel) ⟨by decide, by decide, ?_⟩))
  refine isx "Unlike" "unlike" _ _ (by decide +kernel) (isx "NothingToUndo" "undo" _ _ (by decide +kernel) (isx "TooMany" "many" _ _ (by decide +kernel) ⟨by decide, by decide, ?_⟩))
  refine ⟨⟨_, rfl⟩, ?_⟩
  simp only [splitD, split_names, List.map_cons, List.map_nil]
  refine ⟨by decide +kernel, by decide +kernel, ⟨_, rfl⟩, ?_⟩
  simp only [dZip1, s_seq, s_next, s_ret, s_retN, s_drop, s_ifS, s_asg, s_par, s_raise, s_for, rt_nx, rt_rt, rt_ex, s_gN, s_gT, s_gTl, setAll_nil, setAll_cons, wipe_nil, wipe_cons, s_start, s_var, s_c, s_bin, s_test, s_chain, s_tru, s_and, s_or, s_not, s_andV, s_orV, s_notV, s_if, s_nil, s_cons, s_tup, s_lst, s_neg, s_cb, s_itS, s_rng1, s_rng2, s_lc, s_yes, s_newL, s_part, s_nop, s_slice, s_rev, s_m1, s_call, s_app, s_setIx, s_dnew, s_done, s_dput, s_dget2, key_s, key_i, cellK_, tru_str, in_s, mul_ti, mul_li, s_onB, s_condB, tru_bl, tru_int, tru_non, tru_tup, tru_lst, add_ii, add_ss, add_tt, add_ll, sub_ii, mul_ii, mul_si, fdiv_ii, mod_ii, pow_ii, cmp_ii, eq_ii, eq_ss, ne_ii, ne_ss, is_nn, is_bb, is_in, is_sn, is_tn, is_ln, ix_t, ix_l, ix_loc, at_, len_t, len_l, len_scr, len_s, abs_i, int_i, int_b, int_s, str_i, str_s, bool_b, list_t, list_l, tuple_t, tuple_l, tuple_loc, list_loc, isi_, sum_l, max_ii, min_ii, slice_t, slice_l, slice_s, tn_int, tn_bl, tn_str, tn_non, tn_tup, tn_lst, cell_, strOk_of, atI_0, atI_1, atI_2, List.map_cons, List.map_nil, List.length_cons, List.length_nil, List.replicate_succ, List.replicate_zero, List.nil_append, List.cons_append, List.append_nil, List.getElem?_cons_zero, List.getElem?_cons_succ, List.set_cons_zero, List.set_cons_succ, Nat.reduceAdd, Nat.reduceSub, Nat.sub_self, Bool.not_true, Bool.not_false, if_true, if_false, reduceIte, Bool.false_eq_true, Bool.true_eq_false, true_and, and_true, decide_eq_true_eq, Bool.not_eq_true', decide_eq_false_iff_not, ne_eq, not_true_eq_false, not_false_eq_true, ofString_inj]
  refine ⟨by decide, ?_⟩
  have ez : List.zipWith (fun x y => D.tup [x, y]) [D.str (Str.ofString "step"), D.str (Str.ofString "chain"), D.str (Str.ofString "number"), D.str (Str.ofString "pairs"), D.str (Str.ofString "index"), D.str (Str.ofString "numbers"), D.str (Str.ofString "text"), D.str (Str.ofString "reach"), D.str (Str.ofString "impossible"), D.str (Str.ofString "unlike"), D.str (Str.ofString "undo"), D.str (Str.ofString "many")]
      [D.bl (decide (p.1 = "InvalidStep")), D.bl (decide (p.1 = "InvalidChain")), D.bl (decide (p.1 = "InvalidNumber")), D.bl (decide (p.1 = "InvalidPairs")), D.bl (decide (p.1 = "InvalidIndex")), D.bl (decide (p.1 = "InvalidNumbers")), D.bl (decide (p.1 = "InvalidText")), D.bl (decide (p.1 = "OutOfReach")), D.bl (decide (p.1 = "Impossible")), D.bl (decide (p.1 = "Unlike")), D.bl (decide (p.1 = "NothingToUndo")), D.bl (decide (p.1 = "TooMany"))]
      = (excNames.map fun q => ((q.2, decide (p.1 = q.1)) : Str × Bool)).map fun z => D.tup [.str z.1, .bl z.2] := rfl
  rw [ez]
  refine names_lc _ _ (by simp [excNames]) (by simp) ?_
  have ef : ((excNames.map fun q => ((q.2, decide (p.1 = q.1)) : Str × Bool)).filter (·.2)).map (fun z => D.str z.1) = [.str p.2] := by
    have : ∀ p ∈ excNames, ((excNames.map fun q => ((q.2, decide (p.1 = q.1)) : Str × Bool)).filter (·.2)).map (fun z => z.1) = [p.2] := by decide +kernel
    have h2 := congrArg (List.map D.str) (this p hp)
    simpa using h2
  rw [List.nil_append, ef]
  refine ⟨?_, ?_⟩
  · have : ∀ q ∈ excNames, ([q.2].map (·.length)).sum + [q.2].length * (Str.ofString " ").length ≤ 16777216 := by decide +kernel
    exact this p hp
  · rw [join_one p hp]
    refine isv _ _ ?_
    simp only [s_seq, s_next, s_ret, s_retN, s_drop, s_ifS, s_asg, s_par, s_raise, s_for, rt_nx, rt_rt, rt_ex, s_gN, s_gT, s_gTl, setAll_nil, setAll_cons, wipe_nil, wipe_cons, s_start, s_var, s_c, s_bin, s_test, s_chain, s_tru, s_and, s_or, s_not, s_andV, s_orV, s_notV, s_if, s_nil, s_cons, s_tup, s_lst, s_neg, s_cb, s_itS, s_rng1, s_rng2, s_lc, s_yes, s_newL, s_part, s_nop, s_slice, s_rev, s_m1, s_call, s_app, s_setIx, s_dnew, s_done, s_dput, s_dget2, key_s, key_i, cellK_, tru_str, in_s, mul_ti, mul_li, s_onB, s_condB, tru_bl, tru_int, tru_non, tru_tup, tru_lst, add_ii, add_ss, add_tt, add_ll, sub_ii, mul_ii, mul_si, fdiv_ii, mod_ii, pow_ii, cmp_ii, eq_ii, eq_ss, ne_ii, ne_ss, is_nn, is_bb, is_in, is_sn, is_tn, is_ln, ix_t, ix_l, ix_loc, at_, len_t, len_l, len_scr, len_s, abs_i, int_i, int_b, int_s, str_i, str_s, bool_b, list_t, list_l, tuple_t, tuple_l, tuple_loc, list_loc, isi_, sum_l, max_ii, min_ii, slice_t, slice_l, slice_s, tn_int, tn_bl, tn_str, tn_non, tn_tup, tn_lst, cell_, strOk_of, atI_0, atI_1, atI_2, List.map_cons, List.map_nil, List.length_cons, List.length_nil, List.replicate_succ, List.replicate_zero, List.nil_append, List.cons_append, List.append_nil, List.getElem?_cons_zero, List.getElem?_cons_succ, List.set_cons_zero, List.set_cons_succ, Nat.reduceAdd, Nat.reduceSub, Nat.sub_self, Bool.not_true, Bool.not_false, if_true, if_false, reduceIte, Bool.false_eq_true, Bool.true_eq_false, true_and, and_true, decide_eq_true_eq, Bool.not_eq_true', decide_eq_false_iff_not, ne_eq, not_true_eq_false, not_false_eq_true, ofString_inj]
    have hl : ∀ q ∈ excNames, q.2.length ≤ 100 := by decide +kernel
    have hl := hl p hp
    show MulOk _ 0 ∧ _
    rw [mul_none, app_empty]
    refine ⟨mulOk_sp, ?_, hq⟩
    have : Str.empty.length = 0 := rfl
    rw [this, sizeLine_eq]
    omega
/-- None and an error's word -/
def nmTD (K : PySem.W.Frag) (C : Addr) : Option D := (nmS K C).map fun w => .tup [.non, .str w]
theorem nmTD_of {K : PySem.W.Frag} (h : errB K = true) {x w : Str} (hp : (x, w) ∈ excNames) : nmTD K (He.ga K x) = some (.tup [.non, .str w]) := by
  unfold nmTD
  rw [nmS_of h hp]
  rfl
end Fs
end
section
set_option Elab.async false
set_option linter.all false
set_option maxRecDepth 100000
set_option maxHeartbeats 4000000
namespace Fs
open PySem PySem.Spec PyProof.Rows L2 LamX HotX L2H NdefX

/-! ### try: return (x(), "") / except E as e: return (None, names(e)) -/
section
variable {G : Wd} {k kn : Nat} {nmx : Str} {nm : Addr → Str → Prop}
theorem runner_told {x a en fe rs : Str} {params : Arguments} {body : List Stmt} {sc : Scope} {g CS : Addr} {fd : FuncData} {N : List Str} {i j1 j2 n1 n2 : Nat} {p1 p2 p3 p4 p5 p6 p7 p8 p9 p10 p11 p12 p13 p14 : Pos} {nmD : Addr → Option D} (F : FunD G.K x x params body sc [] [] g fd) (S : FnScope N [a] sc)
    (hb : ∀ (kV doc pm : Value) (an : Option Addr) (cdv ct : Value) (us : List Value), us.length = [a].length → bindArgs (PySem.W.fnOf x x params body sc .none kV doc pm an cdv ct) ⟨us, []⟩ = pure ([a].zip us)) (hm : G.mg x = some (.ref g))
    (hbody : body = [.Try [.Return (some (.Tuple [.Call (.Name a p1) [] [] p2, .Constant (.str rs) j1 p11] n1 p12)) p3] [.ExceptHandler (some (.Name fe p4)) (some en) [.Return (some (.Tuple [.Constant .none j2 p13, .Call (.Name nmx p5) [.Name en p6] [] p7] n2 p14)) p8] p9] [] [] p10])
    (NO : NamesOk G kn nmx nm) (hkn : kn ≤ k + 1) (hfe : G.mg fe = some (.ref CS)) (hex : ∀ D w, nm D w → PySem.W.exmOne G.K (.ref D) (.ref CS) = some true) (hnD : ∀ D d, nmD D = some d → ∃ w, d = .tup [.non, .str w] ∧ nm D w)
    (hx : (x == ("__debug__" : Str)) = false) (hN0 : N[0]? = some a) (hva : visB sc a = true) (hpa : plainN a = true) (hNi : N[i]? = some en) (hln : sc.names.lookup en = some .local) (hpe : plainN en = true) (hgf : glbB sc fe = true) (hpf : plainN fe = true) (hgn : glbB sc nmx = true) (hpn : plainN nmx = true) :
    Runner G k x (dTold (fun d => .tup [d, .str rs]) nmD) := by
  refine ⟨fun t h => dTold_mono h, fun X W l tb p lpos pos gx hr hg tk LA LS d0 k0 hbind hbd mtb => ⟨⟨fun pins s σ H Q I q => ?_⟩, dTold_mono mtb⟩⟩
  obtain ⟨A, S0, env, eo, st, q⟩ := q
  have FF := F
  obtain ⟨oc, od, dV, kV, doc, pm0, an, cdv, ct0, osl, rfl, lk, hcd, _, _⟩ := F.ex
  obtain ⟨g1, g2, g3, g4, g5⟩ := gx
  have gx : XIs G X := ⟨g1, g2, g3, g4, g5⟩
  refine wpAny_Call_Name_kw (ld_glob I hg (by rw [g4]; exact hm) ?_ hx)
  refine PySem.W.callWith_K (h₀ := X.base) I.ok.mod.kin (by rw [g3]; exact FF.kp) ?_ (by rfl) (by rfl)
  show wpAny _ _ (spliced ((false, eval (.Lambda l.args l.body l.scope lpos) X.env) :: backTo pos (starEach [] X.env))) _ _ s
  refine Calls.spliced_cons (thn ((pe_lam (T := G.T) LA LS.free d0 k0).run pins s σ H (fun v H1 => ∃ f c' pm ctv, v = .ref f ∧ ExtN H H1 ∧ Tabs G.T.t H1 ∧ H1 f = some (.frz (lamO l (cloFrom X.env.cells l.scope.names []) pm c' ctv) (.own f)) ∧ H1 c' = some (CodeO c' l.qual)) I
    ⟨st.tabs, fun f c' pm ctv H1 eN T1 nf hf hc _ => ⟨f, c', pm, ctv, rfl, eN, T1, hf, hc⟩⟩) fun u s1 ⟨v, H1, I1, r1, f, c', pm, ctv, ev, eN, T1, hf, hc⟩ => ?_)
  subst ev
  obtain rfl : u = Value.ref f := r1
  refine Calls.spliced_nil ⟨I1.kIn, ?_⟩
  show wpAny _ _ (call (.ref g) [.ref f]) _ _ s1
  obtain ⟨pa1, pa2, pa3⟩ := plainN_ok hpa
  obtain ⟨pe1, pe2, pe3⟩ := plainN_ok hpe
  obtain ⟨pf1, pf2, pf3⟩ := plainN_ok hpf
  obtain ⟨pn1, pn2, pn3⟩ := plainN_ok hpn
  have rc : codeAny (model X.prog X.w) X.A (.call (.ref g) ⟨[.ref f], []⟩) (CR (L2N.CX X.prog X.w) X.stack X.prog X.w H1 s1 Q (fun _ _ _ => False)) s1 := by
    refine run_ofS (K := X.K) (N := N) (ps := [a]) (us := [.ref f]) (vs := [.ref f]) (by rw [g3]; exact lk) (by rw [g3]; exact hcd) S (hr : Room (k + 1 + 1) X.A) I1.env0 ?_ (.cons rfl .nil) rfl fun hr1 => ?_
    · have b := FF.bindsN hb s1 [.ref f] (by rw [← g3]; exact I1.kIn) rfl
      rw [List.append_nil] at b
      exact b
    · let tb0 : WX → TS := fun W' D σz HZ => ∃ Ech : XK, (∀ cls d σ' H', Ech cls d H' → W' cls d σ' H') ∧ σz[0]? = some (some (V.ref f)) ∧ HZ f = some (.frz (lamO l (cloFrom X.env.cells l.scope.names []) pm c' ctv) (.own f)) ∧ HZ c' = some (CodeO c' l.qual) ∧
            upE X.K G.T (fun cls d _ H' => Ech cls d H') tb σ HZ (fun v H' => 2 ≤ sizeLine ∧ ∀ p, H' p = none → D.rt (.ref p) (upd H' p (.tup [v, .str rs])))
      let ts0 : Addr → Value → Option Addr → TS := fun a0 cls d D σz HZ => (σz[i]? = some (some (.ref a0)) ∨ σz.length ≤ i) ∧ ∃ Dc w Ad0 S, cls = .ref Dc ∧ d = none ∧ nm Dc w ∧ Stt G.K G.T Ad0 S HZ ∧ Bk G.K G.T Ad0 HZ (fun v H' => 2 ≤ sizeLine ∧ ∀ p, H' p = none → D.rt (.ref p) (upd H' p (.tup [.non, v]))) (.str w) S
      refine ⟨fun D σz HZ => tb0 (wAs X.K (.ref CS) i ts0 W0 D) D σz HZ, ?ps, ?tt⟩
      case ps =>
        rw [hbody]
        refine pss_one (L2N.ps_try_as (X := cxOf (L2N.CX X.prog X.w) X.prog X.w X.K X.mg X.base N x sc g cdv X.A X.stack s1 H1 (fun _ _ _ => False)) (i := i) (c := .ref CS) (Wout := W0) (tb := tb0) (ts := ts0)
          rfl rfl S.nd hNi hln ⟨glbB_ok hgf, pf1, .inl (by rw [g4]; exact hfe)⟩ takesW0 (fun W' pn xe tk' _ => ?_) (fun a0 oe cls d pn hz hfl => ?_))
        · refine PSs.imp (pss_one (ps_ret (pe_tup (pa_cons (te := fun σz HZ Q' => ∃ Ech : XK, (∀ cls d σ' H', Ech cls d H' → W' cls d σ' H') ∧ σz[0]? = some (some (V.ref f)) ∧ HZ f = some (.frz (lamO l (cloFrom X.env.cells l.scope.names []) pm c' ctv) (.own f)) ∧ HZ c' = some (CodeO c' l.qual) ∧
            upE X.K G.T (fun cls d _ H' => Ech cls d H') tb σ HZ Q') ⟨fun pz sz σz HZ Q' IZ hz => ?_⟩ (pa_cons pe_str pa_nil rfl) rfl)))) fun D σz HZ ⟨Ech, z1, z2, z3, z4, z5⟩ => ⟨Ech, z1, z2, z3, z4, z5⟩
          obtain ⟨Ech, hW, h1, h2, h3, h4⟩ := hz
          exact (act_pe (X := X) (k := k) (i := 0) (E := Ech) (tb := upE X.K G.T (fun cls d _ H' => Ech cls d H') tb) I1 LS (hbind _ _ _ _ _) LA.qu tk' hW hr1 (fun A outer s H hr2 => (hbd A outer s H Ech f c' hr2).pe) hN0 (visB_ok hva) pa1 pa2).run pz sz σz HZ Q' IZ ⟨h1, h2, h3, h4⟩
        · exact pss_one (ps_ret (pe_tup (pa_cons pe_non (pa_cons (pe_names (X := cxOf (L2N.CX X.prog X.w) X.prog X.w X.K X.mg X.base N x sc g cdv X.A X.stack s1 H1 (fun _ _ _ => False)) NO ⟨g1, g2, g3, g4, g5⟩ (roomH_of (hr1.mono hkn)) hz hfl (glbB_ok hgn) pn1 hNi (.inl hln) pe1 pe2) pa_nil rfl) rfl)))
      case tt =>
        have st1 := st.sameT eN T1
        have l1 : Le A H A H1 := Le.sameT eN
        have two : (2 : Nat) ≤ sizeLine := by rw [sizeLine_eq]; omega
        refine ⟨EchOf G nm (fun v H' => 2 ≤ sizeLine ∧ ∀ p, H' p = none → Q (.ref p) (upd H' p (.tup [.non, v]))), fun cls d σ' H' ⟨Dc, w, Ad0, S1, e1, e2, e3, e4, e5⟩ => ⟨true, ?_, fun _ a0 na => ⟨?_, Dc, w, Ad0, S1, e1, e2, e3, e4, e5⟩, fun z => by cases z⟩, ?_, hf, hc, A, S0, env, eo.mono l1, st1, mtb _ _ _ _ _ _ (fun d S1 h1 => ?_) (fun xx S1 h1 => ?_) q⟩
        · subst e1
          show PySem.W.exmOne X.K (.ref Dc) (.ref CS) = some true
          rw [g3]; exact hex Dc w e3
        · by_cases hi : i < σ'.length
          · exact .inl (List.getElem?_set_self hi)
          · exact .inr (by rw [List.length_set]; omega)
        · unfold L2.start; rfl
        · intro A2 H2 v l2 st2 r2
          refine ⟨two, fun p hp => ?_⟩
          have rs2 : Reps X.K A2 H2 [d, .str rs] [v, .str rs] := ⟨v, _, rfl, r2, _, [], rfl, rfl, rfl⟩
          exact bk_tup st2 rs2 hp (Bk.mono (l1.trans l2) (fun _ _ z => z) h1)
        · intro A2 H2 l2 st2
          cases xx with
          | ref C =>
            dsimp only at h1
            split at h1
            · rename_i d e
              obtain ⟨w, ew, hw⟩ := hnD C d e
              subst ew
              rw [g3] at h1 st2
              refine ⟨C, w, A2, S1, rfl, rfl, hw, st2, fun A3 H3 v l3 st3 r3 => ⟨two, fun p hp => ?_⟩⟩
              have rs3 : Reps G.K A3 H3 [.non, .str w] [.non, v] := ⟨_, _, rfl, rfl, v, [], rfl, r3, rfl⟩
              exact bk_tup st3 rs3 hp (Bk.mono ((l1.trans l2).trans l3) (fun _ _ z => z) h1)
            · exact h1.elim
          | _ => exact h1.elim
  refine wpAny_call (codeAny_mono rc fun r s' hq => ?_)
  cases r with
  | error e =>
    obtain ⟨_, _, _, _, _, _, _, _, _, _, _, _, z⟩ := hq
    exact z.elim
  | ok fl =>
    cases fl with
    | ret u => exact I1.after hq
    | next => exact False.elim hq
    | brk => exact False.elim hq
    | cont => exact False.elim hq
end
end Fs
end
section
set_option Elab.async false
set_option linter.all false
set_option maxRecDepth 100000
set_option maxHeartbeats 4000000
namespace Fs
open PySem PySem.Spec PyProof.Rows L2 LamX

mutual
theorem eqb_self : ∀ (n : Nat) (d : D), d.pl n = true → PyData.eqv d.py d.py = true
  | n, .non, _ => rfl
  | n, .bl b, _ => by simp [D.py, PyData.eqv]
  | n, .int i, _ => by simp [D.py, PyData.eqv]
  | n, .str x, _ => by simp [D.py, PyData.eqv]
  | n + 1, .tup ds, h => by
    simp only [D.py, PyData.eqv]
    exact eqbs_self n ds h
  | n + 1, .lst ds, h => by
    simp only [D.py, PyData.eqv]
    exact eqbs_self n ds h
  | 0, .tup ds, h => by cases h
  | 0, .lst ds, h => by cases h
  | n, .ref _, h => by cases n <;> cases h
  | n, .ty _, h => by cases n <;> cases h
  | n, .loc _, h => by cases n <;> cases h
  | n, .lam _, h => by cases n <;> cases h
  | n, .scr _, h => by cases n <;> cases h
theorem eqbs_self : ∀ (n : Nat) (ds : List D), D.pls n ds = true → PyData.eqvAll (D.pys ds) (D.pys ds) = true
  | n, [], _ => rfl
  | n, d :: ds, h => by
    simp only [D.pls, Bool.and_eq_true] at h
    simp only [D.pys, PyData.eqvAll, Bool.and_eq_true]
    exact ⟨eqb_self n d h.1, eqbs_self n ds h.2⟩
end
theorem ne_self {d : D} {S : Store} {k : D → Prop} (h : d.pl 9 = true) (hk : k (.bl false)) : neD d d S k := by
  have e : D.eqb d d = true := eqb_self 9 d h
  exact ⟨pl_fit (by decide) h, pl_fit (by decide) h, by rw [e]; exact hk⟩
theorem eq_self' {d : D} {S : Store} {k : D → Prop} (h : d.pl 9 = true) (hk : k (.bl true)) : eqD d d S k := by
  have e : D.eqb d d = true := eqb_self 9 d h
  exact ⟨pl_fit (by decide) h, pl_fit (by decide) h, by rw [e]; exact hk⟩
theorem pls_ints (n : Nat) : ∀ l : List Int, D.pls n (l.map D.int) = true
  | [] => by simp [D.pls]
  | i :: l => by
    simp only [List.map_cons, D.pls, Bool.and_eq_true]
    exact ⟨by cases n <;> rfl, pls_ints n l⟩
theorem lcD_ev {te : TED} {env : En} {i : Nat} {k : List D → Store → Prop} {S : Store} (f : D → D) (xs : List D) (hl : xs.length ≤ 1000000) (ht : ∀ x ∈ xs, ∀ Q : QD, Q (f x) S → te (env.set i (some (.d x))) S Q noE) (h : k (xs.map f) S) : lcD (gN i) dYes te env k xs [] S :=
  lcD_map f xs [] (by rw [sizeLine_eq]; simp; omega) (fun x hx Q hq => ht x hx Q hq) (by simpa using h)
end Fs
end
section
set_option Elab.async false
set_option linter.all false
set_option maxRecDepth 100000
set_option maxHeartbeats 4000000
namespace Fs
open PySem PySem.Builtin PySem.Builtin.Str

/-! ### texts split at one sign -/
def sg (c : Nat) : Str := ⟨#[c]⟩
theorem sg_len (c : Nat) : (sg c).length = 1 := rfl
theorem at_one {x : Str} {c i : Nat} : StrLaws.At x (sg c) x.length i ↔ x.cps[i]? = some c := by
  have := StrLaws.subAt_one x c i
  have e : x.cps.toList[i]? = x.cps[i]? := by simp
  rw [e] at this
  exact this
/-- all places of the sign -/
theorem occ_all {x : Str} {c limit : Nat} : ∀ (k a : Nat) (st : Array Nat × Nat), st.2 ≤ a → st.1.size + k ≤ limit →
    (forIn (List.range' a k) st (StrLaws.occBody x (sg c) x.length limit)).run.fst.toList = st.1.toList ++ (List.range' a k).filter fun i => decide (x.cps[i]? = some c)
  | 0, a, st, _, _ => by simp [List.range']
  | k + 1, a, st, h1, h2 => by
    rw [List.range'_succ, List.forIn_cons]
    by_cases hc : x.cps[a]? = some c
    · have hat := at_one.mpr hc
      have hb : StrLaws.occBody x (sg c) x.length limit a st = pure (ForInStep.yield (st.fst.push a, a + (sg c).length)) := by
        unfold StrLaws.occBody
        rw [if_pos ⟨⟨⟨by omega, h1⟩, hat.1⟩, hat.2⟩]
      rw [hb]
      show (forIn (List.range' (a + 1) k) (st.fst.push a, a + (sg c).length) (StrLaws.occBody x (sg c) x.length limit)).run.fst.toList = _
      rw [occ_all k (a + 1) (st.fst.push a, a + (sg c).length) (by rw [sg_len]; exact Nat.le_refl _) (by rw [Array.size_push]; omega)]
      rw [Array.toList_push, List.filter_cons, if_pos (by rw [hc]; simp)]
      simp
    · have hb : StrLaws.occBody x (sg c) x.length limit a st = pure (ForInStep.yield (st.fst, st.snd)) := by
        unfold StrLaws.occBody
        rw [if_neg (fun h => hc (at_one.mp ⟨h.1.2, h.2⟩))]
      rw [hb]
      show (forIn (List.range' (a + 1) k) (st.fst, st.snd) (StrLaws.occBody x (sg c) x.length limit)).run.fst.toList = _
      rw [occ_all k (a + 1) (st.fst, st.snd) (by show st.2 ≤ a + 1; omega) (by show st.1.size + k ≤ limit; omega)]
      rw [List.filter_cons, if_neg (by simp [hc])]
theorem occ_list (x : Str) (c : Nat) : occurrences x (sg c) 0 x.length (x.length + 1) = (List.range' 0 (x.length + 1)).filter fun i => decide (x.cps[i]? = some c) := by
  rw [StrLaws.occ_eq, occ_all _ 0 _ (Nat.le_refl _) (by show 0 + _ ≤ _; omega)]
  rfl
/-- the parts have none of them -/
theorem parts_no {x : Str} {c : Nat} : ∀ (cuts : List Nat) (a : Nat), cuts.Pairwise (· < ·) → (∀ i ∈ cuts, a ≤ i) → (∀ i, a ≤ i → x.cps[i]? = some c → i ∈ cuts) → ∀ p ∈ StrLaws.partsFrom x 1 a cuts, c ∉ p.cps.toList
  | [], a, _, _, h3, p, hp, hc => by
    simp only [StrLaws.partsFrom, List.mem_singleton] at hp
    subst hp
    rw [StrLaws.strSub_toList] at hc
    obtain ⟨j, hj⟩ := List.mem_iff_getElem?.mp hc
    rw [List.getElem?_take] at hj
    split at hj
    · rw [List.getElem?_drop] at hj
      have := h3 (a + j) (by omega) (by simpa using hj)
      cases this
    · cases hj
  | k :: cuts, a, h1, h2, h3, p, hp, hc => by
    rw [List.pairwise_cons] at h1
    have ha := h2 k List.mem_cons_self
    simp only [StrLaws.partsFrom, List.mem_cons] at hp
    rcases hp with hp | hp
    · subst hp
      rw [StrLaws.strSub_toList] at hc
      obtain ⟨j, hj⟩ := List.mem_iff_getElem?.mp hc
      rw [List.getElem?_take] at hj
      split at hj
      · rename_i hlt
        rw [List.getElem?_drop] at hj
        have := h3 (a + j) (by omega) (by simpa using hj)
        rcases List.mem_cons.mp this with e | e
        · omega
        · have := h1.1 _ e
          omega
      · cases hj
    · refine parts_no cuts (k + 1) h1.2 (fun i hi => h1.1 i hi) (fun i hi hx => ?_) p hp hc
      rcases List.mem_cons.mp (h3 i (by omega) hx) with e | e
      · omega
      · exact e
theorem split_no {x : Str} {c : Nat} (hc : c < 256) : ∀ p ∈ Txt.split x (sg c), c ∉ p.cps.toList := by
  intro p hp
  have hk : PySem.Builtin.Str.strKind (sg c) = 1 := by
    unfold PySem.Builtin.Str.strKind sg
    simp [hc]
  have hk2 : 1 ≤ PySem.Builtin.Str.strKind x := by
    unfold PySem.Builtin.Str.strKind
    split
    · exact Nat.le_refl _
    · split <;> omega
  unfold Txt.split at hp
  split at hp
  · rename_i h
    rw [List.mem_singleton] at hp
    subst hp
    simp only [Bool.or_eq_true, decide_eq_true_eq, sg_len, hk] at h
    have h0 : p.length = 0 := by
      rcases h with h | h
      · have h : p.length < 1 := of_decide_eq_true h
        omega
      · exact absurd hk2 (Nat.not_le.mpr h)
    intro hm
    have : p.cps.toList.length = 0 := by simpa [Str.length] using h0
    rw [List.eq_nil_of_length_eq_zero this] at hm
    cases hm
  · split at hp
    · rename_i h
      rw [List.mem_singleton] at hp
      subst hp
      rw [occ_list, List.isEmpty_iff] at h
      intro hm
      obtain ⟨j, hj⟩ := List.mem_iff_getElem?.mp hm
      have hj2 : p.cps[j]? = some c := by simpa using hj
      have lt := (Array.getElem?_eq_some_iff.mp hj2).1
      have : j ∈ (List.range' 0 (p.length + 1)).filter fun i => decide (p.cps[i]? = some c) := by
        rw [List.mem_filter, List.mem_range']
        exact ⟨⟨j, by show j < p.cps.size + 1; omega, by omega⟩, by simpa using hj2⟩
      rw [h] at this
      cases this
    · rw [StrLaws.partsBetween_eq, occ_list] at hp
      refine parts_no _ 0 ?_ (fun i _ => Nat.zero_le _) (fun i _ hx => ?_) p hp
      · exact List.Pairwise.filter _ List.pairwise_lt_range'
      · have lt := (Array.getElem?_eq_some_iff.mp hx).1
        rw [List.mem_filter, List.mem_range']
        exact ⟨⟨i, by show i < x.cps.size + 1; omega, by omega⟩, by simpa using hx⟩
theorem split_ne (x y : Str) : Txt.split x y ≠ [] := by
  unfold Txt.split
  split
  · simp
  · split
    · simp
    · rw [StrLaws.partsBetween_eq]
      obtain ⟨p, r, e⟩ := StrLaws.partsFrom_ne x y.length 0 (occurrences x y 0 x.length (x.length + 1))
      rw [e]; simp
/-- texts without the sign, put together: the parts can be told -/
theorem app_inj {c : Nat} : ∀ {p q r s : List Nat}, c ∉ p → c ∉ q → p ++ c :: r = q ++ c :: s → p = q ∧ r = s
  | [], [], r, s, _, _, h => by injection h with _ h; exact ⟨rfl, h⟩
  | [], b :: q, r, s, _, hq, h => by
    injection h with h1 _
    exact absurd (by rw [← h1]; exact List.mem_cons_self) hq
  | a :: p, [], r, s, hp, _, h => by
    injection h with h1 _
    exact absurd (by rw [h1]; exact List.mem_cons_self) hp
  | a :: p, b :: q, r, s, hp, hq, h => by
    injection h with h1 h2
    obtain ⟨e1, e2⟩ := app_inj (fun z => hp (List.mem_cons_of_mem _ z)) (fun z => hq (List.mem_cons_of_mem _ z)) h2
    rw [h1, e1]
    exact ⟨rfl, e2⟩
def glue (c : Nat) : List Str → List Nat
  | [] => []
  | [p] => p.cps.toList
  | p :: q :: r => p.cps.toList ++ c :: glue c (q :: r)
theorem join_glue (c : Nat) : ∀ ps : List Str, (Str.join (sg c) ps).cps.toList = glue c ps
  | [] => rfl
  | [p] => rfl
  | p :: q :: r => by
    show (p ++ sg c ++ Str.join (sg c) (q :: r)).cps.toList = _
    rw [Str.cps_append, Str.cps_append, Array.toList_append, Array.toList_append, join_glue c (q :: r)]
    show p.cps.toList ++ [c] ++ glue c (q :: r) = p.cps.toList ++ c :: glue c (q :: r)
    simp
theorem str_ext {x y : Str} (h : x.cps.toList = y.cps.toList) : x = y := Str.ext' (Array.toList_inj.mp h)
theorem glue_inj {c : Nat} : ∀ {ps qs : List Str}, ps ≠ [] → qs ≠ [] → (∀ p ∈ ps, c ∉ p.cps.toList) → (∀ q ∈ qs, c ∉ q.cps.toList) → glue c ps = glue c qs → ps = qs
  | [], _, h, _, _, _, _ => absurd rfl h
  | _, [], _, h, _, _, _ => absurd rfl h
  | [p], [q], _, _, _, _, h => by rw [str_ext h]
  | [p], q :: q2 :: r, _, _, hp, _, h => by
    exfalso
    have h : p.cps.toList = q.cps.toList ++ c :: glue c (q2 :: r) := h
    exact hp p List.mem_cons_self (by rw [h]; simp)
  | p :: p2 :: r, [q], _, _, _, hq, h => by
    exfalso
    have h : p.cps.toList ++ c :: glue c (p2 :: r) = q.cps.toList := h
    exact hq q List.mem_cons_self (by rw [← h]; simp)
  | p :: p2 :: r, q :: q2 :: s, _, _, hp, hq, h => by
    obtain ⟨e1, e2⟩ := app_inj (hp p List.mem_cons_self) (hq q List.mem_cons_self) h
    rw [str_ext e1, glue_inj (by simp) (by simp) (fun x hx => hp x (List.mem_cons_of_mem _ hx)) (fun x hx => hq x (List.mem_cons_of_mem _ hx)) e2]
/-- a text that is put together, split -/
theorem split_join {c : Nat} (hc : c < 256) {ps : List Str} (h0 : ps ≠ []) (h : ∀ p ∈ ps, c ∉ p.cps.toList) : Txt.split (Str.join (sg c) ps) (sg c) = ps := by
  refine glue_inj (split_ne _ _) h0 (split_no hc) h ?_
  rw [← join_glue, ← join_glue, StrLaws.join_split]
theorem txt_join (y : Str) (ps : List Str) : Txt.join y ps = Str.join y ps := StrLaws.glued_eq_join y ps
theorem join_split' (x : Str) (c : Nat) : Txt.join (sg c) (Txt.split x (sg c)) = x := by rw [txt_join, StrLaws.join_split]
end Fs
end
section
set_option Elab.async false
set_option linter.all false
set_option maxRecDepth 100000
set_option maxHeartbeats 4000000
namespace Fs
open PySem PySem.Spec PyProof.Rows L2 LamX

/-! ### what a chain makes of a number -/
def Way.plain (w : Way) (sg : Int) : Way := match w with
  | .low => if 0 < sg then .zero else .away
  | .high => if 0 < sg then .away else .zero
  | w => w
def plainSteps : List St1 → Int → List St1 × Int
  | [], s => ([], s)
  | .turn :: c, s => plainSteps c (-s)
  | .tens k :: c, s => (.tens k :: (plainSteps c s).1, (plainSteps c s).2)
  | .figs k w :: c, s => (.figs k (w.plain s) :: (plainSteps c s).1, (plainSteps c s).2)
  | .steps u w :: c, s => (.steps u (w.plain s) :: (plainSteps c s).1, (plainSteps c s).2)
def goesUp (w : Way) (rest unit times : Nat) : Bool :=
  if rest = 0 ∨ w = .zero then false else if w = .away ∨ unit < 2 * rest then true else decide (2 * rest = unit) && (decide (w = .near) || decide (times % 2 = 1))
def roundN (w : Way) (u n : Nat) : Nat := (n / u + if goesUp w (n % u) u (n / u) = true then 1 else 0) * u
def unitN : St1 → Nat → Nat
  | .figs k _, n => 10 ^ (nd n - k)
  | .steps u _, _ => u
  | _, _ => 1
def stepN : St1 → Nat → Nat
  | .turn, n => n
  | .tens k, n => n * 10 ^ k
  | .figs k w, n => roundN w (10 ^ (nd n - k)) n
  | .steps u w, n => roundN w u n
def sizeB (p : List St1) (n : Nat) : Nat := p.foldl (fun n s => stepN s n) n
def numB (c : List St1) (x : Int) : Int := (plainSteps c (if 0 ≤ x then 1 else -1)).2 * (sizeB (plainSteps c (if 0 ≤ x then 1 else -1)).1 x.natAbs : Nat)
/-- a plain step -/
def St1.pln : St1 → Prop
  | .turn => False
  | .tens _ => True
  | .figs _ w => w ≠ .low ∧ w ≠ .high
  | .steps _ w => w ≠ .low ∧ w ≠ .high
def PlOk (p : List St1) : Prop := p.length ≤ 8 ∧ ∀ s ∈ p, s.ok ∧ s.pln
theorem Way.plain_pln (w : Way) (s : Int) : w.plain s ≠ .low ∧ w.plain s ≠ .high := by
  cases w <;> simp only [Way.plain] <;> first | (split <;> simp) | simp
theorem plainSteps_mem : ∀ {c : List St1} {s : Int}, (∀ x ∈ c, x.ok) → (∀ x ∈ (plainSteps c s).1, x.ok ∧ x.pln) ∧ (plainSteps c s).1.length ≤ c.length
  | [], s, h => ⟨by simp [plainSteps], by simp [plainSteps]⟩
  | .turn :: c, s, h => by
    have := plainSteps_mem (c := c) (s := -s) fun x hx => h x (List.mem_cons_of_mem _ hx)
    simp only [plainSteps, List.length_cons]
    exact ⟨this.1, by omega⟩
  | .tens k :: c, s, h => by
    have := plainSteps_mem (c := c) (s := s) fun x hx => h x (List.mem_cons_of_mem _ hx)
    simp only [plainSteps, List.length_cons, List.mem_cons, forall_eq_or_imp]
    exact ⟨⟨⟨h (.tens k) (by simp), trivial⟩, this.1⟩, by omega⟩
  | .figs k w :: c, s, h => by
    have := plainSteps_mem (c := c) (s := s) fun x hx => h x (List.mem_cons_of_mem _ hx)
    simp only [plainSteps, List.length_cons, List.mem_cons, forall_eq_or_imp]
    exact ⟨⟨⟨h (.figs k w) (by simp), w.plain_pln s⟩, this.1⟩, by omega⟩
  | .steps k w :: c, s, h => by
    have := plainSteps_mem (c := c) (s := s) fun x hx => h x (List.mem_cons_of_mem _ hx)
    simp only [plainSteps, List.length_cons, List.mem_cons, forall_eq_or_imp]
    exact ⟨⟨⟨h (.steps k w) (by simp), w.plain_pln s⟩, this.1⟩, by omega⟩
theorem ChOk.plain {c : List St1} (h : ChOk c) (s : Int) : PlOk (plainSteps c s).1 := by
  have := plainSteps_mem (s := s) h.2
  exact ⟨by have := h.1; omega, this.1⟩
theorem plainSteps_sign : ∀ {c : List St1} {s : Int}, s = 1 ∨ s = -1 → (plainSteps c s).2 = 1 ∨ (plainSteps c s).2 = -1
  | [], s, h => h
  | .turn :: c, s, h => plainSteps_sign (c := c) (s := -s) (by omega)
  | .tens k :: c, s, h => plainSteps_sign (c := c) h
  | .figs k w :: c, s, h => plainSteps_sign (c := c) h
  | .steps k w :: c, s, h => plainSteps_sign (c := c) h
theorem unit_pos {s : St1} {n : Nat} (h : s.ok) : 0 < unitN s n := by
  cases s with
  | steps u w => have := size_b h; show 0 < u; omega
  | figs k w => exact Nat.pow_pos (by decide)
  | _ => exact Nat.one_pos
theorem roundN_le (w : Way) (u n : Nat) : roundN w u n ≤ n + u := by
  unfold roundN
  have := Nat.div_mul_le_self n u
  rw [Nat.add_mul]
  split <;> omega
theorem fig_unit_le {k n : Nat} (hk : 1 ≤ k) : 10 ^ (nd n - k) ≤ n + 1 := by
  by_cases h0 : n = 0
  · subst h0
    have : nd 0 = 1 := nd_lt (by decide)
    rw [this, show 1 - k = 0 by omega]; decide
  · have := (nd_bounds n).2 (by omega)
    have h2 : 10 ^ (nd n - k) ≤ 10 ^ (nd n - 1) := Nat.pow_le_pow_right (by decide) (by omega)
    omega
theorem stepN_lt {s : St1} {n B : Nat} (h : s.ok) (hn : n < 10 ^ B) : stepN s n < 10 ^ (B + 8) := by
  have p8 : 10 ^ (B + 8) = 10 ^ B * 100000000 := by rw [Nat.pow_add]
  have pb : 0 < 10 ^ B := Nat.pow_pos (by decide)
  cases s with
  | turn => show n < _; omega
  | tens k =>
    have : 10 ^ k ≤ 10 ^ 3 := Nat.pow_le_pow_right (by decide) h.2
    have h2 : n * 10 ^ k ≤ n * 10 ^ 3 := Nat.mul_le_mul_left _ this
    show n * 10 ^ k < _
    omega
  | figs k w =>
    have := roundN_le w (10 ^ (nd n - k)) n
    have h2 := fig_unit_le (n := n) h.1
    show roundN w (10 ^ (nd n - k)) n < _
    omega
  | steps u w =>
    have := roundN_le w u n
    have h2 := size_b (show u ∈ sizesN from h)
    show roundN w u n < _
    omega
theorem sizeB_lt {p : List St1} (h : ∀ s ∈ p, s.ok) : ∀ {n B : Nat}, n < 10 ^ B → sizeB p n < 10 ^ (B + 8 * p.length) := by
  induction p with
  | nil => intro n B hn; simpa [sizeB] using hn
  | cons s p ih =>
    intro n B hn
    have := ih (fun x hx => h x (List.mem_cons_of_mem _ hx)) (stepN_lt (h s List.mem_cons_self) hn)
    have e : B + 8 + 8 * p.length = B + 8 * (s :: p).length := by simp; omega
    rw [e] at this
    exact this

def t_need_number (er : Str → Addr) : TSD :=
  (dIfS (dNot (dTru (dCall 3 sp_is_whole (dCons (dVar 0) (dCons (dNeg (dC (D.int 1000000000000000000000000000000))) (dCons (dC (D.int 1000000000000000000000000000000)) dNil))))))
    (dRaise (er "InvalidNumber"))
    dNext)
def sp_need_number (er : Str → Addr) : SpD := fun as S Q E => ∃ v, as = [.d v] ∧ v.tn.isSome = true ∧ (isWh v (-1000000000000000000000000000000) 1000000000000000000000000000000 = true → Q .non S) ∧ (isWh v (-1000000000000000000000000000000) 1000000000000000000000000000000 = false → E (.ref (er "InvalidNumber")) S)
theorem sp_need_number_mono {er : Str → Addr} : MonoSp (sp_need_number er) := fun as S Q Q' E E' hq he ⟨v, h1, h2, h3, h4⟩ => ⟨v, h1, h2, fun h => hq _ _ (h3 h), fun h => he _ _ (h4 h)⟩
theorem p_need_number {er : Str → Addr} (as : List Va) (S : Store) (Q : QD) (E : EX) (h : sp_need_number er as S Q E) : t_need_number er (rtE Q E) (startD 1 as) S := by
  obtain ⟨v, rfl, hv, h1, h2⟩ := h
  simp only [t_need_number, s_seq, s_next, s_ret, s_retN, s_drop, s_ifS, s_asg, s_par, s_raise, s_for, rt_nx, rt_rt, rt_ex, s_gN, s_gT, s_gTl, setAll_nil, setAll_cons, wipe_nil, wipe_cons, s_start, s_var, s_c, s_bin, s_test, s_chain, s_tru, s_and, s_or, s_not, s_andV, s_orV, s_notV, s_if, s_nil, s_cons, s_tup, s_lst, s_neg, s_cb, s_itS, s_rng1, s_rng2, s_lc, s_yes, s_newL, s_part, s_nop, s_slice, s_rev, s_m1, s_call, s_app, s_setIx, s_dnew, s_done, s_dput, s_dget2, key_s, key_i, cellK_, tru_str, in_s, mul_ti, mul_li, s_onB, s_condB, tru_bl, tru_int, tru_non, tru_tup, tru_lst, add_ii, add_ss, add_tt, add_ll, sub_ii, mul_ii, mul_si, fdiv_ii, mod_ii, pow_ii, cmp_ii, eq_ii, eq_ss, ne_ii, ne_ss, is_nn, is_bb, is_in, is_sn, is_tn, is_ln, ix_t, ix_l, ix_loc, at_, len_t, len_l, len_scr, len_s, abs_i, int_i, int_b, int_s, str_i, str_s, bool_b, list_t, list_l, tuple_t, tuple_l, tuple_loc, list_loc, isi_, sum_l, max_ii, min_ii, slice_t, slice_l, slice_s, tn_int, tn_bl, tn_str, tn_non, tn_tup, tn_lst, cell_, strOk_of, atI_0, atI_1, atI_2, List.map_cons, List.map_nil, List.length_cons, List.length_nil, List.replicate_succ, List.replicate_zero, List.nil_append, List.cons_append, List.append_nil, List.getElem?_cons_zero, List.getElem?_cons_succ, List.set_cons_zero, List.set_cons_succ, Nat.reduceAdd, Nat.reduceSub, Nat.sub_self, Bool.not_true, Bool.not_false, if_true, if_false, reduceIte, Bool.false_eq_true, Bool.true_eq_false, true_and, and_true, decide_eq_true_eq, Bool.not_eq_true', decide_eq_false_iff_not, ne_eq, not_true_eq_false, not_false_eq_true, ofString_inj]
  refine ⟨v, _, _, rfl, hv, ?_⟩
  cases h : isWh v (-1000000000000000000000000000000) 1000000000000000000000000000000 with
  | true => simpa using h1 h
  | false => simpa using h2 h
def t_plain_way : TSD :=
  (dSeq (dIfS (dTest (dBin eqD (dVar 0) (dC (.str "low"))))
    (dRet (dIf (dTest (dBin gtD (dVar 1) (dC (.int 0)))) (dC (.str "zero")) (dC (.str "away"))))
    dNext)
  (dSeq (dIfS (dTest (dBin eqD (dVar 0) (dC (.str "high"))))
    (dRet (dIf (dTest (dBin gtD (dVar 1) (dC (.int 0)))) (dC (.str "away")) (dC (.str "zero"))))
    dNext)
  (dRet (dVar 0))))
def sp_plain_way : SpD := fun as S Q _ => ∃ (w : Way) (s : Int), as = [.d (.str w.s), .d (.int s)] ∧ Q (.str (w.plain s).s) S
theorem sp_plain_way_mono : MonoSp sp_plain_way := fun as S Q Q' E E' hq he ⟨v, x, h1, h2⟩ => ⟨v, x, h1, hq _ _ h2⟩
theorem p_plain_way (as : List Va) (S : Store) (Q : QD) (E : EX) (h : sp_plain_way as S Q E) : t_plain_way (rtE Q E) (startD 2 as) S := by
  obtain ⟨w, s, rfl, h⟩ := h
  by_cases hs : 0 < s <;> cases w <;> simp [t_plain_way, Way.s, hs, Way.plain] at h ⊢ <;> exact h
def t_plain_steps : TSD :=
  (dSeq (dAsg (dNewL dNil) (gN 2))
  (dSeq (dFor (dItS (dVar 0)) (gN 3)
    (dIfS (dTest (dBin eqD (dBin ixD (dVar 3) (dC (.int 0))) (dC (.str "turn"))))
      (dAsg (dNeg (dVar 1)) (gN 1))
      (dIfS (dTest (dBin eqD (dBin ixD (dVar 3) (dC (.int 0))) (dC (.str "tens"))))
        (dApp (dVar 2) (dVar 3))
        (dApp (dVar 2) (dTup (dCons (dBin ixD (dVar 3) (dC (.int 0))) (dCons (dBin ixD (dVar 3) (dC (.int 1))) (dCons (dCall 2 sp_plain_way (dCons (dBin ixD (dVar 3) (dC (.int 2))) (dCons (dVar 1) dNil))) dNil))))))))
  (dRet (dTup (dCons (dCB tupleD (dCons (dVar 2) dNil)) (dCons (dVar 1) dNil))))))
def sp_plain_steps : SpD := fun as S Q _ => ∃ (c : List St1) (s : Int), as = [.d (chD c), .d (.int s)] ∧ c.length ≤ 8 ∧ Q (.tup [.tup ((plainSteps c s).1.map St1.d), .int (plainSteps c s).2]) S
theorem sp_plain_steps_mono : MonoSp sp_plain_steps := fun as S Q Q' E E' hq he ⟨v, x, h1, h2, h3⟩ => ⟨v, x, h1, h2, hq _ _ h3⟩
theorem lb_steps (n : Nat) : ∀ p : List St1, D.lb.lbs n (p.map St1.d) = true
  | [] => rfl
  | s :: p => by
    have : s.d.lb n = true := by cases s <;> rfl
    show (s.d.lb n && D.lb.lbs n (p.map St1.d)) = true
    rw [this, lb_steps n p]; rfl
theorem p_plain_steps (as : List Va) (S : Store) (Q : QD) (E : EX) (h : sp_plain_steps as S Q E) : t_plain_steps (rtE (Pur S Q) E) (startD 4 as) S := by
  obtain ⟨c, s, rfl, hc, hq⟩ := h
  have e3 : chD c = .tup (c.map St1.d) := rfl
  rw [e3]
  simp only [t_plain_steps, s_seq, s_next, s_ret, s_retN, s_drop, s_ifS, s_asg, s_par, s_raise, s_for, rt_nx, rt_rt, rt_ex, s_gN, s_gT, s_gTl, setAll_nil, setAll_cons, wipe_nil, wipe_cons, s_start, s_var, s_c, s_bin, s_test, s_chain, s_tru, s_and, s_or, s_not, s_andV, s_orV, s_notV, s_if, s_nil, s_cons, s_tup, s_lst, s_neg, s_cb, s_itS, s_rng1, s_rng2, s_lc, s_yes, s_newL, s_part, s_nop, s_slice, s_rev, s_m1, s_call, s_app, s_setIx, s_dnew, s_done, s_dput, s_dget2, key_s, key_i, cellK_, tru_str, in_s, mul_ti, mul_li, s_onB, s_condB, tru_bl, tru_int, tru_non, tru_tup, tru_lst, add_ii, add_ss, add_tt, add_ll, sub_ii, mul_ii, mul_si, fdiv_ii, mod_ii, pow_ii, cmp_ii, eq_ii, eq_ss, ne_ii, ne_ss, is_nn, is_bb, is_in, is_sn, is_tn, is_ln, ix_t, ix_l, ix_loc, at_, len_t, len_l, len_scr, len_s, abs_i, int_i, int_b, int_s, str_i, str_s, bool_b, list_t, list_l, tuple_t, tuple_l, tuple_loc, list_loc, isi_, sum_l, max_ii, min_ii, slice_t, slice_l, slice_s, tn_int, tn_bl, tn_str, tn_non, tn_tup, tn_lst, cell_, strOk_of, atI_0, atI_1, atI_2, List.map_cons, List.map_nil, List.length_cons, List.length_nil, List.replicate_succ, List.replicate_zero, List.nil_append, List.cons_append, List.append_nil, List.getElem?_cons_zero, List.getElem?_cons_succ, List.set_cons_zero, List.set_cons_succ, Nat.reduceAdd, Nat.reduceSub, Nat.sub_self, Bool.not_true, Bool.not_false, if_true, if_false, reduceIte, Bool.false_eq_true, Bool.true_eq_false, true_and, and_true, decide_eq_true_eq, Bool.not_eq_true', decide_eq_false_iff_not, ne_eq, not_true_eq_false, not_false_eq_true, ofString_inj]
  refine ⟨by decide, ?_⟩
  have get : ∀ (xs : List D), (S ++ [Cell.lst xs])[S.length]? = some (.lst xs) := fun xs => by
    rw [List.getElem?_append_right (Nat.le_refl _), Nat.sub_self]; rfl
  have set : ∀ (xs ys : List D), (S ++ [Cell.lst xs]).set S.length (.lst ys) = S ++ [Cell.lst ys] := fun xs ys => by
    rw [List.set_append_right _ _ (Nat.le_refl _), Nat.sub_self]; rfl
  refine forD_inv (fun xs env S' => ∃ (c' acc : List St1) (s' : Int) (st : Option Va), xs = c'.map St1.d ∧ env = [some (.d (.tup (c.map St1.d))), some (.d (.int s')), some (.d (.loc S.length)), st] ∧ S' = S ++ [.lst (acc.map St1.d)] ∧
    acc.length + c'.length ≤ 8 ∧ plainSteps c s = (acc ++ (plainSteps c' s').1, (plainSteps c' s').2)) ?_ ?_ _ _ _ ⟨c, [], s, none, rfl, rfl, rfl, by simpa using hc, rfl⟩
  · rintro env S' ⟨c', acc, s', st, h1, rfl, rfl, h4, h5⟩
    obtain rfl : c' = [] := by simpa using h1.symm
    simp only [s_seq, s_next, s_ret, s_retN, s_drop, s_ifS, s_asg, s_par, s_raise, s_for, rt_nx, rt_rt, rt_ex, s_gN, s_gT, s_gTl, setAll_nil, setAll_cons, wipe_nil, wipe_cons, s_start, s_var, s_c, s_bin, s_test, s_chain, s_tru, s_and, s_or, s_not, s_andV, s_orV, s_notV, s_if, s_nil, s_cons, s_tup, s_lst, s_neg, s_cb, s_itS, s_rng1, s_rng2, s_lc, s_yes, s_newL, s_part, s_nop, s_slice, s_rev, s_m1, s_call, s_app, s_setIx, s_dnew, s_done, s_dput, s_dget2, key_s, key_i, cellK_, tru_str, in_s, mul_ti, mul_li, s_onB, s_condB, tru_bl, tru_int, tru_non, tru_tup, tru_lst, add_ii, add_ss, add_tt, add_ll, sub_ii, mul_ii, mul_si, fdiv_ii, mod_ii, pow_ii, cmp_ii, eq_ii, eq_ss, ne_ii, ne_ss, is_nn, is_bb, is_in, is_sn, is_tn, is_ln, ix_t, ix_l, ix_loc, at_, len_t, len_l, len_scr, len_s, abs_i, int_i, int_b, int_s, str_i, str_s, bool_b, list_t, list_l, tuple_t, tuple_l, tuple_loc, list_loc, isi_, sum_l, max_ii, min_ii, slice_t, slice_l, slice_s, tn_int, tn_bl, tn_str, tn_non, tn_tup, tn_lst, cell_, strOk_of, atI_0, atI_1, atI_2, List.map_cons, List.map_nil, List.length_cons, List.length_nil, List.replicate_succ, List.replicate_zero, List.nil_append, List.cons_append, List.append_nil, List.getElem?_cons_zero, List.getElem?_cons_succ, List.set_cons_zero, List.set_cons_succ, Nat.reduceAdd, Nat.reduceSub, Nat.sub_self, Bool.not_true, Bool.not_false, if_true, if_false, reduceIte, Bool.false_eq_true, Bool.true_eq_false, true_and, and_true, decide_eq_true_eq, Bool.not_eq_true', decide_eq_false_iff_not, ne_eq, not_true_eq_false, not_false_eq_true, ofString_inj, get]
    refine ⟨by decide, ⟨_, rfl⟩, ?_, ?_⟩
    · show (D.lb.lbs S.length (acc.map St1.d) && (true && true)) = true
      rw [lb_steps]; rfl
    · rw [h5] at hq
      simpa [plainSteps] using hq
  · rintro x xs env S' K hK ⟨c', acc, s', st, h1, rfl, rfl, h4, h5⟩
    cases c' with
    | nil => cases h1
    | cons t c' =>
      injection h1 with h1 h2
      subst h1 h2
      have hl : acc.length < 8 := by simp at h4; omega
      cases t with
      | turn =>
        simp only [St1.d, s_seq, s_next, s_ret, s_retN, s_drop, s_ifS, s_asg, s_par, s_raise, s_for, rt_nx, rt_rt, rt_ex, s_gN, s_gT, s_gTl, setAll_nil, setAll_cons, wipe_nil, wipe_cons, s_start, s_var, s_c, s_bin, s_test, s_chain, s_tru, s_and, s_or, s_not, s_andV, s_orV, s_notV, s_if, s_nil, s_cons, s_tup, s_lst, s_neg, s_cb, s_itS, s_rng1, s_rng2, s_lc, s_yes, s_newL, s_part, s_nop, s_slice, s_rev, s_m1, s_call, s_app, s_setIx, s_dnew, s_done, s_dput, s_dget2, key_s, key_i, cellK_, tru_str, in_s, mul_ti, mul_li, s_onB, s_condB, tru_bl, tru_int, tru_non, tru_tup, tru_lst, add_ii, add_ss, add_tt, add_ll, sub_ii, mul_ii, mul_si, fdiv_ii, mod_ii, pow_ii, cmp_ii, eq_ii, eq_ss, ne_ii, ne_ss, is_nn, is_bb, is_in, is_sn, is_tn, is_ln, ix_t, ix_l, ix_loc, at_, len_t, len_l, len_scr, len_s, abs_i, int_i, int_b, int_s, str_i, str_s, bool_b, list_t, list_l, tuple_t, tuple_l, tuple_loc, list_loc, isi_, sum_l, max_ii, min_ii, slice_t, slice_l, slice_s, tn_int, tn_bl, tn_str, tn_non, tn_tup, tn_lst, cell_, strOk_of, atI_0, atI_1, atI_2, List.map_cons, List.map_nil, List.length_cons, List.length_nil, List.replicate_succ, List.replicate_zero, List.nil_append, List.cons_append, List.append_nil, List.getElem?_cons_zero, List.getElem?_cons_succ, List.set_cons_zero, List.set_cons_succ, Nat.reduceAdd, Nat.reduceSub, Nat.sub_self, Bool.not_true, Bool.not_false, if_true, if_false, reduceIte, Bool.false_eq_true, Bool.true_eq_false, true_and, and_true, decide_eq_true_eq, Bool.not_eq_true', decide_eq_false_iff_not, ne_eq, not_true_eq_false, not_false_eq_true, ofString_inj]
        exact hK _ _ ⟨c', acc, -s', _, rfl, rfl, rfl, by simp at h4; omega, h5⟩
      | tens k =>
        simp only [St1.d, s_seq, s_next, s_ret, s_retN, s_drop, s_ifS, s_asg, s_par, s_raise, s_for, rt_nx, rt_rt, rt_ex, s_gN, s_gT, s_gTl, setAll_nil, setAll_cons, wipe_nil, wipe_cons, s_start, s_var, s_c, s_bin, s_test, s_chain, s_tru, s_and, s_or, s_not, s_andV, s_orV, s_notV, s_if, s_nil, s_cons, s_tup, s_lst, s_neg, s_cb, s_itS, s_rng1, s_rng2, s_lc, s_yes, s_newL, s_part, s_nop, s_slice, s_rev, s_m1, s_call, s_app, s_setIx, s_dnew, s_done, s_dput, s_dget2, key_s, key_i, cellK_, tru_str, in_s, mul_ti, mul_li, s_onB, s_condB, tru_bl, tru_int, tru_non, tru_tup, tru_lst, add_ii, add_ss, add_tt, add_ll, sub_ii, mul_ii, mul_si, fdiv_ii, mod_ii, pow_ii, cmp_ii, eq_ii, eq_ss, ne_ii, ne_ss, is_nn, is_bb, is_in, is_sn, is_tn, is_ln, ix_t, ix_l, ix_loc, at_, len_t, len_l, len_scr, len_s, abs_i, int_i, int_b, int_s, str_i, str_s, bool_b, list_t, list_l, tuple_t, tuple_l, tuple_loc, list_loc, isi_, sum_l, max_ii, min_ii, slice_t, slice_l, slice_s, tn_int, tn_bl, tn_str, tn_non, tn_tup, tn_lst, cell_, strOk_of, atI_0, atI_1, atI_2, List.map_cons, List.map_nil, List.length_cons, List.length_nil, List.replicate_succ, List.replicate_zero, List.nil_append, List.cons_append, List.append_nil, List.getElem?_cons_zero, List.getElem?_cons_succ, List.set_cons_zero, List.set_cons_succ, Nat.reduceAdd, Nat.reduceSub, Nat.sub_self, Bool.not_true, Bool.not_false, if_true, if_false, reduceIte, Bool.false_eq_true, Bool.true_eq_false, true_and, and_true, decide_eq_true_eq, Bool.not_eq_true', decide_eq_false_iff_not, ne_eq, not_true_eq_false, not_false_eq_true, ofString_inj, get, set]
        simp
        refine ⟨by omega, hK _ _ ⟨c', acc ++ [.tens k], s', _, rfl, rfl, by simp [St1.d], by simp at h4 ⊢; omega, by rw [h5]; simp [plainSteps]⟩⟩
      | figs k w =>
        simp only [St1.d, s_seq, s_next, s_ret, s_retN, s_drop, s_ifS, s_asg, s_par, s_raise, s_for, rt_nx, rt_rt, rt_ex, s_gN, s_gT, s_gTl, setAll_nil, setAll_cons, wipe_nil, wipe_cons, s_start, s_var, s_c, s_bin, s_test, s_chain, s_tru, s_and, s_or, s_not, s_andV, s_orV, s_notV, s_if, s_nil, s_cons, s_tup, s_lst, s_neg, s_cb, s_itS, s_rng1, s_rng2, s_lc, s_yes, s_newL, s_part, s_nop, s_slice, s_rev, s_m1, s_call, s_app, s_setIx, s_dnew, s_done, s_dput, s_dget2, key_s, key_i, cellK_, tru_str, in_s, mul_ti, mul_li, s_onB, s_condB, tru_bl, tru_int, tru_non, tru_tup, tru_lst, add_ii, add_ss, add_tt, add_ll, sub_ii, mul_ii, mul_si, fdiv_ii, mod_ii, pow_ii, cmp_ii, eq_ii, eq_ss, ne_ii, ne_ss, is_nn, is_bb, is_in, is_sn, is_tn, is_ln, ix_t, ix_l, ix_loc, at_, len_t, len_l, len_scr, len_s, abs_i, int_i, int_b, int_s, str_i, str_s, bool_b, list_t, list_l, tuple_t, tuple_l, tuple_loc, list_loc, isi_, sum_l, max_ii, min_ii, slice_t, slice_l, slice_s, tn_int, tn_bl, tn_str, tn_non, tn_tup, tn_lst, cell_, strOk_of, atI_0, atI_1, atI_2, List.map_cons, List.map_nil, List.length_cons, List.length_nil, List.replicate_succ, List.replicate_zero, List.nil_append, List.cons_append, List.append_nil, List.getElem?_cons_zero, List.getElem?_cons_succ, List.set_cons_zero, List.set_cons_succ, Nat.reduceAdd, Nat.reduceSub, Nat.sub_self, Bool.not_true, Bool.not_false, if_true, if_false, reduceIte, Bool.false_eq_true, Bool.true_eq_false, true_and, and_true, decide_eq_true_eq, Bool.not_eq_true', decide_eq_false_iff_not, ne_eq, not_true_eq_false, not_false_eq_true, ofString_inj, get, set]
        simp
        refine ⟨w, s', rfl, ?_⟩
        simp [get, set]
        refine ⟨by omega, hK _ _ ⟨c', acc ++ [.figs k (w.plain s')], s', _, rfl, rfl, by simp [St1.d], by simp at h4 ⊢; omega, by rw [h5]; simp [plainSteps]⟩⟩
      | steps k w =>
        simp only [St1.d, s_seq, s_next, s_ret, s_retN, s_drop, s_ifS, s_asg, s_par, s_raise, s_for, rt_nx, rt_rt, rt_ex, s_gN, s_gT, s_gTl, setAll_nil, setAll_cons, wipe_nil, wipe_cons, s_start, s_var, s_c, s_bin, s_test, s_chain, s_tru, s_and, s_or, s_not, s_andV, s_orV, s_notV, s_if, s_nil, s_cons, s_tup, s_lst, s_neg, s_cb, s_itS, s_rng1, s_rng2, s_lc, s_yes, s_newL, s_part, s_nop, s_slice, s_rev, s_m1, s_call, s_app, s_setIx, s_dnew, s_done, s_dput, s_dget2, key_s, key_i, cellK_, tru_str, in_s, mul_ti, mul_li, s_onB, s_condB, tru_bl, tru_int, tru_non, tru_tup, tru_lst, add_ii, add_ss, add_tt, add_ll, sub_ii, mul_ii, mul_si, fdiv_ii, mod_ii, pow_ii, cmp_ii, eq_ii, eq_ss, ne_ii, ne_ss, is_nn, is_bb, is_in, is_sn, is_tn, is_ln, ix_t, ix_l, ix_loc, at_, len_t, len_l, len_scr, len_s, abs_i, int_i, int_b, int_s, str_i, str_s, bool_b, list_t, list_l, tuple_t, tuple_l, tuple_loc, list_loc, isi_, sum_l, max_ii, min_ii, slice_t, slice_l, slice_s, tn_int, tn_bl, tn_str, tn_non, tn_tup, tn_lst, cell_, strOk_of, atI_0, atI_1, atI_2, List.map_cons, List.map_nil, List.length_cons, List.length_nil, List.replicate_succ, List.replicate_zero, List.nil_append, List.cons_append, List.append_nil, List.getElem?_cons_zero, List.getElem?_cons_succ, List.set_cons_zero, List.set_cons_succ, Nat.reduceAdd, Nat.reduceSub, Nat.sub_self, Bool.not_true, Bool.not_false, if_true, if_false, reduceIte, Bool.false_eq_true, Bool.true_eq_false, true_and, and_true, decide_eq_true_eq, Bool.not_eq_true', decide_eq_false_iff_not, ne_eq, not_true_eq_false, not_false_eq_true, ofString_inj, get, set]
        simp
        refine ⟨w, s', rfl, ?_⟩
        simp [get, set]
        refine ⟨by omega, hK _ _ ⟨c', acc ++ [.steps k (w.plain s')], s', _, rfl, rfl, by simp [St1.d], by simp at h4 ⊢; omega, by rw [h5]; simp [plainSteps]⟩⟩
end Fs
end
section
set_option Elab.async false
set_option linter.all false
set_option maxRecDepth 100000
set_option maxHeartbeats 4000000
namespace Fs
open PySem PySem.Spec PyProof.Rows L2 LamX

theorem ten_log {k : Nat} (hk : k ≤ 570) : (10 ^ k).log2 < 1921 := by
  refine (Nat.log2_lt (Nat.pos_iff_ne_zero.mp (Nat.pow_pos (by decide)))).mpr ?_
  have h1 : 10 ^ k ≤ 10 ^ 570 := Nat.pow_le_pow_right (by decide) hk
  have h2 : 10 ^ 570 < 2 ^ 1921 := by decide +kernel
  omega
theorem cdivN {n u k : Nat} (h0 : 0 < u) (hu : u ≤ 10 ^ k) (hk : k ≤ 570) : CDivW (n : Int) (u : Int) := by
  refine ⟨by omega, ?_⟩
  rw [Int.natAbs_natCast]
  have h1 := ten_log hk
  have h2 : u.log2 ≤ (10 ^ k).log2 := by
    rw [Nat.le_log2 (Nat.pos_iff_ne_zero.mp (Nat.pow_pos (by decide)))]
    exact Nat.le_trans (Nat.log2_self_le (Nat.pos_iff_ne_zero.mp h0)) hu
  omega
theorem log_le {n k : Nat} (h : n ≤ 10 ^ k) (hk : k ≤ 570) : n.log2 < 1921 := by
  by_cases h0 : n = 0
  · subst h0; decide
  · have h1 := ten_log hk
    have h2 : n.log2 ≤ (10 ^ k).log2 := by
      rw [Nat.le_log2 (Nat.pos_iff_ne_zero.mp (Nat.pow_pos (by decide)))]
      exact Nat.le_trans (Nat.log2_self_le h0) h
    omega
theorem cmulN {m n k : Nat} (hm : m ≤ 10 ^ k) (hn : n ≤ 10 ^ k) (hk : k ≤ 570) : CMulA (m : Int) (n : Int) := by
  refine .inl ?_
  unfold CMulW
  rw [Int.natAbs_natCast, Int.natAbs_natCast]
  have h1 := log_le hm hk
  have h2 := log_le hn hk
  omega
def t_unit_of : TSD :=
  (dSeq (dIfS (dTest (dBin eqD (dBin ixD (dVar 0) (dC (.int 0))) (dC (.str "steps"))))
    (dRet (dBin ixD (dVar 0) (dC (.int 1))))
    dNext)
  (dRet (dCall 1 sp_ten_to (dCons (dCB maxD (dCons (dC (.int 0)) (dCons (dBin subD (dCall 1 sp_length_of (dCons (dVar 1) dNil)) (dBin ixD (dVar 0) (dC (.int 1)))) dNil))) dNil))))
def sp_unit_of : SpD := fun as S Q _ => ∃ (s : St1) (n : Nat), as = [.d s.d, .d (.int n)] ∧ ((∃ k w, s = .figs k w) ∨ ∃ u w, s = .steps u w) ∧ n < 10 ^ 560 ∧ Q (.int (unitN s n)) S
theorem sp_unit_of_mono : MonoSp sp_unit_of := fun as S Q Q' E E' hq he ⟨v, x, h1, h2, h3, h4⟩ => ⟨v, x, h1, h2, h3, hq _ _ h4⟩
theorem p_unit_of (as : List Va) (S : Store) (Q : QD) (E : EX) (h : sp_unit_of as S Q E) : t_unit_of (rtE Q E) (startD 2 as) S := by
  obtain ⟨s, n, rfl, hs, hn, h⟩ := h
  rcases hs with ⟨k, w, rfl⟩ | ⟨u, w, rfl⟩
  · simp [t_unit_of, St1.d]
    refine ⟨n, rfl, Nat.lt_of_lt_of_le hn (Nat.pow_le_pow_right (by decide) (by decide)), ?_⟩
    simp
    have hl : nd n ≤ 560 := nd_le (by decide) hn
    refine ⟨nd n - k, ?_, by omega, h⟩
    split <;> simp <;> omega
  · simp [t_unit_of, St1.d]
    exact h
def t_goes_up : TSD :=
  (dSeq (dIfS (dOr (dTest (dBin eqD (dVar 1) (dC (.int 0)))) (dTest (dBin eqD (dVar 0) (dC (.str "zero")))))
    (dRet (dC (.bl false)))
    dNext)
  (dSeq (dIfS (dOr (dTest (dBin eqD (dVar 0) (dC (.str "away")))) (dTest (dBin gtD (dBin mulD (dC (.int 2)) (dVar 1)) (dVar 2))))
    (dRet (dC (.bl true)))
    dNext)
  (dRet (dAndV (dBin eqD (dBin mulD (dC (.int 2)) (dVar 1)) (dVar 2)) (dOrV (dBin eqD (dVar 0) (dC (.str "near"))) (dBin eqD (dBin modD (dVar 3) (dC (.int 2))) (dC (.int 1))))))))
def sp_goes_up : SpD := fun as S Q _ => ∃ (w : Way) (r u t : Nat), as = [.d (.str w.s), .d (.int r), .d (.int u), .d (.int t)] ∧ w ≠ .low ∧ w ≠ .high ∧ Q (.bl (goesUp w r u t)) S
theorem sp_goes_up_mono : MonoSp sp_goes_up := fun as S Q Q' E E' hq he ⟨w, r, u, t, h1, h2, h3, h4⟩ => ⟨w, r, u, t, h1, h2, h3, hq _ _ h4⟩
theorem p_goes_up (as : List Va) (S : Store) (Q : QD) (E : EX) (h : sp_goes_up as S Q E) : t_goes_up (rtE Q E) (startD 4 as) S := by
  obtain ⟨w, r, u, t, rfl, hw1, hw2, h⟩ := h
  have m2 : ∀ c : Int, CMulA 2 c := fun c => cmull (by decide) (by decide)
  have e0 : ((r : Int) = 0) = (r = 0) := by simp
  have e1 : ((u : Int) < 2 * (r : Int)) = (u < 2 * r) := by apply propext; omega
  have e2 : (2 * (r : Int) = (u : Int)) = (2 * r = u) := by apply propext; omega
  have e3 : ((t : Int) % 2 = 1) = (t % 2 = 1) := by apply propext; omega
  cases w <;> first | exact absurd rfl hw1 | exact absurd rfl hw2 | skip
  all_goals simp [t_goes_up, Way.s, m2, e0, e1, e2, e3, goesUp] at h ⊢
  all_goals by_cases h0 : r = 0
  all_goals first | exact h | (simp [h0] at h ⊢; exact h) | skip
  all_goals by_cases h1 : u < 2 * r
  all_goals first | exact h | (simp [h0, h1] at h ⊢; exact h) | skip
  all_goals by_cases h2 : 2 * r = u
  all_goals first | exact h | (simp [h0, h1, h2] at h ⊢; exact h)
theorem big1 : 10 ^ 550 + 1 ≤ 10 ^ 560 := by decide +kernel
theorem big2 : 1000000 ≤ 10 ^ 560 := by decide +kernel
def t_stepped : TSD :=
  (dSeq (dIfS (dTest (dBin eqD (dBin ixD (dVar 0) (dC (.int 0))) (dC (.str "tens"))))
    (dRet (dBin mulD (dVar 1) (dCall 1 sp_ten_to (dCons (dBin ixD (dVar 0) (dC (.int 1))) dNil))))
    dNext)
  (dSeq (dAsg (dCall 2 sp_unit_of (dCons (dVar 0) (dCons (dVar 1) dNil))) (gN 2))
  (dSeq (dPar [3, 4] (dCons (dBin fdivD (dVar 1) (dVar 2)) (dCons (dBin modD (dVar 1) (dVar 2)) dNil)))
  (dRet (dBin mulD (dBin addD (dVar 3) (dIf (dTru (dCall 4 sp_goes_up (dCons (dBin ixD (dVar 0) (dC (.int 2))) (dCons (dVar 4) (dCons (dVar 2) (dCons (dVar 3) dNil)))))) (dC (.int 1)) (dC (.int 0)))) (dVar 2))))))
def sp_stepped : SpD := fun as S Q _ => ∃ (s : St1) (n : Nat), as = [.d s.d, .d (.int n)] ∧ s.ok ∧ s.pln ∧ n < 10 ^ 550 ∧ Q (.int (stepN s n)) S
theorem sp_stepped_mono : MonoSp sp_stepped := fun as S Q Q' E E' hq he ⟨v, x, h1, h2, h3, h4, h5⟩ => ⟨v, x, h1, h2, h3, h4, hq _ _ h5⟩
theorem p_stepped (as : List Va) (S : Store) (Q : QD) (E : EX) (h : sp_stepped as S Q E) : t_stepped (rtE Q E) (startD 5 as) S := by
  obtain ⟨s, n, rfl, ho, hp, hn, h⟩ := h
  have l1 : 10 ^ 550 ≤ 10 ^ 560 := Nat.pow_le_pow_right (by decide) (by decide)
  have round : ∀ (w : Way), ((∃ k, s = .figs k w) ∨ ∃ u, s = .steps u w) → w ≠ .low → w ≠ .high → stepN s n = roundN w (unitN s n) n → ∀ Q : QD, Q (.int (stepN s n)) S →
      CDivW (n : Int) (unitN s n : Int) ∧ 0 < (unitN s n : Int) ∧ sp_goes_up [.d (.str w.s), .d (.int ((n : Int) % unitN s n)), .d (.int (unitN s n)), .d (.int ((n : Int) / unitN s n))] S (fun x S1 => truD S1 x fun b => if b = true then CMulA ((n : Int) / unitN s n + 1) (unitN s n) ∧ Q (.int (((n : Int) / unitN s n + 1) * unitN s n)) S1 else CMulA ((n : Int) / unitN s n) (unitN s n) ∧ Q (.int (((n : Int) / unitN s n) * unitN s n)) S1) E := by
    intro w hs hw1 hw2 he Q hq
    have u0 : 0 < unitN s n := unit_pos ho
    have ul : unitN s n ≤ 10 ^ 560 := by
      rcases hs with ⟨k, rfl⟩ | ⟨u, rfl⟩
      · have := fig_unit_le (n := n) ho.1
        show 10 ^ (nd n - k) ≤ _
        have l2 := big1
        omega
      · have := (size_b (show u ∈ sizesN from ho)).2
        show u ≤ _
        have l2 := big2
        omega
    have dl := Nat.div_le_self n (unitN s n)
    have c0 : n / unitN s n + 1 ≤ 10 ^ 560 := by
      have l2 := big1
      omega
    have c1 : CMulA (((n / unitN s n : Nat) : Int) + 1) (unitN s n) := cmulN (k := 560) c0 ul (by decide)
    have c2 : CMulA ((n / unitN s n : Nat) : Int) (unitN s n) := cmulN (k := 560) (by omega) ul (by decide)
    refine ⟨cdivN u0 ul (by decide), by omega, w, n % unitN s n, unitN s n, n / unitN s n, by simp, hw1, hw2, ?_⟩
    simp only [tru_bl]
    rw [he] at hq
    unfold roundN at hq
    cases hg : goesUp w (n % unitN s n) (unitN s n) (n / unitN s n) with
    | true =>
      rw [hg] at hq
      simp only [if_true] at hq ⊢
      exact ⟨by simpa using c1, by simpa using hq⟩
    | false =>
      rw [hg] at hq
      simp at hq ⊢
      exact ⟨by simpa using c2, by simpa using hq⟩
  cases s with
  | turn => exact hp.elim
  | tens k =>
    have hk := ho.2
    simp [t_stepped, St1.d]
    refine ⟨k, rfl, by omega, cmulN (k := 560) (by omega) (Nat.pow_le_pow_right (by decide) (by omega)) (by decide), ?_⟩
    simpa [stepN] using h
  | figs k w =>
    have e : (St1.figs k w).d = .tup [.str "figures", .int k, .str w.s] := rfl
    simp [t_stepped, e]
    refine ⟨St1.figs k w, n, rfl, .inl ⟨k, w, rfl⟩, by omega, ?_⟩
    have r := round w (.inl ⟨k, rfl⟩) hp.1 hp.2 rfl Q h
    simp
    exact ⟨r.1, by have := r.2.1; omega, r.2.2⟩
  | steps u w =>
    have e : (St1.steps u w).d = .tup [.str "steps", .int u, .str w.s] := rfl
    simp [t_stepped, e]
    refine ⟨St1.steps u w, n, rfl, .inr ⟨u, w, rfl⟩, by omega, ?_⟩
    have r := round w (.inr ⟨u, rfl⟩) hp.1 hp.2 rfl Q h
    simp
    exact ⟨r.1, by have := r.2.1; omega, r.2.2⟩
def t_size_behind : TSD :=
  (dSeq (dFor (dItS (dVar 0)) (gN 2)
    (dAsg (dCall 2 sp_stepped (dCons (dVar 2) (dCons (dVar 1) dNil))) (gN 1)))
  (dRet (dVar 1)))
def sp_size_behind : SpD := fun as S Q _ => ∃ (p : List St1) (n B : Nat), as = [.d (.tup (p.map St1.d)), .d (.int n)] ∧ (∀ s ∈ p, s.ok ∧ s.pln) ∧ n < 10 ^ B ∧ B + 8 * p.length ≤ 550 ∧ Q (.int (sizeB p n)) S
theorem sp_size_behind_mono : MonoSp sp_size_behind := fun as S Q Q' E E' hq he ⟨v, x, B, h1, h2, h3, h4, h5⟩ => ⟨v, x, B, h1, h2, h3, h4, hq _ _ h5⟩
theorem p_size_behind (as : List Va) (S : Store) (Q : QD) (E : EX) (h : sp_size_behind as S Q E) : t_size_behind (rtE Q E) (startD 3 as) S := by
  obtain ⟨p, n, B, rfl, hp, hn, hB, hq⟩ := h
  simp only [t_size_behind, s_seq, s_next, s_ret, s_retN, s_drop, s_ifS, s_asg, s_par, s_raise, s_for, rt_nx, rt_rt, rt_ex, s_gN, s_gT, s_gTl, setAll_nil, setAll_cons, wipe_nil, wipe_cons, s_start, s_var, s_c, s_bin, s_test, s_chain, s_tru, s_and, s_or, s_not, s_andV, s_orV, s_notV, s_if, s_nil, s_cons, s_tup, s_lst, s_neg, s_cb, s_itS, s_rng1, s_rng2, s_lc, s_yes, s_newL, s_part, s_nop, s_slice, s_rev, s_m1, s_call, s_app, s_setIx, s_dnew, s_done, s_dput, s_dget2, key_s, key_i, cellK_, tru_str, in_s, mul_ti, mul_li, s_onB, s_condB, tru_bl, tru_int, tru_non, tru_tup, tru_lst, add_ii, add_ss, add_tt, add_ll, sub_ii, mul_ii, mul_si, fdiv_ii, mod_ii, pow_ii, cmp_ii, eq_ii, eq_ss, ne_ii, ne_ss, is_nn, is_bb, is_in, is_sn, is_tn, is_ln, ix_t, ix_l, ix_loc, at_, len_t, len_l, len_scr, len_s, abs_i, int_i, int_b, int_s, str_i, str_s, bool_b, list_t, list_l, tuple_t, tuple_l, tuple_loc, list_loc, isi_, sum_l, max_ii, min_ii, slice_t, slice_l, slice_s, tn_int, tn_bl, tn_str, tn_non, tn_tup, tn_lst, cell_, strOk_of, atI_0, atI_1, atI_2, List.map_cons, List.map_nil, List.length_cons, List.length_nil, List.replicate_succ, List.replicate_zero, List.nil_append, List.cons_append, List.append_nil, List.getElem?_cons_zero, List.getElem?_cons_succ, List.set_cons_zero, List.set_cons_succ, Nat.reduceAdd, Nat.reduceSub, Nat.sub_self, Bool.not_true, Bool.not_false, if_true, if_false, reduceIte, Bool.false_eq_true, Bool.true_eq_false, true_and, and_true, decide_eq_true_eq, Bool.not_eq_true', decide_eq_false_iff_not, ne_eq, not_true_eq_false, not_false_eq_true, ofString_inj]
  refine forD_inv (fun xs env S' => ∃ (p' : List St1) (n' B' : Nat) (st : Option Va), xs = p'.map St1.d ∧ env = [some (.d (.tup (p.map St1.d))), some (.d (.int n')), st] ∧ S' = S ∧ (∀ s ∈ p', s.ok ∧ s.pln) ∧ n' < 10 ^ B' ∧ B' + 8 * p'.length ≤ 550 ∧ sizeB p n = sizeB p' n') ?_ ?_ _ _ _ ⟨p, n, B, none, rfl, rfl, rfl, hp, hn, hB, rfl⟩
  · rintro env S' ⟨p', n', B', st, h1, rfl, rfl, h4, h5, h6, h7⟩
    obtain rfl : p' = [] := by simpa using h1.symm
    simp only [s_seq, s_next, s_ret, s_retN, s_drop, s_ifS, s_asg, s_par, s_raise, s_for, rt_nx, rt_rt, rt_ex, s_gN, s_gT, s_gTl, setAll_nil, setAll_cons, wipe_nil, wipe_cons, s_start, s_var, s_c, s_bin, s_test, s_chain, s_tru, s_and, s_or, s_not, s_andV, s_orV, s_notV, s_if, s_nil, s_cons, s_tup, s_lst, s_neg, s_cb, s_itS, s_rng1, s_rng2, s_lc, s_yes, s_newL, s_part, s_nop, s_slice, s_rev, s_m1, s_call, s_app, s_setIx, s_dnew, s_done, s_dput, s_dget2, key_s, key_i, cellK_, tru_str, in_s, mul_ti, mul_li, s_onB, s_condB, tru_bl, tru_int, tru_non, tru_tup, tru_lst, add_ii, add_ss, add_tt, add_ll, sub_ii, mul_ii, mul_si, fdiv_ii, mod_ii, pow_ii, cmp_ii, eq_ii, eq_ss, ne_ii, ne_ss, is_nn, is_bb, is_in, is_sn, is_tn, is_ln, ix_t, ix_l, ix_loc, at_, len_t, len_l, len_scr, len_s, abs_i, int_i, int_b, int_s, str_i, str_s, bool_b, list_t, list_l, tuple_t, tuple_l, tuple_loc, list_loc, isi_, sum_l, max_ii, min_ii, slice_t, slice_l, slice_s, tn_int, tn_bl, tn_str, tn_non, tn_tup, tn_lst, cell_, strOk_of, atI_0, atI_1, atI_2, List.map_cons, List.map_nil, List.length_cons, List.length_nil, List.replicate_succ, List.replicate_zero, List.nil_append, List.cons_append, List.append_nil, List.getElem?_cons_zero, List.getElem?_cons_succ, List.set_cons_zero, List.set_cons_succ, Nat.reduceAdd, Nat.reduceSub, Nat.sub_self, Bool.not_true, Bool.not_false, if_true, if_false, reduceIte, Bool.false_eq_true, Bool.true_eq_false, true_and, and_true, decide_eq_true_eq, Bool.not_eq_true', decide_eq_false_iff_not, ne_eq, not_true_eq_false, not_false_eq_true, ofString_inj]
    rw [h7] at hq
    exact hq
  · rintro x xs env S' K hK ⟨p', n', B', st, h1, rfl, rfl, h4, h5, h6, h7⟩
    cases p' with
    | nil => cases h1
    | cons t p' =>
      injection h1 with h1 h2
      subst h1 h2
      obtain ⟨to, tp⟩ := h4 t List.mem_cons_self
      simp only [s_seq, s_next, s_ret, s_retN, s_drop, s_ifS, s_asg, s_par, s_raise, s_for, rt_nx, rt_rt, rt_ex, s_gN, s_gT, s_gTl, setAll_nil, setAll_cons, wipe_nil, wipe_cons, s_start, s_var, s_c, s_bin, s_test, s_chain, s_tru, s_and, s_or, s_not, s_andV, s_orV, s_notV, s_if, s_nil, s_cons, s_tup, s_lst, s_neg, s_cb, s_itS, s_rng1, s_rng2, s_lc, s_yes, s_newL, s_part, s_nop, s_slice, s_rev, s_m1, s_call, s_app, s_setIx, s_dnew, s_done, s_dput, s_dget2, key_s, key_i, cellK_, tru_str, in_s, mul_ti, mul_li, s_onB, s_condB, tru_bl, tru_int, tru_non, tru_tup, tru_lst, add_ii, add_ss, add_tt, add_ll, sub_ii, mul_ii, mul_si, fdiv_ii, mod_ii, pow_ii, cmp_ii, eq_ii, eq_ss, ne_ii, ne_ss, is_nn, is_bb, is_in, is_sn, is_tn, is_ln, ix_t, ix_l, ix_loc, at_, len_t, len_l, len_scr, len_s, abs_i, int_i, int_b, int_s, str_i, str_s, bool_b, list_t, list_l, tuple_t, tuple_l, tuple_loc, list_loc, isi_, sum_l, max_ii, min_ii, slice_t, slice_l, slice_s, tn_int, tn_bl, tn_str, tn_non, tn_tup, tn_lst, cell_, strOk_of, atI_0, atI_1, atI_2, List.map_cons, List.map_nil, List.length_cons, List.length_nil, List.replicate_succ, List.replicate_zero, List.nil_append, List.cons_append, List.append_nil, List.getElem?_cons_zero, List.getElem?_cons_succ, List.set_cons_zero, List.set_cons_succ, Nat.reduceAdd, Nat.reduceSub, Nat.sub_self, Bool.not_true, Bool.not_false, if_true, if_false, reduceIte, Bool.false_eq_true, Bool.true_eq_false, true_and, and_true, decide_eq_true_eq, Bool.not_eq_true', decide_eq_false_iff_not, ne_eq, not_true_eq_false, not_false_eq_true, ofString_inj]
      simp only [List.length_cons] at h6
      refine ⟨t, n', rfl, to, tp, Nat.lt_of_lt_of_le h5 (Nat.pow_le_pow_right (by decide) (by omega)), ?_⟩
      exact hK _ _ ⟨p', stepN t n', B' + 8, _, rfl, rfl, rfl, fun s hs => h4 s (List.mem_cons_of_mem _ hs), stepN_lt to h5, by omega, by rw [h7]; rfl⟩
def t_number_behind : TSD :=
  (dSeq (dAsg (dCall 2 sp_plain_steps (dCons (dVar 0) (dCons (dIf (dTest (dBin geD (dVar 1) (dC (.int 0)))) (dC (.int 1)) (dNeg (dC (.int 1)))) dNil))) (gT [2, 3]))
  (dRet (dBin mulD (dVar 3) (dCall 2 sp_size_behind (dCons (dVar 2) (dCons (dCB absD (dCons (dVar 1) dNil)) dNil))))))
def sp_number_behind : SpD := fun as S Q _ => ∃ (c : List St1) (x : Int) (B : Nat), as = [.d (chD c), .d (.int x)] ∧ ChOk c ∧ x.natAbs < 10 ^ B ∧ B ≤ 500 ∧ Q (.int (numB c x)) S
theorem sp_number_behind_mono : MonoSp sp_number_behind := fun as S Q Q' E E' hq he ⟨v, x, B, h1, h2, h3, h4, h5⟩ => ⟨v, x, B, h1, h2, h3, h4, hq _ _ h5⟩
theorem abs_cast (x : Int) : (if x < 0 then -x else x) = (x.natAbs : Int) := by split <;> omega
theorem sgn_mul {s : Int} (h : s = 1 ∨ s = -1) (x : Int) : CMulA s x := cmull (by omega) (by omega)
theorem p_number_behind (as : List Va) (S : Store) (Q : QD) (E : EX) (h : sp_number_behind as S Q E) : t_number_behind (rtE Q E) (startD 4 as) S := by
  obtain ⟨c, x, B, rfl, hc, hx, hB, hq⟩ := h
  have main : ∀ s : Int, s = (if 0 ≤ x then 1 else -1) → sp_plain_steps [.d (chD c), .d (.int s)] S (fun d S1 => gT [2, 3] d [some (.d (chD c)), some (.d (.int x)), none, none] fun env' => (dRet (dBin mulD (dVar 3) (dCall 2 sp_size_behind (dCons (dVar 2) (dCons (dCB absD (dCons (dVar 1) dNil)) dNil))))) (rtE Q E) env' S1) E := by
    intro s hs
    have hl := hc.1
    refine ⟨c, s, rfl, by omega, ?_⟩
    simp only [s_seq, s_next, s_ret, s_retN, s_drop, s_ifS, s_asg, s_par, s_raise, s_for, rt_nx, rt_rt, rt_ex, s_gN, s_gT, s_gTl, setAll_nil, setAll_cons, wipe_nil, wipe_cons, s_start, s_var, s_c, s_bin, s_test, s_chain, s_tru, s_and, s_or, s_not, s_andV, s_orV, s_notV, s_if, s_nil, s_cons, s_tup, s_lst, s_neg, s_cb, s_itS, s_rng1, s_rng2, s_lc, s_yes, s_newL, s_part, s_nop, s_slice, s_rev, s_m1, s_call, s_app, s_setIx, s_dnew, s_done, s_dput, s_dget2, key_s, key_i, cellK_, tru_str, in_s, mul_ti, mul_li, s_onB, s_condB, tru_bl, tru_int, tru_non, tru_tup, tru_lst, add_ii, add_ss, add_tt, add_ll, sub_ii, mul_ii, mul_si, fdiv_ii, mod_ii, pow_ii, cmp_ii, eq_ii, eq_ss, ne_ii, ne_ss, is_nn, is_bb, is_in, is_sn, is_tn, is_ln, ix_t, ix_l, ix_loc, at_, len_t, len_l, len_scr, len_s, abs_i, int_i, int_b, int_s, str_i, str_s, bool_b, list_t, list_l, tuple_t, tuple_l, tuple_loc, list_loc, isi_, sum_l, max_ii, min_ii, slice_t, slice_l, slice_s, tn_int, tn_bl, tn_str, tn_non, tn_tup, tn_lst, cell_, strOk_of, atI_0, atI_1, atI_2, List.map_cons, List.map_nil, List.length_cons, List.length_nil, List.replicate_succ, List.replicate_zero, List.nil_append, List.cons_append, List.append_nil, List.getElem?_cons_zero, List.getElem?_cons_succ, List.set_cons_zero, List.set_cons_succ, Nat.reduceAdd, Nat.reduceSub, Nat.sub_self, Bool.not_true, Bool.not_false, if_true, if_false, reduceIte, Bool.false_eq_true, Bool.true_eq_false, true_and, and_true, decide_eq_true_eq, Bool.not_eq_true', decide_eq_false_iff_not, ne_eq, not_true_eq_false, not_false_eq_true, ofString_inj]
    have hp := hc.plain s
    refine ⟨(plainSteps c s).1, x.natAbs, B, by rw [abs_cast], hp.2, hx, ?_, ?_⟩
    · have := (plainSteps_mem (s := s) hc.2).2
      omega
    · refine ⟨sgn_mul (plainSteps_sign (by rw [hs]; split <;> simp)) _, ?_⟩
      unfold numB at hq
      rw [← hs] at hq
      exact hq
  by_cases h0 : 0 ≤ x
  · have m := main 1 (by rw [if_pos h0])
    simp only [t_number_behind, s_seq, s_next, s_ret, s_retN, s_drop, s_ifS, s_asg, s_par, s_raise, s_for, rt_nx, rt_rt, rt_ex, s_gN, s_gT, s_gTl, setAll_nil, setAll_cons, wipe_nil, wipe_cons, s_start, s_var, s_c, s_bin, s_test, s_chain, s_tru, s_and, s_or, s_not, s_andV, s_orV, s_notV, s_if, s_nil, s_cons, s_tup, s_lst, s_neg, s_cb, s_itS, s_rng1, s_rng2, s_lc, s_yes, s_newL, s_part, s_nop, s_slice, s_rev, s_m1, s_call, s_app, s_setIx, s_dnew, s_done, s_dput, s_dget2, key_s, key_i, cellK_, tru_str, in_s, mul_ti, mul_li, s_onB, s_condB, tru_bl, tru_int, tru_non, tru_tup, tru_lst, add_ii, add_ss, add_tt, add_ll, sub_ii, mul_ii, mul_si, fdiv_ii, mod_ii, pow_ii, cmp_ii, eq_ii, eq_ss, ne_ii, ne_ss, is_nn, is_bb, is_in, is_sn, is_tn, is_ln, ix_t, ix_l, ix_loc, at_, len_t, len_l, len_scr, len_s, abs_i, int_i, int_b, int_s, str_i, str_s, bool_b, list_t, list_l, tuple_t, tuple_l, tuple_loc, list_loc, isi_, sum_l, max_ii, min_ii, slice_t, slice_l, slice_s, tn_int, tn_bl, tn_str, tn_non, tn_tup, tn_lst, cell_, strOk_of, atI_0, atI_1, atI_2, List.map_cons, List.map_nil, List.length_cons, List.length_nil, List.replicate_succ, List.replicate_zero, List.nil_append, List.cons_append, List.append_nil, List.getElem?_cons_zero, List.getElem?_cons_succ, List.set_cons_zero, List.set_cons_succ, Nat.reduceAdd, Nat.reduceSub, Nat.sub_self, Bool.not_true, Bool.not_false, if_true, if_false, reduceIte, Bool.false_eq_true, Bool.true_eq_false, true_and, and_true, decide_eq_true_eq, Bool.not_eq_true', decide_eq_false_iff_not, ne_eq, not_true_eq_false, not_false_eq_true, ofString_inj, h0]
    simp only [s_seq, s_next, s_ret, s_retN, s_drop, s_ifS, s_asg, s_par, s_raise, s_for, rt_nx, rt_rt, rt_ex, s_gN, s_gT, s_gTl, setAll_nil, setAll_cons, wipe_nil, wipe_cons, s_start, s_var, s_c, s_bin, s_test, s_chain, s_tru, s_and, s_or, s_not, s_andV, s_orV, s_notV, s_if, s_nil, s_cons, s_tup, s_lst, s_neg, s_cb, s_itS, s_rng1, s_rng2, s_lc, s_yes, s_newL, s_part, s_nop, s_slice, s_rev, s_m1, s_call, s_app, s_setIx, s_dnew, s_done, s_dput, s_dget2, key_s, key_i, cellK_, tru_str, in_s, mul_ti, mul_li, s_onB, s_condB, tru_bl, tru_int, tru_non, tru_tup, tru_lst, add_ii, add_ss, add_tt, add_ll, sub_ii, mul_ii, mul_si, fdiv_ii, mod_ii, pow_ii, cmp_ii, eq_ii, eq_ss, ne_ii, ne_ss, is_nn, is_bb, is_in, is_sn, is_tn, is_ln, ix_t, ix_l, ix_loc, at_, len_t, len_l, len_scr, len_s, abs_i, int_i, int_b, int_s, str_i, str_s, bool_b, list_t, list_l, tuple_t, tuple_l, tuple_loc, list_loc, isi_, sum_l, max_ii, min_ii, slice_t, slice_l, slice_s, tn_int, tn_bl, tn_str, tn_non, tn_tup, tn_lst, cell_, strOk_of, atI_0, atI_1, atI_2, List.map_cons, List.map_nil, List.length_cons, List.length_nil, List.replicate_succ, List.replicate_zero, List.nil_append, List.cons_append, List.append_nil, List.getElem?_cons_zero, List.getElem?_cons_succ, List.set_cons_zero, List.set_cons_succ, Nat.reduceAdd, Nat.reduceSub, Nat.sub_self, Bool.not_true, Bool.not_false, if_true, if_false, reduceIte, Bool.false_eq_true, Bool.true_eq_false, true_and, and_true, decide_eq_true_eq, Bool.not_eq_true', decide_eq_false_iff_not, ne_eq, not_true_eq_false, not_false_eq_true, ofString_inj] at m
    exact m
  · have m := main (-1) (by rw [if_neg h0])
    simp only [t_number_behind, s_seq, s_next, s_ret, s_retN, s_drop, s_ifS, s_asg, s_par, s_raise, s_for, rt_nx, rt_rt, rt_ex, s_gN, s_gT, s_gTl, setAll_nil, setAll_cons, wipe_nil, wipe_cons, s_start, s_var, s_c, s_bin, s_test, s_chain, s_tru, s_and, s_or, s_not, s_andV, s_orV, s_notV, s_if, s_nil, s_cons, s_tup, s_lst, s_neg, s_cb, s_itS, s_rng1, s_rng2, s_lc, s_yes, s_newL, s_part, s_nop, s_slice, s_rev, s_m1, s_call, s_app, s_setIx, s_dnew, s_done, s_dput, s_dget2, key_s, key_i, cellK_, tru_str, in_s, mul_ti, mul_li, s_onB, s_condB, tru_bl, tru_int, tru_non, tru_tup, tru_lst, add_ii, add_ss, add_tt, add_ll, sub_ii, mul_ii, mul_si, fdiv_ii, mod_ii, pow_ii, cmp_ii, eq_ii, eq_ss, ne_ii, ne_ss, is_nn, is_bb, is_in, is_sn, is_tn, is_ln, ix_t, ix_l, ix_loc, at_, len_t, len_l, len_scr, len_s, abs_i, int_i, int_b, int_s, str_i, str_s, bool_b, list_t, list_l, tuple_t, tuple_l, tuple_loc, list_loc, isi_, sum_l, max_ii, min_ii, slice_t, slice_l, slice_s, tn_int, tn_bl, tn_str, tn_non, tn_tup, tn_lst, cell_, strOk_of, atI_0, atI_1, atI_2, List.map_cons, List.map_nil, List.length_cons, List.length_nil, List.replicate_succ, List.replicate_zero, List.nil_append, List.cons_append, List.append_nil, List.getElem?_cons_zero, List.getElem?_cons_succ, List.set_cons_zero, List.set_cons_succ, Nat.reduceAdd, Nat.reduceSub, Nat.sub_self, Bool.not_true, Bool.not_false, if_true, if_false, reduceIte, Bool.false_eq_true, Bool.true_eq_false, true_and, and_true, decide_eq_true_eq, Bool.not_eq_true', decide_eq_false_iff_not, ne_eq, not_true_eq_false, not_false_eq_true, ofString_inj, h0]
    simp only [s_seq, s_next, s_ret, s_retN, s_drop, s_ifS, s_asg, s_par, s_raise, s_for, rt_nx, rt_rt, rt_ex, s_gN, s_gT, s_gTl, setAll_nil, setAll_cons, wipe_nil, wipe_cons, s_start, s_var, s_c, s_bin, s_test, s_chain, s_tru, s_and, s_or, s_not, s_andV, s_orV, s_notV, s_if, s_nil, s_cons, s_tup, s_lst, s_neg, s_cb, s_itS, s_rng1, s_rng2, s_lc, s_yes, s_newL, s_part, s_nop, s_slice, s_rev, s_m1, s_call, s_app, s_setIx, s_dnew, s_done, s_dput, s_dget2, key_s, key_i, cellK_, tru_str, in_s, mul_ti, mul_li, s_onB, s_condB, tru_bl, tru_int, tru_non, tru_tup, tru_lst, add_ii, add_ss, add_tt, add_ll, sub_ii, mul_ii, mul_si, fdiv_ii, mod_ii, pow_ii, cmp_ii, eq_ii, eq_ss, ne_ii, ne_ss, is_nn, is_bb, is_in, is_sn, is_tn, is_ln, ix_t, ix_l, ix_loc, at_, len_t, len_l, len_scr, len_s, abs_i, int_i, int_b, int_s, str_i, str_s, bool_b, list_t, list_l, tuple_t, tuple_l, tuple_loc, list_loc, isi_, sum_l, max_ii, min_ii, slice_t, slice_l, slice_s, tn_int, tn_bl, tn_str, tn_non, tn_tup, tn_lst, cell_, strOk_of, atI_0, atI_1, atI_2, List.map_cons, List.map_nil, List.length_cons, List.length_nil, List.replicate_succ, List.replicate_zero, List.nil_append, List.cons_append, List.append_nil, List.getElem?_cons_zero, List.getElem?_cons_succ, List.set_cons_zero, List.set_cons_succ, Nat.reduceAdd, Nat.reduceSub, Nat.sub_self, Bool.not_true, Bool.not_false, if_true, if_false, reduceIte, Bool.false_eq_true, Bool.true_eq_false, true_and, and_true, decide_eq_true_eq, Bool.not_eq_true', decide_eq_false_iff_not, ne_eq, not_true_eq_false, not_false_eq_true, ofString_inj] at m
    exact m
end Fs
end
section
set_option Elab.async false
set_option linter.all false
set_option maxRecDepth 100000
set_option maxHeartbeats 4000000
namespace Fs
open PySem PySem.Spec PyProof.Rows L2 LamX

/-! ### rounded, course -/
def great : Int := 1000000000000000000000000000000
theorem isWh_great {z : Int} (h : isWh (.int z) (-1000000000000000000000000000000) 1000000000000000000000000000000 = true) : z.natAbs < 10 ^ 31 := by
  obtain ⟨i, h1, h2, h3⟩ := isWh_iff.mp h
  cases h1
  omega
def sp_rounded (er : Str → Addr) : SpD := fun as S Q E => ∃ v x, as = [.d v, .d x] ∧ v.pl 9 = true ∧ x.tn.isSome = true ∧ (goodChain v = false → E (.ref (er "InvalidChain")) S) ∧ (goodChain v = true → isWh x (-1000000000000000000000000000000) 1000000000000000000000000000000 = false → E (.ref (er "InvalidNumber")) S) ∧
  (∀ c z, ChOk c → v = chD c → x = .int z → isWh x (-1000000000000000000000000000000) 1000000000000000000000000000000 = true → Q (.int (numB c z)) S)
theorem sp_rounded_mono {er : Str → Addr} : MonoSp (sp_rounded er) := fun as S Q Q' E E' hq he ⟨v, x, h1, h2, h3, h4, h5, h6⟩ => ⟨v, x, h1, h2, h3, fun a => he _ _ (h4 a), fun a b => he _ _ (h5 a b), fun c z a b d e => hq _ _ (h6 c z a b d e)⟩
def t_rounded (er : Str → Addr) : TSD :=
  (dSeq (dDrop (dCall 1 (sp_need_chain er) (dCons (dVar 0) dNil)))
  (dSeq (dDrop (dCall 1 (sp_need_number er) (dCons (dVar 1) dNil)))
  (dRet (dCall 2 sp_number_behind (dCons (dVar 0) (dCons (dVar 1) dNil))))))
theorem p_rounded {er : Str → Addr} (as : List Va) (S : Store) (Q : QD) (E : EX) (h : sp_rounded er as S Q E) : t_rounded er (rtE Q E) (startD 2 as) S := by
  obtain ⟨v, x, rfl, hv, hx, h1, h2, h3⟩ := h
  simp only [t_rounded, s_seq, s_next, s_ret, s_retN, s_drop, s_ifS, s_asg, s_par, s_raise, s_for, rt_nx, rt_rt, rt_ex, s_gN, s_gT, s_gTl, setAll_nil, setAll_cons, wipe_nil, wipe_cons, s_start, s_var, s_c, s_bin, s_test, s_chain, s_tru, s_and, s_or, s_not, s_andV, s_orV, s_notV, s_if, s_nil, s_cons, s_tup, s_lst, s_neg, s_cb, s_itS, s_rng1, s_rng2, s_lc, s_yes, s_newL, s_part, s_nop, s_slice, s_rev, s_m1, s_call, s_app, s_setIx, s_dnew, s_done, s_dput, s_dget2, key_s, key_i, cellK_, tru_str, in_s, mul_ti, mul_li, s_onB, s_condB, tru_bl, tru_int, tru_non, tru_tup, tru_lst, add_ii, add_ss, add_tt, add_ll, sub_ii, mul_ii, mul_si, fdiv_ii, mod_ii, pow_ii, cmp_ii, eq_ii, eq_ss, ne_ii, ne_ss, is_nn, is_bb, is_in, is_sn, is_tn, is_ln, ix_t, ix_l, ix_loc, at_, len_t, len_l, len_scr, len_s, abs_i, int_i, int_b, int_s, str_i, str_s, bool_b, list_t, list_l, tuple_t, tuple_l, tuple_loc, list_loc, isi_, sum_l, max_ii, min_ii, slice_t, slice_l, slice_s, tn_int, tn_bl, tn_str, tn_non, tn_tup, tn_lst, cell_, strOk_of, atI_0, atI_1, atI_2, List.map_cons, List.map_nil, List.length_cons, List.length_nil, List.replicate_succ, List.replicate_zero, List.nil_append, List.cons_append, List.append_nil, List.getElem?_cons_zero, List.getElem?_cons_succ, List.set_cons_zero, List.set_cons_succ, Nat.reduceAdd, Nat.reduceSub, Nat.sub_self, Bool.not_true, Bool.not_false, if_true, if_false, reduceIte, Bool.false_eq_true, Bool.true_eq_false, true_and, and_true, decide_eq_true_eq, Bool.not_eq_true', decide_eq_false_iff_not, ne_eq, not_true_eq_false, not_false_eq_true, ofString_inj]
  refine ⟨v, rfl, hv, fun g => ?_, h1⟩
  refine ⟨x, rfl, hx, fun w => ?_, h2 g⟩
  obtain ⟨c, hc, rfl⟩ := goodChain_iff.mp g
  obtain ⟨z, rfl, hz1, hz2⟩ := isWh_iff.mp w
  exact ⟨c, z, 31, rfl, hc, isWh_great w, by decide, h3 c z hc rfl rfl w⟩
def courseD (c : List St1) (z : Int) : D := .lst ((List.range (c.length + 1)).map fun m => .int (numB (c.take m) z))
def sp_course (er : Str → Addr) : SpD := fun as S Q E => ∃ v x, as = [.d v, .d x] ∧ v.pl 9 = true ∧ x.tn.isSome = true ∧ (goodChain v = false → E (.ref (er "InvalidChain")) S) ∧ (goodChain v = true → isWh x (-1000000000000000000000000000000) 1000000000000000000000000000000 = false → E (.ref (er "InvalidNumber")) S) ∧
  (∀ c z, ChOk c → v = chD c → x = .int z → isWh x (-1000000000000000000000000000000) 1000000000000000000000000000000 = true → Q (courseD c z) S)
theorem sp_course_mono {er : Str → Addr} : MonoSp (sp_course er) := fun as S Q Q' E E' hq he ⟨v, x, h1, h2, h3, h4, h5, h6⟩ => ⟨v, x, h1, h2, h3, fun a => he _ _ (h4 a), fun a b => he _ _ (h5 a b), fun c z a b d e => hq _ _ (h6 c z a b d e)⟩
theorem cut_pre (xs : List D) (n : Nat) : cutD xs none (some (n : Int)) = xs.take n := by
  have e : ¬ ((n : Int) < 0) := by omega
  simp [cutD, HT.sIx, e]
theorem cut_suf (xs : List D) (n : Nat) : cutD xs (some (n : Int)) none = xs.drop n := by
  have e : ¬ ((n : Int) < 0) := by omega
  simp [cutD, HT.sIx, e]
  by_cases h : n ≤ xs.length
  · rw [Nat.min_eq_left h]
    exact List.take_of_length_le (by simp)
  · rw [Nat.min_eq_right (by omega), List.drop_of_length_le (Nat.le_refl _), List.drop_of_length_le (by omega)]
    simp
theorem rngD_cons {lo : Int} {n t : Nat} {x : D} {xs : List D} (h : x :: xs = (rngD lo n).drop t) : t < n ∧ x = .int (lo + t) ∧ xs = (rngD lo n).drop (t + 1) := by
  have hl : t < (rngD lo n).length := by
    by_cases hl : t < (rngD lo n).length
    · exact hl
    · rw [List.drop_of_length_le (by omega)] at h; cases h
  rw [List.drop_eq_getElem_cons hl] at h
  injection h with h1 h2
  have hn : t < n := by simpa [rngD] using hl
  exact ⟨hn, by rw [h1]; simp [rngD], h2⟩
theorem rngD_mem {lo : Int} {n : Nat} {x : D} (h : x ∈ rngD lo n) : ∃ t : Nat, t < n ∧ x = .int (lo + t) := by
  simp only [rngD, List.mem_map, List.mem_range] at h
  obtain ⟨t, h1, h2⟩ := h
  exact ⟨t, h1, h2.symm⟩
/-- a comprehension over a range, a value for each -/
theorem lcD_rng {te : TED} {env : En} {i n : Nat} {k : List D → Store → Prop} {S : Store} (f : Nat → D) (hn : n ≤ 1000000) (ht : ∀ t : Nat, t < n → ∀ Q : QD, Q (f t) S → te (env.set i (some (.d (.int (t : Int))))) S Q noE) (h : k ((List.range n).map f) S) : lcD (gN i) dYes te env k (rngD 0 n) [] S := by
  refine lcD_inv (fun xs acc S' => ∃ t : Nat, xs = (rngD 0 n).drop t ∧ acc = (List.range t).map f ∧ t ≤ n ∧ S' = S) ?_ ?_ _ _ _ ⟨0, rfl, rfl, by omega, rfl⟩
  · rintro acc S' ⟨t, h1, rfl, h3, rfl⟩
    have hl := congrArg List.length h1
    simp [rngD] at hl
    have : t = n := by omega
    rw [this]; exact h
  · rintro x xs acc S' K hK ⟨t, h1, rfl, h3, rfl⟩
    obtain ⟨ht1, rfl, rfl⟩ := rngD_cons h1
    simp only [s_gN, s_yes, if_true]
    rw [Int.zero_add]
    refine ht t ht1 _ ⟨by rw [sizeLine_eq]; simp; omega, hK _ _ ⟨t + 1, rfl, ?_, by omega, rfl⟩⟩
    rw [List.range_succ, List.map_append]; rfl
theorem take_chD (c : List St1) (m : Nat) : (c.map St1.d).take m = (c.take m).map St1.d := by rw [List.map_take]
theorem ChOk.take {c : List St1} (h : ChOk c) (m : Nat) : ChOk (c.take m) := ⟨by have := h.1; simp; omega, fun s hs => h.2 s (List.mem_of_mem_take hs)⟩
def t_course (er : Str → Addr) : TSD :=
  (dSeq (dDrop (dCall 1 (sp_need_chain er) (dCons (dVar 0) dNil)))
  (dSeq (dDrop (dCall 1 (sp_need_number er) (dCons (dVar 1) dNil)))
  (dRet (dLc (dRng1 (dCons (dBin addD (dCB lenD (dCons (dVar 0) dNil)) (dC (.int 1))) dNil)) [2] (gN 2) dYes (dCall 2 sp_number_behind (dCons (dSlice (dVar 0) dNoP (dPart (dVar 2))) (dCons (dVar 1) dNil)))))))
theorem p_course {er : Str → Addr} (as : List Va) (S : Store) (Q : QD) (E : EX) (h : sp_course er as S Q E) : t_course er (rtE Q E) (startD 3 as) S := by
  obtain ⟨v, x, rfl, hv, hx, h1, h2, h3⟩ := h
  simp only [t_course, s_seq, s_next, s_ret, s_retN, s_drop, s_ifS, s_asg, s_par, s_raise, s_for, rt_nx, rt_rt, rt_ex, s_gN, s_gT, s_gTl, setAll_nil, setAll_cons, wipe_nil, wipe_cons, s_start, s_var, s_c, s_bin, s_test, s_chain, s_tru, s_and, s_or, s_not, s_andV, s_orV, s_notV, s_if, s_nil, s_cons, s_tup, s_lst, s_neg, s_cb, s_itS, s_rng1, s_rng2, s_lc, s_yes, s_newL, s_part, s_nop, s_slice, s_rev, s_m1, s_call, s_app, s_setIx, s_dnew, s_done, s_dput, s_dget2, key_s, key_i, cellK_, tru_str, in_s, mul_ti, mul_li, s_onB, s_condB, tru_bl, tru_int, tru_non, tru_tup, tru_lst, add_ii, add_ss, add_tt, add_ll, sub_ii, mul_ii, mul_si, fdiv_ii, mod_ii, pow_ii, cmp_ii, eq_ii, eq_ss, ne_ii, ne_ss, is_nn, is_bb, is_in, is_sn, is_tn, is_ln, ix_t, ix_l, ix_loc, at_, len_t, len_l, len_scr, len_s, abs_i, int_i, int_b, int_s, str_i, str_s, bool_b, list_t, list_l, tuple_t, tuple_l, tuple_loc, list_loc, isi_, sum_l, max_ii, min_ii, slice_t, slice_l, slice_s, tn_int, tn_bl, tn_str, tn_non, tn_tup, tn_lst, cell_, strOk_of, atI_0, atI_1, atI_2, List.map_cons, List.map_nil, List.length_cons, List.length_nil, List.replicate_succ, List.replicate_zero, List.nil_append, List.cons_append, List.append_nil, List.getElem?_cons_zero, List.getElem?_cons_succ, List.set_cons_zero, List.set_cons_succ, Nat.reduceAdd, Nat.reduceSub, Nat.sub_self, Bool.not_true, Bool.not_false, if_true, if_false, reduceIte, Bool.false_eq_true, Bool.true_eq_false, true_and, and_true, decide_eq_true_eq, Bool.not_eq_true', decide_eq_false_iff_not, ne_eq, not_true_eq_false, not_false_eq_true, ofString_inj]
  refine ⟨v, rfl, hv, fun g => ?_, h1⟩
  refine ⟨x, rfl, hx, fun w => ?_, h2 g⟩
  obtain ⟨c, hc, rfl⟩ := goodChain_iff.mp g
  obtain ⟨z, rfl, hz1, hz2⟩ := isWh_iff.mp w
  have hl := hc.1
  have e3 : chD c = .tup (c.map St1.d) := rfl
  have hq := h3 c z hc rfl rfl w
  clear h1 h2 h3
  rw [e3]
  simp only [s_seq, s_next, s_ret, s_retN, s_drop, s_ifS, s_asg, s_par, s_raise, s_for, rt_nx, rt_rt, rt_ex, s_gN, s_gT, s_gTl, setAll_nil, setAll_cons, wipe_nil, wipe_cons, s_start, s_var, s_c, s_bin, s_test, s_chain, s_tru, s_and, s_or, s_not, s_andV, s_orV, s_notV, s_if, s_nil, s_cons, s_tup, s_lst, s_neg, s_cb, s_itS, s_rng1, s_rng2, s_lc, s_yes, s_newL, s_part, s_nop, s_slice, s_rev, s_m1, s_call, s_app, s_setIx, s_dnew, s_done, s_dput, s_dget2, key_s, key_i, cellK_, tru_str, in_s, mul_ti, mul_li, s_onB, s_condB, tru_bl, tru_int, tru_non, tru_tup, tru_lst, add_ii, add_ss, add_tt, add_ll, sub_ii, mul_ii, mul_si, fdiv_ii, mod_ii, pow_ii, cmp_ii, eq_ii, eq_ss, ne_ii, ne_ss, is_nn, is_bb, is_in, is_sn, is_tn, is_ln, ix_t, ix_l, ix_loc, at_, len_t, len_l, len_scr, len_s, abs_i, int_i, int_b, int_s, str_i, str_s, bool_b, list_t, list_l, tuple_t, tuple_l, tuple_loc, list_loc, isi_, sum_l, max_ii, min_ii, slice_t, slice_l, slice_s, tn_int, tn_bl, tn_str, tn_non, tn_tup, tn_lst, cell_, strOk_of, atI_0, atI_1, atI_2, List.map_cons, List.map_nil, List.length_cons, List.length_nil, List.replicate_succ, List.replicate_zero, List.nil_append, List.cons_append, List.append_nil, List.getElem?_cons_zero, List.getElem?_cons_succ, List.set_cons_zero, List.set_cons_succ, Nat.reduceAdd, Nat.reduceSub, Nat.sub_self, Bool.not_true, Bool.not_false, if_true, if_false, reduceIte, Bool.false_eq_true, Bool.true_eq_false, true_and, and_true, decide_eq_true_eq, Bool.not_eq_true', decide_eq_false_iff_not, ne_eq, not_true_eq_false, not_false_eq_true, ofString_inj, List.length_map]
  refine ⟨⟨by omega, by omega⟩, ?_⟩
  have en : ((c.length : Int) + 1).toNat = c.length + 1 := by omega
  rw [en]
  refine lcD_rng (fun m => .int (numB (c.take m) z)) (by omega) (fun t ht Q hQ => ?_) hq
  simp only [s_seq, s_next, s_ret, s_retN, s_drop, s_ifS, s_asg, s_par, s_raise, s_for, rt_nx, rt_rt, rt_ex, s_gN, s_gT, s_gTl, setAll_nil, setAll_cons, wipe_nil, wipe_cons, s_start, s_var, s_c, s_bin, s_test, s_chain, s_tru, s_and, s_or, s_not, s_andV, s_orV, s_notV, s_if, s_nil, s_cons, s_tup, s_lst, s_neg, s_cb, s_itS, s_rng1, s_rng2, s_lc, s_yes, s_newL, s_part, s_nop, s_slice, s_rev, s_m1, s_call, s_app, s_setIx, s_dnew, s_done, s_dput, s_dget2, key_s, key_i, cellK_, tru_str, in_s, mul_ti, mul_li, s_onB, s_condB, tru_bl, tru_int, tru_non, tru_tup, tru_lst, add_ii, add_ss, add_tt, add_ll, sub_ii, mul_ii, mul_si, fdiv_ii, mod_ii, pow_ii, cmp_ii, eq_ii, eq_ss, ne_ii, ne_ss, is_nn, is_bb, is_in, is_sn, is_tn, is_ln, ix_t, ix_l, ix_loc, at_, len_t, len_l, len_scr, len_s, abs_i, int_i, int_b, int_s, str_i, str_s, bool_b, list_t, list_l, tuple_t, tuple_l, tuple_loc, list_loc, isi_, sum_l, max_ii, min_ii, slice_t, slice_l, slice_s, tn_int, tn_bl, tn_str, tn_non, tn_tup, tn_lst, cell_, strOk_of, atI_0, atI_1, atI_2, List.map_cons, List.map_nil, List.length_cons, List.length_nil, List.replicate_succ, List.replicate_zero, List.nil_append, List.cons_append, List.append_nil, List.getElem?_cons_zero, List.getElem?_cons_succ, List.set_cons_zero, List.set_cons_succ, Nat.reduceAdd, Nat.reduceSub, Nat.sub_self, Bool.not_true, Bool.not_false, if_true, if_false, reduceIte, Bool.false_eq_true, Bool.true_eq_false, true_and, and_true, decide_eq_true_eq, Bool.not_eq_true', decide_eq_false_iff_not, ne_eq, not_true_eq_false, not_false_eq_true, ofString_inj, cut_pre, take_chD]
  exact ⟨c.take t, z, 31, rfl, hc.take t, isWh_great w, by decide, hQ⟩

/-! ### written chains -/
def wayOf (y : Str) : Option Way := if y = "away" then some .away else if y = "even" then some .even else if y = "high" then some .high else if y = "low" then some .low else if y = "near" then some .near else if y = "zero" then some .zero else none
theorem wayOf_ok {y : Str} {w : Way} (h : wayOf y = some w) : y = Str.ofString w.s := by
  unfold wayOf at h
  split at h
  · cases h; assumption
  split at h
  · cases h; assumption
  split at h
  · cases h; assumption
  split at h
  · cases h; assumption
  split at h
  · cases h; assumption
  split at h
  · cases h; assumption
  · cases h
def stOf : D → Option St1
  | .tup [.str w] => if w = "turn" then some .turn else none
  | .tup [.str w, .int k] => if w = "tens" ∧ 1 ≤ k ∧ k ≤ 3 then some (.tens k.toNat) else none
  | .tup [.str w, .int k, .str y] => match wayOf y with
    | none => none
    | some z => if w = "figures" ∧ 1 ≤ k ∧ k ≤ 3 then some (.figs k.toNat z) else if w = "steps" ∧ 0 ≤ k ∧ k.toNat ∈ sizesN then some (.steps k.toNat z) else none
  | _ => none
theorem stOf_ok {d : D} {s : St1} (h : stOf d = some s) : d = s.d ∧ s.ok := by
  unfold stOf at h
  split at h
  · split at h
    · cases h; rename_i e; subst e; exact ⟨rfl, trivial⟩
    · cases h
  · split at h
    · rename_i e
      cases h
      obtain ⟨rfl, h1, h2⟩ := e
      refine ⟨?_, ⟨by omega, by omega⟩⟩
      simp [St1.d]; omega
    · cases h
  · split at h
    · cases h
    · rename_i z e
      have ez := wayOf_ok e
      subst ez
      split at h
      · rename_i e
        cases h
        obtain ⟨rfl, h1, h2⟩ := e
        refine ⟨?_, ⟨by omega, by omega⟩⟩
        simp [St1.d]; omega
      · split at h
        · rename_i e
          cases h
          obtain ⟨rfl, h1, h2⟩ := e
          refine ⟨?_, h2⟩
          simp [St1.d]; omega
        · cases h
  · cases h
def stsOf : List D → Option (List St1)
  | [] => some []
  | d :: ds => match stOf d, stsOf ds with
    | some s, some c => some (s :: c)
    | _, _ => none
theorem stsOf_ok : ∀ {ds : List D} {c : List St1}, stsOf ds = some c → ds = c.map St1.d ∧ ∀ s ∈ c, s.ok
  | [], c, h => by cases h; exact ⟨rfl, by simp⟩
  | d :: ds, c, h => by
    unfold stsOf at h
    split at h
    · rename_i s c' e1 e2
      cases h
      obtain ⟨h1, h2⟩ := stOf_ok e1
      obtain ⟨h3, h4⟩ := stsOf_ok e2
      exact ⟨by rw [h1, h3]; rfl, by simpa using ⟨h2, h4⟩⟩
    · cases h
def chOf : D → Option (List St1)
  | .tup ds => match stsOf ds with
    | some c => if c.length ≤ 4 then some c else none
    | none => none
  | _ => none
theorem chOf_ok {d : D} {c : List St1} (h : chOf d = some c) : d = chD c ∧ ChOk c := by
  unfold chOf at h
  split at h
  · split at h
    · rename_i e
      split at h
      · cases h
        obtain ⟨h1, h2⟩ := stsOf_ok e
        rename_i hl
        exact ⟨by rw [h1]; rfl, hl, h2⟩
      · cases h
    · cases h
  · cases h
def roundD (v : D) (z : Int) : Option Int := if isWh (.int z) (-1000000000000000000000000000000) 1000000000000000000000000000000 = true then (chOf v).map fun c => numB c z else none
theorem chD_inj {c c' : List St1} (h : chD c = chD c') : c = c' := by
  have h : c.map St1.d = c'.map St1.d := by injection h
  have inj : ∀ s t : St1, s.d = t.d → s = t := by
    intro s t e
    cases s <;> cases t <;> simp [St1.d] at e <;> try rfl
    · rename_i k k'
      have : k = k' := by omega
      rw [this]
    · obtain ⟨e1, e2⟩ := e
      rename_i k w k' w'
      have : w = w' := by cases w <;> cases w' <;> simp [Way.s] at e2 <;> rfl
      have e1' : k = k' := by omega
      rw [e1', this]
    · obtain ⟨e1, e2⟩ := e
      rename_i k w k' w'
      have : w = w' := by cases w <;> cases w' <;> simp [Way.s] at e2 <;> rfl
      have e1' : k = k' := by omega
      rw [e1', this]
  exact List.map_inj_right (fun {s t} e => inj s t e) |>.mp h
theorem rounded_at {er : Str → Addr} {v : D} {z r : Int} {S : Store} {Q : QD} {E : EX} (h : roundD v z = some r) (hq : Q (.int r) S) : sp_rounded er [.d v, .d (.int z)] S Q E := by
  unfold roundD at h
  split at h
  · rename_i hw
    cases e : chOf v with
    | none => rw [e] at h; cases h
    | some c =>
      rw [e] at h
      cases h
      obtain ⟨rfl, hc⟩ := chOf_ok e
      have g : goodChain (chD c) = true := goodChain_iff.mpr ⟨c, hc, rfl⟩
      refine ⟨_, _, rfl, pl_mono (m := 2) (n := 9) (by decide) _ ChOk.pl, rfl, (fun z => by rw [g] at z; cases z), (fun _ z => by rw [hw] at z; cases z), fun c' z' _ h1 h2 _ => ?_⟩
      rw [← chD_inj h1]
      cases h2
      exact hq
  · cases h
def coursB (v : D) (z : Int) : Option (List Int) := if isWh (.int z) (-1000000000000000000000000000000) 1000000000000000000000000000000 = true then (chOf v).map fun c => (List.range (c.length + 1)).map fun m => numB (c.take m) z else none
theorem course_at {er : Str → Addr} {v : D} {z : Int} {r : List Int} {S : Store} {Q : QD} {E : EX} (h : coursB v z = some r) (hq : Q (.lst (r.map D.int)) S) : sp_course er [.d v, .d (.int z)] S Q E := by
  unfold coursB at h
  split at h
  · rename_i hw
    cases e : chOf v with
    | none => rw [e] at h; cases h
    | some c =>
      rw [e] at h
      cases h
      obtain ⟨rfl, hc⟩ := chOf_ok e
      have g : goodChain (chD c) = true := goodChain_iff.mpr ⟨c, hc, rfl⟩
      refine ⟨_, _, rfl, pl_mono (m := 2) (n := 9) (by decide) _ ChOk.pl, rfl, (fun z => by rw [g] at z; cases z), (fun _ z => by rw [hw] at z; cases z), fun c' z' _ h1 h2 _ => ?_⟩
      rw [← chD_inj h1]
      cases h2
      have e : courseD c z = .lst (((List.range (c.length + 1)).map fun m => numB (c.take m) z).map D.int) := by
        unfold courseD
        rw [List.map_map]
        rfl
      rw [e]
      exact hq
  · cases h
end Fs
end
section
set_option Elab.async false
set_option linter.all false
set_option maxRecDepth 100000
set_option maxHeartbeats 4000000
namespace Fs
open PySem PySem.Spec PyProof.Rows L2 LamX

/-! ### texts of chains -/
def St1.words : St1 → List Str
  | .turn => ["turn"]
  | .tens k => ["tens", toString (k : Int)]
  | .figs k w => ["figures", toString (k : Int), Str.ofString w.s]
  | .steps u w => ["steps", toString (u : Int), Str.ofString w.s]
def St1.tx (s : St1) : Str := Txt.join (Str.ofString " ") s.words
def chTx (c : List St1) : Str := if c = [] then Str.ofString "none" else Txt.join (Str.ofString "\n") (c.map St1.tx)
def everyWay : List Way := [.away, .even, .high, .low, .near, .zero]
def allSt : List St1 := .turn :: [1, 2, 3].map .tens ++ [1, 2, 3].flatMap (fun k => everyWay.map (.figs k)) ++ sizesN.flatMap (fun u => everyWay.map (.steps u))
theorem way_every (w : Way) : w ∈ everyWay := by cases w <;> decide
theorem ok_all {s : St1} (h : s.ok) : s ∈ allSt := by
  cases s with
  | turn => simp [allSt]
  | tens k =>
    have : k = 1 ∨ k = 2 ∨ k = 3 := by have := h.1; have := h.2; omega
    rcases this with rfl | rfl | rfl <;> simp [allSt]
  | figs k w =>
    have : k ∈ [1, 2, 3] := by have := h.1; have := h.2; simp; omega
    simp only [allSt, List.mem_append, List.mem_cons, List.mem_flatMap, List.mem_map]
    exact .inl (.inr ⟨k, by simpa using this, w, way_every w, rfl⟩)
  | steps u w =>
    simp only [allSt, List.mem_append, List.mem_flatMap, List.mem_map]
    exact .inr ⟨u, h, w, way_every w, rfl⟩
theorem all_ok {s : St1} (h : s ∈ allSt) : s.ok := by
  simp only [allSt, List.mem_append, List.mem_cons, List.mem_flatMap, List.mem_map] at h
  rcases h with ((rfl | ⟨k, hk, rfl⟩) | ⟨k, hk, w, _, rfl⟩) | ⟨u, hu, w, _, rfl⟩
  · trivial
  · show 1 ≤ k ∧ k ≤ 3
    simp at hk; omega
  · show 1 ≤ k ∧ k ≤ 3
    simp at hk; omega
  · exact hu
/-- a word that writes a number -/
def digs (w : Str) : Bool := w.cps.toList.all fun c => decide (c ∈ (Str.ofString "0123456789").cps.toList)
def numOf (w : Str) : Option Nat := if 1 ≤ w.length ∧ w.length ≤ 7 ∧ digs w = true ∧ (toString ((NumText.digitsVal w.cps.toList : Nat) : Int) : Str) = w then some (NumText.digitsVal w.cps.toList) else none
def numD (w : Str) : D := match numOf w with
  | some n => .int n
  | none => .non
def lineW : List Str → List D
  | [] => []
  | [a] => [.str a]
  | a :: b :: r => .str a :: numD b :: r.map D.str
def lineD (z : Str) : D := .tup (lineW (Txt.split z (Str.ofString " ")))
theorem numOf_eq {w : Str} {n : Nat} (h : numOf w = some n) : w = toString (n : Int) := by
  unfold numOf at h
  split at h
  · rename_i hc
    cases h
    exact hc.2.2.2.symm
  · cases h
def fitsB (s : St1) : Bool := decide (Txt.split s.tx (Str.ofString " ") = s.words) && (match s, s.words with
  | .turn, [a] => decide (a = Str.ofString "turn")
  | .tens k, [a, b] => decide (a = Str.ofString "tens") && decide (numOf b = some k)
  | .figs k w, [a, b, c] => decide (a = Str.ofString "figures") && decide (numOf b = some k) && decide (c = Str.ofString w.s)
  | .steps k w, [a, b, c] => decide (a = Str.ofString "steps") && decide (numOf b = some k) && decide (c = Str.ofString w.s)
  | _, _ => false) && decide (s.tx.length ≤ 30) && PyData.strOk s.tx && decide (10 ∉ s.tx.cps.toList) && decide (s.tx ≠ Str.ofString "none")
theorem fits_all : allSt.all fitsB = true := by decide +kernel
theorem fits_of {s : St1} (h : s.ok) : fitsB s = true := List.all_eq_true.mp fits_all s (ok_all h)
theorem line_of {s : St1} (h : s.ok) : lineD s.tx = s.d := by
  have f := fits_of h
  unfold fitsB at f
  simp only [Bool.and_eq_true, decide_eq_true_eq] at f
  obtain ⟨⟨⟨⟨⟨f1, f2⟩, _⟩, _⟩, _⟩, _⟩ := f
  unfold lineD
  rw [f1]
  cases s with
  | turn => rfl
  | tens k =>
    simp only [St1.words, Bool.and_eq_true, decide_eq_true_eq] at f2
    simp only [St1.words, lineW, numD, f2.2, List.map_nil]
    rfl
  | figs k w =>
    simp only [St1.words, Bool.and_eq_true, decide_eq_true_eq] at f2
    simp only [St1.words, lineW, numD, f2.1.2, List.map_nil, List.map_cons]
    rfl
  | steps k w =>
    simp only [St1.words, Bool.and_eq_true, decide_eq_true_eq] at f2
    simp only [St1.words, lineW, numD, f2.1.2, List.map_nil, List.map_cons]
    rfl
theorem tx_len {s : St1} (h : s.ok) : s.tx.length ≤ 30 := by
  have f := fits_of h
  unfold fitsB at f
  simp only [Bool.and_eq_true, decide_eq_true_eq] at f
  exact f.1.1.1.2
theorem tx_ok {s : St1} (h : s.ok) : PyData.strOk s.tx = true := by
  have f := fits_of h
  unfold fitsB at f
  simp only [Bool.and_eq_true, decide_eq_true_eq] at f
  exact f.1.1.2
theorem tx_nl {s : St1} (h : s.ok) : 10 ∉ s.tx.cps.toList := by
  have f := fits_of h
  unfold fitsB at f
  simp only [Bool.and_eq_true, decide_eq_true_eq] at f
  exact f.1.2
theorem tx_none {s : St1} (h : s.ok) : s.tx ≠ Str.ofString "none" := by
  have f := fits_of h
  unfold fitsB at f
  simp only [Bool.and_eq_true, decide_eq_true_eq] at f
  exact f.2
theorem numD_int {w : Str} {k : Nat} (h : numD w = .int k) : w = toString (k : Int) := by
  unfold numD at h
  cases e : numOf w with
  | none => rw [e] at h; cases h
  | some n =>
    rw [e] at h
    have : n = k := by injection h; omega
    subst this
    exact numOf_eq e
theorem words_of {ws : List Str} {s : St1} (h : D.tup (lineW ws) = s.d) : ws = s.words := by
  have h : ∀ ds, s.d = .tup ds → lineW ws = ds := fun ds e => by rw [e] at h; injection h
  have str1 : ∀ {r : List Str} {y : Str}, r.map D.str = [.str y] → r = [y] := fun {r y} e => by
    cases r with
    | nil => cases e
    | cons a r =>
      cases r with
      | nil =>
        injection e with e _
        injection e with e
        rw [e]
      | cons b r => cases e
  cases s with
  | turn =>
    have h := h _ rfl
    match ws, h with
    | [a], h => injection h with h _; injection h with h; rw [h]; rfl
  | tens k =>
    have h := h _ rfl
    match ws, h with
    | a :: b :: r, h =>
      injection h with h1 h2
      injection h2 with h2 h3
      injection h1 with h1
      rw [h1, numD_int h2]
      cases r with
      | nil => rfl
      | cons _ _ => cases h3
  | figs k w =>
    have h := h _ rfl
    match ws, h with
    | a :: b :: r, h =>
      injection h with h1 h2
      injection h2 with h2 h3
      injection h1 with h1
      rw [h1, numD_int h2, str1 h3]
      rfl
  | steps k w =>
    have h := h _ rfl
    match ws, h with
    | a :: b :: r, h =>
      injection h with h1 h2
      injection h2 with h2 h3
      injection h1 with h1
      rw [h1, numD_int h2, str1 h3]
      rfl
theorem sp_sg : Str.ofString " " = sg 32 := by decide +kernel
theorem nl_sg : Str.ofString "\n" = sg 10 := by decide +kernel
/-- a line is read as a step just if it is its text -/
theorem line_iff {z : Str} {s : St1} (h : s.ok) : lineD z = s.d ↔ z = s.tx := by
  constructor
  · intro e
    have := words_of e
    have j := join_split' z 32
    rw [← sp_sg, this] at j
    exact j.symm
  · rintro rfl
    exact line_of h
theorem tx_inj {s t : St1} (hs : s.ok) (ht : t.ok) (h : s.tx = t.tx) : s = t := by
  have e : s.d = t.d := by rw [← line_of hs, h, line_of ht]
  have := chD_inj (c := [s]) (c' := [t]) (by show D.tup [s.d] = D.tup [t.d]; rw [e])
  injection this
def txSt (z : Str) : Option St1 := allSt.find? fun s => decide (s.tx = z)
theorem txSt_some {z : Str} {s : St1} : txSt z = some s ↔ s.ok ∧ z = s.tx := by
  constructor
  · intro h
    exact ⟨all_ok (List.mem_of_find?_eq_some h), (of_decide_eq_true (List.find?_some (p := fun s : St1 => decide (s.tx = z)) (show allSt.find? _ = some s from h))).symm⟩
  · rintro ⟨h, rfl⟩
    cases e : txSt s.tx with
    | none =>
      have := List.find?_eq_none.mp e s (ok_all h)
      simp at this
    | some t =>
      have h1 := all_ok (List.mem_of_find?_eq_some e)
      have h2 := of_decide_eq_true (List.find?_some (p := fun t : St1 => decide (t.tx = s.tx)) (show allSt.find? _ = some t from e))
      rw [tx_inj h1 h h2]
/-- what a text reads as -/
def rdLines : List Str → Option (List St1)
  | [] => some []
  | z :: r => match txSt z, rdLines r with
    | some s, some c => some (s :: c)
    | _, _ => none
def rdOf (z : Str) : Option (List St1) := if z = Str.ofString "none" then some [] else match rdLines (Txt.split z (Str.ofString "\n")) with
  | some c => if c.length ≤ 4 then some c else none
  | none => none
theorem rdLines_ok : ∀ {ls : List Str} {c : List St1}, rdLines ls = some c → (∀ s ∈ c, s.ok) ∧ ls = c.map St1.tx
  | [], c, h => by cases h; exact ⟨by simp, rfl⟩
  | z :: r, c, h => by
    unfold rdLines at h
    split at h
    · rename_i s c' e1 e2
      cases h
      obtain ⟨h1, h2⟩ := txSt_some.mp e1
      obtain ⟨h3, h4⟩ := rdLines_ok e2
      exact ⟨by simpa using ⟨h1, h3⟩, by rw [h4, h2]; rfl⟩
    · cases h
theorem rdLines_of : ∀ {c : List St1}, (∀ s ∈ c, s.ok) → rdLines (c.map St1.tx) = some c
  | [], _ => rfl
  | s :: c, h => by
    show (match txSt s.tx, rdLines (c.map St1.tx) with
    | some s, some c => some (s :: c)
    | _, _ => none) = _
    rw [txSt_some.mpr ⟨h s List.mem_cons_self, rfl⟩, rdLines_of fun x hx => h x (List.mem_cons_of_mem _ hx)]
theorem rdOf_ok {z : Str} {c : List St1} (h : rdOf z = some c) : ChOk c := by
  unfold rdOf at h
  split at h
  · cases h; exact ⟨by decide, by simp⟩
  · split at h
    · rename_i e
      split at h
      · cases h
        rename_i hl
        exact ⟨hl, (rdLines_ok e).1⟩
      · cases h
    · cases h
theorem rd_chTx {c : List St1} (h : ChOk c) : rdOf (chTx c) = some c := by
  unfold rdOf chTx
  by_cases h0 : c = []
  · subst h0
    simp
  · rw [if_neg h0]
    have hj : Txt.join (Str.ofString "\n") (c.map St1.tx) ≠ Str.ofString "none" := by
      intro e
      have es : Txt.split (Txt.join (Str.ofString "\n") (c.map St1.tx)) (Str.ofString "\n") = c.map St1.tx := by
        rw [nl_sg, txt_join]
        refine split_join (by decide) (by simpa using h0) fun p hp => ?_
        obtain ⟨s, hs, rfl⟩ := List.mem_map.mp hp
        exact tx_nl (h.2 s hs)
      rw [e] at es
      have e2 : Txt.split (Str.ofString "none") (Str.ofString "\n") = [Str.ofString "none"] := by decide +kernel
      rw [e2] at es
      cases c with
      | nil => exact h0 rfl
      | cons s c =>
        injection es with es _
        exact tx_none (h.2 s List.mem_cons_self) es.symm
    rw [if_neg hj]
    have es : Txt.split (Txt.join (Str.ofString "\n") (c.map St1.tx)) (Str.ofString "\n") = c.map St1.tx := by
      rw [nl_sg, txt_join]
      refine split_join (by decide) (by simpa using h0) fun p hp => ?_
      obtain ⟨s, hs, rfl⟩ := List.mem_map.mp hp
      exact tx_nl (h.2 s hs)
    rw [es, rdLines_of h.2]
    simp [h.1]
/-- lines, as the program reads them, are a chain just if they are texts of steps -/
theorem rd_lines {ls : List Str} {c : List St1} (hc : ∀ s ∈ c, s.ok) (h : ls.map lineD = c.map St1.d) : ls = c.map St1.tx := by
  induction ls generalizing c with
  | nil =>
    cases c with
    | nil => rfl
    | cons _ _ => cases h
  | cons z ls ih =>
    cases c with
    | nil => cases h
    | cons s c =>
      injection h with h1 h2
      rw [(line_iff (hc s List.mem_cons_self)).mp h1, ih (fun x hx => hc x (List.mem_cons_of_mem _ hx)) h2]
      rfl
theorem good_lines {ls : List Str} : (goodChain (.tup (ls.map lineD)) = true ∧ ∃ c, rdLines ls = some c ∧ c.length ≤ 4 ∧ D.tup (ls.map lineD) = chD c) ∨ (goodChain (.tup (ls.map lineD)) = false ∧ ∀ c, rdLines ls = some c → ¬ c.length ≤ 4) := by
  cases hg : goodChain (.tup (ls.map lineD)) with
  | true =>
    refine .inl ⟨rfl, ?_⟩
    obtain ⟨c, hc, e⟩ := goodChain_iff.mp hg
    have e : ls.map lineD = c.map St1.d := by injection e
    have := rd_lines hc.2 e
    rw [this]
    refine ⟨c, rdLines_of hc.2, hc.1, ?_⟩
    rw [← this, e]
    rfl
  | false =>
    refine .inr ⟨rfl, fun c hr hl => ?_⟩
    obtain ⟨h1, h2⟩ := rdLines_ok hr
    have : goodChain (.tup (ls.map lineD)) = true := by
      refine goodChain_iff.mpr ⟨c, ⟨hl, h1⟩, ?_⟩
      rw [h2, List.map_map]
      show D.tup _ = D.tup _
      congr 1
      exact List.map_congr_left fun s hs => line_of (h1 s hs)
    rw [hg] at this
    cases this
end Fs
end
section
set_option Elab.async false
set_option linter.all false
set_option maxRecDepth 100000
set_option maxHeartbeats 4000000
namespace Fs
open PySem PySem.Spec PyProof.Rows L2 LamX

/-! ### the program's texts, read -/
theorem word_len {s : St1} (h : s.ok) : s.words.length ≤ 3 ∧ ∀ w ∈ s.words, w.length ≤ 30 := by
  have : ∀ s ∈ allSt, s.words.length ≤ 3 ∧ ∀ w ∈ s.words, w.length ≤ 30 := by decide +kernel
  exact this s (ok_all h)
theorem strsOf_map : ∀ ys : List Str, strsOf (ys.map D.str) = some ys
  | [] => rfl
  | y :: ys => by
    show (strsOf (ys.map D.str)).map (y :: ·) = _
    rw [strsOf_map ys]; rfl
theorem sum_len {n : Nat} : ∀ {ys : List Str}, (∀ y ∈ ys, y.length ≤ n) → (ys.map (·.length)).sum ≤ ys.length * n
  | [], _ => by simp
  | y :: ys, h => by
    have h1 := h y List.mem_cons_self
    have h2 := sum_len fun x hx => h x (List.mem_cons_of_mem _ hx)
    simp only [List.map_cons, List.sum_cons, List.length_cons]
    rw [Nat.add_mul]; omega
theorem log_small {k : Nat} (h : k ≤ 10000000) : ((k : Int)).natAbs.log2 < 1920 := by
  have : k.log2 < 25 := by
    by_cases h0 : k = 0
    · subst h0; decide
    · exact (Nat.log2_lt h0).mpr (by omega)
  rw [Int.natAbs_natCast]; omega
/-- the words of a step, made -/
theorem lcD_words {te : TED} {env : En} {i : Nat} {k : List D → Store → Prop} {S : Store} {s : St1} (hs : s.ok) (ht : ∀ (x : D) (Q : QD), (∀ a, x = .str a → Q (.str a) S) → (∀ n : Nat, x = .int n → n ≤ 10000000 → Q (.str (toString (n : Int))) S) → ((∃ a, x = .str a) ∨ ∃ n : Nat, x = .int n ∧ n ≤ 10000000) → te (env.set i (some (.d x))) S Q noE) (h : k (s.words.map D.str) S) :
    ∀ ds, s.d = .tup ds → lcD (gN i) dYes te env k ds [] S := by
  intro ds hd
  let f : D → D := fun d => match d with
    | .int n => .str (toString n)
    | d => d
  have ef : s.words.map D.str = ds.map f := by
    cases s with
    | turn => cases hd; rfl
    | tens k => cases hd; rfl
    | figs k w => cases hd; rfl
    | steps k w => cases hd; rfl
  have hl : ds.length ≤ 3 := by
    have := (word_len hs).1
    have e := congrArg List.length ef
    simp at e; omega
  have kinds : ∀ x ∈ ds, (∃ a, x = .str a) ∨ ∃ n : Nat, x = .int n ∧ n ≤ 10000000 := by
    cases s with
    | turn => cases hd; intro x hx; simp at hx; exact .inl ⟨_, hx⟩
    | tens k =>
      cases hd; intro x hx; simp at hx
      have := hs.2
      rcases hx with e | e
      · exact .inl ⟨_, e⟩
      · exact .inr ⟨k, e, by omega⟩
    | figs k w =>
      cases hd; intro x hx; simp at hx
      have := hs.2
      rcases hx with e | e | e
      · exact .inl ⟨_, e⟩
      · exact .inr ⟨k, e, by omega⟩
      · exact .inl ⟨_, e⟩
    | steps k w =>
      cases hd; intro x hx; simp at hx
      have := (size_b (show k ∈ sizesN from hs)).2
      rcases hx with e | e | e
      · exact .inl ⟨_, e⟩
      · exact .inr ⟨k, e, by omega⟩
      · exact .inl ⟨_, e⟩
  rw [ef] at h
  refine lcD_ev f ds (by omega) (fun x hx Q hq => ht x Q (fun a e => ?_) (fun n e _ => ?_) (kinds x hx)) h
  · subst e; exact hq
  · subst e; exact hq
theorem eqb_tnil (xs : List D) : D.eqb (.tup xs) (.tup []) = xs.isEmpty := by
  cases xs <;> simp [D.eqb, D.py, D.pys, PyData.eqv, PyData.eqvAll]
def t_text_of : TSD :=
  (dRet (dIf (dTest (dBin neD (dVar 0) (dTup dNil))) (dM1 joinD (dC (.str "\n")) (dLc (dItS (dVar 0)) [2] (gN 2) dYes (dM1 joinD (dC (.str " ")) (dLc (dItS (dVar 2)) [1] (gN 1) dYes (dCB strD (dCons (dVar 1) dNil)))))) (dC (D.str "none"))))
def sp_text_of : SpD := fun as S Q _ => ∃ c, as = [.d (chD c)] ∧ ChOk c ∧ Q (.str (chTx c)) S
theorem sp_text_of_mono : MonoSp sp_text_of := fun as S Q Q' E E' hq he ⟨c, h1, h2, h3⟩ => ⟨c, h1, h2, hq _ _ h3⟩
theorem join_len (b : Str) (ys : List Str) : (Txt.join b ys).length ≤ (ys.map (·.length)).sum + ys.length * b.length := by
  rw [txt_join]
  induction ys with
  | nil => exact Nat.zero_le _
  | cons y ys ih =>
    cases ys with
    | nil => show y.length ≤ _; simp
    | cons z r =>
      have e : (Str.join b (y :: z :: r)).length = y.length + b.length + (Str.join b (z :: r)).length := by
        show (y ++ b ++ Str.join b (z :: r)).length = _
        simp only [Str.length, Str.cps_append, Array.size_append]
      rw [e]
      simp only [List.map_cons, List.sum_cons, List.length_cons] at ih ⊢
      simp only [Nat.add_mul] at ih ⊢
      omega
theorem p_text_of (as : List Va) (S : Store) (Q : QD) (E : EX) (h : sp_text_of as S Q E) : t_text_of (rtE Q E) (startD 3 as) S := by
  obtain ⟨c, rfl, hc, hq⟩ := h
  have e3 : chD c = .tup (c.map St1.d) := rfl
  have pl : (chD c).pl 2 = true := ChOk.pl
  simp only [t_text_of, s_seq, s_next, s_ret, s_retN, s_drop, s_ifS, s_asg, s_par, s_raise, s_for, rt_nx, rt_rt, rt_ex, s_gN, s_gT, s_gTl, setAll_nil, setAll_cons, wipe_nil, wipe_cons, s_start, s_var, s_c, s_bin, s_test, s_chain, s_tru, s_and, s_or, s_not, s_andV, s_orV, s_notV, s_if, s_nil, s_cons, s_tup, s_lst, s_neg, s_cb, s_itS, s_rng1, s_rng2, s_lc, s_yes, s_newL, s_part, s_nop, s_slice, s_rev, s_m1, s_call, s_app, s_setIx, s_dnew, s_done, s_dput, s_dget2, key_s, key_i, cellK_, tru_str, in_s, mul_ti, mul_li, s_onB, s_condB, tru_bl, tru_int, tru_non, tru_tup, tru_lst, add_ii, add_ss, add_tt, add_ll, sub_ii, mul_ii, mul_si, fdiv_ii, mod_ii, pow_ii, cmp_ii, eq_ii, eq_ss, ne_ii, ne_ss, is_nn, is_bb, is_in, is_sn, is_tn, is_ln, ix_t, ix_l, ix_loc, at_, len_t, len_l, len_scr, len_s, abs_i, int_i, int_b, int_s, str_i, str_s, bool_b, list_t, list_l, tuple_t, tuple_l, tuple_loc, list_loc, isi_, sum_l, max_ii, min_ii, slice_t, slice_l, slice_s, tn_int, tn_bl, tn_str, tn_non, tn_tup, tn_lst, cell_, strOk_of, atI_0, atI_1, atI_2, List.map_cons, List.map_nil, List.length_cons, List.length_nil, List.replicate_succ, List.replicate_zero, List.nil_append, List.cons_append, List.append_nil, List.getElem?_cons_zero, List.getElem?_cons_succ, List.set_cons_zero, List.set_cons_succ, Nat.reduceAdd, Nat.reduceSub, Nat.sub_self, Bool.not_true, Bool.not_false, if_true, if_false, reduceIte, Bool.false_eq_true, Bool.true_eq_false, true_and, and_true, decide_eq_true_eq, Bool.not_eq_true', decide_eq_false_iff_not, ne_eq, not_true_eq_false, not_false_eq_true, ofString_inj]
  have f1 : (chD c).fit := pl_fit (by decide) pl
  have f2 : (D.tup []).fit := pl_fit (n := 1) (by decide) (by simp [D.pl, D.pls])
  rw [e3] at f1 ⊢
  refine ⟨by decide, f1, f2, ?_⟩
  rw [eqb_tnil]
  unfold chTx at hq
  by_cases h0 : c = []
  · subst h0
    simpa using hq
  · rw [if_neg h0] at hq
    have : (c.map St1.d).isEmpty = false := by simpa using h0
    simp only [this, s_seq, s_next, s_ret, s_retN, s_drop, s_ifS, s_asg, s_par, s_raise, s_for, rt_nx, rt_rt, rt_ex, s_gN, s_gT, s_gTl, setAll_nil, setAll_cons, wipe_nil, wipe_cons, s_start, s_var, s_c, s_bin, s_test, s_chain, s_tru, s_and, s_or, s_not, s_andV, s_orV, s_notV, s_if, s_nil, s_cons, s_tup, s_lst, s_neg, s_cb, s_itS, s_rng1, s_rng2, s_lc, s_yes, s_newL, s_part, s_nop, s_slice, s_rev, s_m1, s_call, s_app, s_setIx, s_dnew, s_done, s_dput, s_dget2, key_s, key_i, cellK_, tru_str, in_s, mul_ti, mul_li, s_onB, s_condB, tru_bl, tru_int, tru_non, tru_tup, tru_lst, add_ii, add_ss, add_tt, add_ll, sub_ii, mul_ii, mul_si, fdiv_ii, mod_ii, pow_ii, cmp_ii, eq_ii, eq_ss, ne_ii, ne_ss, is_nn, is_bb, is_in, is_sn, is_tn, is_ln, ix_t, ix_l, ix_loc, at_, len_t, len_l, len_scr, len_s, abs_i, int_i, int_b, int_s, str_i, str_s, bool_b, list_t, list_l, tuple_t, tuple_l, tuple_loc, list_loc, isi_, sum_l, max_ii, min_ii, slice_t, slice_l, slice_s, tn_int, tn_bl, tn_str, tn_non, tn_tup, tn_lst, cell_, strOk_of, atI_0, atI_1, atI_2, List.map_cons, List.map_nil, List.length_cons, List.length_nil, List.replicate_succ, List.replicate_zero, List.nil_append, List.cons_append, List.append_nil, List.getElem?_cons_zero, List.getElem?_cons_succ, List.set_cons_zero, List.set_cons_succ, Nat.reduceAdd, Nat.reduceSub, Nat.sub_self, Bool.not_true, Bool.not_false, if_true, if_false, reduceIte, Bool.false_eq_true, Bool.true_eq_false, true_and, and_true, decide_eq_true_eq, Bool.not_eq_true', decide_eq_false_iff_not, ne_eq, not_true_eq_false, not_false_eq_true, ofString_inj]
    refine ⟨⟨_, rfl⟩, ?_⟩
    have e4 : (c.map St1.tx).map D.str = (c.map St1.d).map fun d => match d with
      | .tup ds => .str (Txt.join (Str.ofString " ") ((strsOf (ds.map fun d => match d with
        | .int n => .str (toString n)
        | d => d)).getD []))
      | d => d := by
      rw [List.map_map, List.map_map]
      refine List.map_congr_left fun s hs => ?_
      cases s <;> rfl
    have hk : joinD (.str (Str.ofString "\n")) (.lst ((c.map St1.tx).map D.str)) S fun d => Q d S := by
      unfold joinD
      simp only [strsOf_map]
      have hl := hc.1
      refine ⟨?_, hq⟩
      have := sum_len (n := 30) (ys := c.map St1.tx) fun y hy => by
        obtain ⟨s, hs, rfl⟩ := List.mem_map.mp hy
        exact tx_len (hc.2 s hs)
      have e5 : (Str.ofString "\n").length = 1 := by decide +kernel
      rw [e5]
      rw [List.length_map] at this ⊢
      omega
    rw [e4] at hk
    refine lcD_ev _ _ (by have := hc.1; simp; omega) (fun x hx Q' hq' => ?_) hk
    obtain ⟨s, hs, rfl⟩ := List.mem_map.mp hx
    have hok := hc.2 s hs
    simp only [s_seq, s_next, s_ret, s_retN, s_drop, s_ifS, s_asg, s_par, s_raise, s_for, rt_nx, rt_rt, rt_ex, s_gN, s_gT, s_gTl, setAll_nil, setAll_cons, wipe_nil, wipe_cons, s_start, s_var, s_c, s_bin, s_test, s_chain, s_tru, s_and, s_or, s_not, s_andV, s_orV, s_notV, s_if, s_nil, s_cons, s_tup, s_lst, s_neg, s_cb, s_itS, s_rng1, s_rng2, s_lc, s_yes, s_newL, s_part, s_nop, s_slice, s_rev, s_m1, s_call, s_app, s_setIx, s_dnew, s_done, s_dput, s_dget2, key_s, key_i, cellK_, tru_str, in_s, mul_ti, mul_li, s_onB, s_condB, tru_bl, tru_int, tru_non, tru_tup, tru_lst, add_ii, add_ss, add_tt, add_ll, sub_ii, mul_ii, mul_si, fdiv_ii, mod_ii, pow_ii, cmp_ii, eq_ii, eq_ss, ne_ii, ne_ss, is_nn, is_bb, is_in, is_sn, is_tn, is_ln, ix_t, ix_l, ix_loc, at_, len_t, len_l, len_scr, len_s, abs_i, int_i, int_b, int_s, str_i, str_s, bool_b, list_t, list_l, tuple_t, tuple_l, tuple_loc, list_loc, isi_, sum_l, max_ii, min_ii, slice_t, slice_l, slice_s, tn_int, tn_bl, tn_str, tn_non, tn_tup, tn_lst, cell_, strOk_of, atI_0, atI_1, atI_2, List.map_cons, List.map_nil, List.length_cons, List.length_nil, List.replicate_succ, List.replicate_zero, List.nil_append, List.cons_append, List.append_nil, List.getElem?_cons_zero, List.getElem?_cons_succ, List.set_cons_zero, List.set_cons_succ, Nat.reduceAdd, Nat.reduceSub, Nat.sub_self, Bool.not_true, Bool.not_false, if_true, if_false, reduceIte, Bool.false_eq_true, Bool.true_eq_false, true_and, and_true, decide_eq_true_eq, Bool.not_eq_true', decide_eq_false_iff_not, ne_eq, not_true_eq_false, not_false_eq_true, ofString_inj]
    refine ⟨⟨_, rfl⟩, ?_⟩
    obtain ⟨ds, hd⟩ : ∃ ds, s.d = .tup ds := by cases s <;> exact ⟨_, rfl⟩
    rw [hd]
    simp only
    refine lcD_words (s := s) hok (fun x Q2 q1 q2 q3 => ?_) ?_ ds hd
    · rcases q3 with ⟨a, rfl⟩ | ⟨n, rfl, hn⟩
      · simp only [s_seq, s_next, s_ret, s_retN, s_drop, s_ifS, s_asg, s_par, s_raise, s_for, rt_nx, rt_rt, rt_ex, s_gN, s_gT, s_gTl, setAll_nil, setAll_cons, wipe_nil, wipe_cons, s_start, s_var, s_c, s_bin, s_test, s_chain, s_tru, s_and, s_or, s_not, s_andV, s_orV, s_notV, s_if, s_nil, s_cons, s_tup, s_lst, s_neg, s_cb, s_itS, s_rng1, s_rng2, s_lc, s_yes, s_newL, s_part, s_nop, s_slice, s_rev, s_m1, s_call, s_app, s_setIx, s_dnew, s_done, s_dput, s_dget2, key_s, key_i, cellK_, tru_str, in_s, mul_ti, mul_li, s_onB, s_condB, tru_bl, tru_int, tru_non, tru_tup, tru_lst, add_ii, add_ss, add_tt, add_ll, sub_ii, mul_ii, mul_si, fdiv_ii, mod_ii, pow_ii, cmp_ii, eq_ii, eq_ss, ne_ii, ne_ss, is_nn, is_bb, is_in, is_sn, is_tn, is_ln, ix_t, ix_l, ix_loc, at_, len_t, len_l, len_scr, len_s, abs_i, int_i, int_b, int_s, str_i, str_s, bool_b, list_t, list_l, tuple_t, tuple_l, tuple_loc, list_loc, isi_, sum_l, max_ii, min_ii, slice_t, slice_l, slice_s, tn_int, tn_bl, tn_str, tn_non, tn_tup, tn_lst, cell_, strOk_of, atI_0, atI_1, atI_2, List.map_cons, List.map_nil, List.length_cons, List.length_nil, List.replicate_succ, List.replicate_zero, List.nil_append, List.cons_append, List.append_nil, List.getElem?_cons_zero, List.getElem?_cons_succ, List.set_cons_zero, List.set_cons_succ, Nat.reduceAdd, Nat.reduceSub, Nat.sub_self, Bool.not_true, Bool.not_false, if_true, if_false, reduceIte, Bool.false_eq_true, Bool.true_eq_false, true_and, and_true, decide_eq_true_eq, Bool.not_eq_true', decide_eq_false_iff_not, ne_eq, not_true_eq_false, not_false_eq_true, ofString_inj]
        exact q1 a rfl
      · simp only [s_seq, s_next, s_ret, s_retN, s_drop, s_ifS, s_asg, s_par, s_raise, s_for, rt_nx, rt_rt, rt_ex, s_gN, s_gT, s_gTl, setAll_nil, setAll_cons, wipe_nil, wipe_cons, s_start, s_var, s_c, s_bin, s_test, s_chain, s_tru, s_and, s_or, s_not, s_andV, s_orV, s_notV, s_if, s_nil, s_cons, s_tup, s_lst, s_neg, s_cb, s_itS, s_rng1, s_rng2, s_lc, s_yes, s_newL, s_part, s_nop, s_slice, s_rev, s_m1, s_call, s_app, s_setIx, s_dnew, s_done, s_dput, s_dget2, key_s, key_i, cellK_, tru_str, in_s, mul_ti, mul_li, s_onB, s_condB, tru_bl, tru_int, tru_non, tru_tup, tru_lst, add_ii, add_ss, add_tt, add_ll, sub_ii, mul_ii, mul_si, fdiv_ii, mod_ii, pow_ii, cmp_ii, eq_ii, eq_ss, ne_ii, ne_ss, is_nn, is_bb, is_in, is_sn, is_tn, is_ln, ix_t, ix_l, ix_loc, at_, len_t, len_l, len_scr, len_s, abs_i, int_i, int_b, int_s, str_i, str_s, bool_b, list_t, list_l, tuple_t, tuple_l, tuple_loc, list_loc, isi_, sum_l, max_ii, min_ii, slice_t, slice_l, slice_s, tn_int, tn_bl, tn_str, tn_non, tn_tup, tn_lst, cell_, strOk_of, atI_0, atI_1, atI_2, List.map_cons, List.map_nil, List.length_cons, List.length_nil, List.replicate_succ, List.replicate_zero, List.nil_append, List.cons_append, List.append_nil, List.getElem?_cons_zero, List.getElem?_cons_succ, List.set_cons_zero, List.set_cons_succ, Nat.reduceAdd, Nat.reduceSub, Nat.sub_self, Bool.not_true, Bool.not_false, if_true, if_false, reduceIte, Bool.false_eq_true, Bool.true_eq_false, true_and, and_true, decide_eq_true_eq, Bool.not_eq_true', decide_eq_false_iff_not, ne_eq, not_true_eq_false, not_false_eq_true, ofString_inj]
        exact ⟨log_small hn, q2 n rfl hn⟩
    · simp only [joinD, strsOf_map]
      have hw := word_len hok
      have := sum_len (n := 30) hw.2
      have e5 : (Str.ofString " ").length = 1 := by decide +kernel
      refine ⟨by rw [e5]; omega, ?_⟩
      rw [hd] at hq'
      have e6 : (strsOf (ds.map fun d => match d with
        | .int n => .str (toString n)
        | d => d)).getD [] = s.words := by
        have : (ds.map fun d => match d with
          | .int n => .str (toString n)
          | d => d) = s.words.map D.str := by
          cases s <;> (cases hd; rfl)
        rw [this, strsOf_map]; rfl
      rw [← e6]
      exact hq'
end Fs
end
section
set_option Elab.async false
set_option linter.all false
set_option maxRecDepth 100000
set_option maxHeartbeats 4000000
namespace Fs
open PySem PySem.Spec PyProof.Rows L2 LamX

theorem strOk_iff {x : Str} : PyData.strOk x = true ↔ ∀ c ∈ x.cps.toList, c < 0x110000 := by
  unfold PyData.strOk
  rw [Array.all_eq_true']
  simp
theorem strOk_sub {x y : Str} (h : PyData.strOk x = true) (hs : ∀ c ∈ y.cps.toList, c ∈ x.cps.toList) : PyData.strOk y = true :=
  strOk_iff.mpr fun c hc => strOk_iff.mp h c (hs c hc)
theorem glue_sub (c : Nat) : ∀ {ps : List Str} {p : Str}, p ∈ ps → p.cps.toList.Sublist (glue c ps)
  | [], _, h => by cases h
  | [q], p, h => by
    rw [List.mem_singleton.mp h]
    exact List.Sublist.refl _
  | q :: q2 :: r, p, h => by
    show p.cps.toList.Sublist (q.cps.toList ++ c :: glue c (q2 :: r))
    rcases List.mem_cons.mp h with e | h
    · subst e; exact List.sublist_append_left _ _
    · exact ((glue_sub c h).trans (List.sublist_cons_self _ _)).trans (List.sublist_append_right _ _)
/-- a part of a text is no longer, and of its signs -/
theorem part_sub {x p : Str} {c : Nat} (h : p ∈ Txt.split x (sg c)) : p.cps.toList.Sublist x.cps.toList := by
  have := glue_sub c h
  rw [← join_glue, StrLaws.join_split] at this
  exact this
theorem part_len {x p : Str} {c : Nat} (h : p ∈ Txt.split x (sg c)) : p.length ≤ x.length := by
  have := (part_sub h).length_le
  simpa [Str.length] using this
theorem part_ok {x p : Str} {c : Nat} (hx : PyData.strOk x = true) (h : p ∈ Txt.split x (sg c)) : PyData.strOk p = true := strOk_sub hx fun d hd => (part_sub h).subset hd
theorem digits_are : (Str.ofString "0123456789").cps.toList = [48, 49, 50, 51, 52, 53, 54, 55, 56, 57] := by decide +kernel
theorem digs_all {w : Str} (h : digs w = true) : w.cps.toList.all (fun c => decide (48 ≤ c) && decide (c ≤ 57)) = true := by
  unfold digs at h
  rw [List.all_eq_true] at h ⊢
  intro c hc
  have := of_decide_eq_true (h c hc)
  rw [digits_are] at this
  simp only [List.mem_cons, List.not_mem_nil, or_false] at this
  rcases this with e | e | e | e | e | e | e | e | e | e <;> subst e <;> decide
theorem int_digs {w : Str} (h : digs w = true) (h1 : 1 ≤ w.length) (h7 : w.length ≤ 7) : PySem.intText? w = some ((NumText.digitsVal w.cps.toList : Nat) : Int) := by
  have e : w = SX.S w.cps.toList := by
    apply str_ext
    simp [SX.S]
  have hsz : w.cps.toList.length = w.length := by simp [Str.length]
  have hlen : w.cps.toList.length ≤ 4300 := by omega
  have := SX.int_S (a := w.cps.toList) (digs_all h) (fun z => by
    have : w.cps.toList.length = 0 := by rw [z]; rfl
    omega) hlen
  rw [← e] at this
  exact this
theorem digits_lt {l : List Nat} (h : l.all (fun c => decide (48 ≤ c) && decide (c ≤ 57)) = true) : NumText.digitsVal l < 10 ^ l.length := by
  have go : ∀ (l : List Nat) (acc m : Nat), l.all (fun c => decide (48 ≤ c) && decide (c ≤ 57)) = true → acc < m → l.foldl (fun acc c => acc * 10 + (c - 48)) acc < m * 10 ^ l.length := by
    intro l
    induction l with
    | nil => intro acc m _ h; simpa using h
    | cons a l ih =>
      intro acc m h hm
      rw [List.all_cons, Bool.and_eq_true, Bool.and_eq_true, decide_eq_true_eq, decide_eq_true_eq] at h
      have := ih (acc * 10 + (a - 48)) (m * 10) h.2 (by omega)
      rw [List.foldl_cons, List.length_cons]
      have e : m * 10 ^ (l.length + 1) = m * 10 * 10 ^ l.length := by rw [Nat.pow_succ, Nat.mul_comm (10 ^ l.length) 10, ← Nat.mul_assoc]
      rw [e]
      exact this
  have := go l 0 1 h (by omega)
  simpa [NumText.digitsVal] using this
def t_number_of : TSD :=
  (dSeq (dIfS (dOr (dNot (dTest (dChain leD leD (dC (.int 1)) (dCB lenD (dCons (dVar 0) dNil)) (dC (D.int 7))))) (dTest (dBin neD (dLc (dItS (dVar 0)) [1] (gN 1) (dTest (dBin (inD true) (dVar 1) (dC (D.str "0123456789")))) (dVar 1)) (dLst dNil))))
    (dRet (dC .non))
    dNext)
  (dRet (dIf (dTest (dBin eqD (dCB strD (dCons (dCB intD (dCons (dVar 0) dNil)) dNil)) (dVar 0))) (dCB intD (dCons (dVar 0) dNil)) (dC .non))))
def sp_number_of : SpD := fun as S Q _ => ∃ w, as = [.d (.str w)] ∧ w.length ≤ 1000000 ∧ PyData.strOk w = true ∧ Q (numD w) S
theorem sp_number_of_mono : MonoSp sp_number_of := fun as S Q Q' E E' hq he ⟨c, h1, h2, h3, h4⟩ => ⟨c, h1, h2, h3, hq _ _ h4⟩
def badSign (d : D) : Bool := match d with
  | .str a => !(a.cps.toList.all fun c => decide (c ∈ (Str.ofString "0123456789").cps.toList))
  | _ => false
theorem badSign_one (c : Nat) : badSign (.str ⟨#[c]⟩) = !decide (c ∈ (Str.ofString "0123456789").cps.toList) := by
  show (!(decide (c ∈ (Str.ofString "0123456789").cps.toList) && true)) = _
  rw [Bool.and_true]
theorem signs_bad (w : Str) : ((signsD w).filter badSign).isEmpty = digs w := by
  unfold signsD digs
  induction w.cps.toList with
  | nil => rfl
  | cons c l ih =>
    rw [List.map_cons, List.filter_cons, List.all_cons]
    by_cases h : c ∈ (Str.ofString "0123456789").cps.toList
    · have e : badSign (.str ⟨#[c]⟩) = false := by rw [badSign_one, decide_eq_true h]; rfl
      rw [if_neg (by rw [e]; decide), ih, decide_eq_true h, Bool.true_and]
    · have e : badSign (.str ⟨#[c]⟩) = true := by rw [badSign_one, decide_eq_false h]; rfl
      rw [if_pos e, decide_eq_false h]
      rfl
theorem p_number_of (as : List Va) (S : Store) (Q : QD) (E : EX) (h : sp_number_of as S Q E) : t_number_of (rtE Q E) (startD 2 as) S := by
  obtain ⟨w, rfl, hl, hk, hq⟩ := h
  simp only [t_number_of, s_seq, s_next, s_ret, s_retN, s_drop, s_ifS, s_asg, s_par, s_raise, s_for, rt_nx, rt_rt, rt_ex, s_gN, s_gT, s_gTl, setAll_nil, setAll_cons, wipe_nil, wipe_cons, s_start, s_var, s_c, s_bin, s_test, s_chain, s_tru, s_and, s_or, s_not, s_andV, s_orV, s_notV, s_if, s_nil, s_cons, s_tup, s_lst, s_neg, s_cb, s_itS, s_rng1, s_rng2, s_lc, s_yes, s_newL, s_part, s_nop, s_slice, s_rev, s_m1, s_call, s_app, s_setIx, s_dnew, s_done, s_dput, s_dget2, key_s, key_i, cellK_, tru_str, in_s, mul_ti, mul_li, s_onB, s_condB, tru_bl, tru_int, tru_non, tru_tup, tru_lst, add_ii, add_ss, add_tt, add_ll, sub_ii, mul_ii, mul_si, fdiv_ii, mod_ii, pow_ii, cmp_ii, eq_ii, eq_ss, ne_ii, ne_ss, is_nn, is_bb, is_in, is_sn, is_tn, is_ln, ix_t, ix_l, ix_loc, at_, len_t, len_l, len_scr, len_s, abs_i, int_i, int_b, int_s, str_i, str_s, bool_b, list_t, list_l, tuple_t, tuple_l, tuple_loc, list_loc, isi_, sum_l, max_ii, min_ii, slice_t, slice_l, slice_s, tn_int, tn_bl, tn_str, tn_non, tn_tup, tn_lst, cell_, strOk_of, atI_0, atI_1, atI_2, List.map_cons, List.map_nil, List.length_cons, List.length_nil, List.replicate_succ, List.replicate_zero, List.nil_append, List.cons_append, List.append_nil, List.getElem?_cons_zero, List.getElem?_cons_succ, List.set_cons_zero, List.set_cons_succ, Nat.reduceAdd, Nat.reduceSub, Nat.sub_self, Bool.not_true, Bool.not_false, if_true, if_false, reduceIte, Bool.false_eq_true, Bool.true_eq_false, true_and, and_true, decide_eq_true_eq, Bool.not_eq_true', decide_eq_false_iff_not, ne_eq, not_true_eq_false, not_false_eq_true, ofString_inj]
  have key : ∀ (b : Prop) [Decidable b] (_ : b ↔ (1 ≤ w.length ∧ w.length ≤ 7)), True := fun _ _ _ => trivial
  refine ⟨by rw [sizeLine_eq]; omega, ?_⟩
  have fin : ¬ (1 ≤ w.length ∧ w.length ≤ 7 ∧ digs w = true) → Q .non S := fun hn => by
    have e : numD w = .non := by
      unfold numD numOf
      rw [if_neg (fun z => hn ⟨z.1, z.2.1, z.2.2.1⟩)]
    rw [e] at hq
    exact hq
  have body : 1 ≤ w.length → w.length ≤ 7 → lcD (gN 1) (dTest (dBin (inD true) (dVar 1) (dC (.str (Str.ofString "0123456789"))))) (dVar 1) [some (.d (.str w)), none] (fun acc S2 => 0 ≤ sizeLine ∧ neD (.lst acc) (.lst []) S2 fun d => onB d fun b => if b = true then Q .non S2 else ∃ n, PySem.intText? w = some n ∧ w.length ≤ 640 ∧ n.natAbs.log2 < 1920 ∧ PyData.strOk w = true ∧ (if ((Str.ofString (toString n)) : Str) = w then ∃ n, PySem.intText? w = some n ∧ w.length ≤ 640 ∧ Q (.int n) S2 else Q .non S2)) (signsD w) [] S := by
    intro h1 h7
    refine lcD_filter (p := badSign) (by simp) (fun x Q E hq => by simpa using hq) _ _ (fun x hx Q E hq => ?_) (by unfold signsD; rw [sizeLine_eq]; simp [Str.length] at h7 ⊢; omega) ?_
    · unfold signsD at hx
      obtain ⟨c, hc, rfl⟩ := List.mem_map.mp hx
      simp only [s_seq, s_next, s_ret, s_retN, s_drop, s_ifS, s_asg, s_par, s_raise, s_for, rt_nx, rt_rt, rt_ex, s_gN, s_gT, s_gTl, setAll_nil, setAll_cons, wipe_nil, wipe_cons, s_start, s_var, s_c, s_bin, s_test, s_chain, s_tru, s_and, s_or, s_not, s_andV, s_orV, s_notV, s_if, s_nil, s_cons, s_tup, s_lst, s_neg, s_cb, s_itS, s_rng1, s_rng2, s_lc, s_yes, s_newL, s_part, s_nop, s_slice, s_rev, s_m1, s_call, s_app, s_setIx, s_dnew, s_done, s_dput, s_dget2, key_s, key_i, cellK_, tru_str, in_s, mul_ti, mul_li, s_onB, s_condB, tru_bl, tru_int, tru_non, tru_tup, tru_lst, add_ii, add_ss, add_tt, add_ll, sub_ii, mul_ii, mul_si, fdiv_ii, mod_ii, pow_ii, cmp_ii, eq_ii, eq_ss, ne_ii, ne_ss, is_nn, is_bb, is_in, is_sn, is_tn, is_ln, ix_t, ix_l, ix_loc, at_, len_t, len_l, len_scr, len_s, abs_i, int_i, int_b, int_s, str_i, str_s, bool_b, list_t, list_l, tuple_t, tuple_l, tuple_loc, list_loc, isi_, sum_l, max_ii, min_ii, slice_t, slice_l, slice_s, tn_int, tn_bl, tn_str, tn_non, tn_tup, tn_lst, cell_, strOk_of, atI_0, atI_1, atI_2, List.map_cons, List.map_nil, List.length_cons, List.length_nil, List.replicate_succ, List.replicate_zero, List.nil_append, List.cons_append, List.append_nil, List.getElem?_cons_zero, List.getElem?_cons_succ, List.set_cons_zero, List.set_cons_succ, Nat.reduceAdd, Nat.reduceSub, Nat.sub_self, Bool.not_true, Bool.not_false, if_true, if_false, reduceIte, Bool.false_eq_true, Bool.true_eq_false, true_and, and_true, decide_eq_true_eq, Bool.not_eq_true', decide_eq_false_iff_not, ne_eq, not_true_eq_false, not_false_eq_true, ofString_inj]
      refine ⟨c, rfl, ?_⟩
      have e : badSign (.str ⟨#[c]⟩) = (decide (c ∈ (Str.ofString "0123456789").cps.toList) != true) := by
        rw [badSign_one]
        cases decide (c ∈ (Str.ofString "0123456789").cps.toList) <;> rfl
      rw [← e]
      exact hq
    · rw [List.nil_append]
      have f1 : (D.lst ((signsD w).filter badSign)).fit := by
        refine pl_fit (n := 2) (by decide) (pls_of fun d hd => ?_)
        have := (List.mem_filter.mp hd).1
        unfold signsD at this
        obtain ⟨c, hc, rfl⟩ := List.mem_map.mp this
        show PyData.strOk ⟨#[c]⟩ = true
        exact strOk_sub hk fun d hd => by simp at hd; subst hd; exact hc
      refine ⟨Nat.zero_le _, f1, pl_fit (n := 1) (by decide) (by simp [D.pl, D.pls]), ?_⟩
      rw [eqb_lnil, signs_bad]
      cases hd : digs w with
      | false =>
        simp only [s_onB, Bool.not_false, if_true]
        exact fin (fun z => by rw [hd] at z; cases z.2.2)
      | true =>
        simp only [s_onB, Bool.not_true, Bool.false_eq_true, if_false]
        have hi := int_digs hd h1 h7
        have hlt := digits_lt (digs_all hd)
        have hb : NumText.digitsVal w.cps.toList ≤ 10000000 := by
          have : 10 ^ w.cps.toList.length ≤ 10 ^ 7 := Nat.pow_le_pow_right (by decide) (by simp [Str.length] at h7 ⊢; omega)
          omega
        refine ⟨_, hi, by omega, log_small hb, hk, ?_⟩
        unfold numD numOf at hq
        by_cases he : (toString ((NumText.digitsVal w.cps.toList : Nat) : Int) : Str) = w
        · rw [if_pos ⟨h1, h7, hd, he⟩] at hq
          rw [if_pos he]
          exact ⟨_, hi, by omega, hq⟩
        · rw [if_neg (fun z => he z.2.2.2)] at hq
          rw [if_neg he]
          exact hq
  have c1 : ((1 : Int) ≤ (w.length : Int)) = (1 ≤ w.length) := by apply propext; omega
  have c7 : ((w.length : Int) ≤ 7) = (w.length ≤ 7) := by apply propext; omega
  simp only [c1, c7]
  by_cases h1 : 1 ≤ w.length
  · by_cases h7 : w.length ≤ 7
    · simp only [h1, h7, s_seq, s_next, s_ret, s_retN, s_drop, s_ifS, s_asg, s_par, s_raise, s_for, rt_nx, rt_rt, rt_ex, s_gN, s_gT, s_gTl, setAll_nil, setAll_cons, wipe_nil, wipe_cons, s_start, s_var, s_c, s_bin, s_test, s_chain, s_tru, s_and, s_or, s_not, s_andV, s_orV, s_notV, s_if, s_nil, s_cons, s_tup, s_lst, s_neg, s_cb, s_itS, s_rng1, s_rng2, s_lc, s_yes, s_newL, s_part, s_nop, s_slice, s_rev, s_m1, s_call, s_app, s_setIx, s_dnew, s_done, s_dput, s_dget2, key_s, key_i, cellK_, tru_str, in_s, mul_ti, mul_li, s_onB, s_condB, tru_bl, tru_int, tru_non, tru_tup, tru_lst, add_ii, add_ss, add_tt, add_ll, sub_ii, mul_ii, mul_si, fdiv_ii, mod_ii, pow_ii, cmp_ii, eq_ii, eq_ss, ne_ii, ne_ss, is_nn, is_bb, is_in, is_sn, is_tn, is_ln, ix_t, ix_l, ix_loc, at_, len_t, len_l, len_scr, len_s, abs_i, int_i, int_b, int_s, str_i, str_s, bool_b, list_t, list_l, tuple_t, tuple_l, tuple_loc, list_loc, isi_, sum_l, max_ii, min_ii, slice_t, slice_l, slice_s, tn_int, tn_bl, tn_str, tn_non, tn_tup, tn_lst, cell_, strOk_of, atI_0, atI_1, atI_2, List.map_cons, List.map_nil, List.length_cons, List.length_nil, List.replicate_succ, List.replicate_zero, List.nil_append, List.cons_append, List.append_nil, List.getElem?_cons_zero, List.getElem?_cons_succ, List.set_cons_zero, List.set_cons_succ, Nat.reduceAdd, Nat.reduceSub, Nat.sub_self, Bool.not_true, Bool.not_false, if_true, if_false, reduceIte, Bool.false_eq_true, Bool.true_eq_false, true_and, and_true, decide_eq_true_eq, Bool.not_eq_true', decide_eq_false_iff_not, ne_eq, not_true_eq_false, not_false_eq_true, ofString_inj]
      exact body h1 h7
    · simp only [h1, h7, s_seq, s_next, s_ret, s_retN, s_drop, s_ifS, s_asg, s_par, s_raise, s_for, rt_nx, rt_rt, rt_ex, s_gN, s_gT, s_gTl, setAll_nil, setAll_cons, wipe_nil, wipe_cons, s_start, s_var, s_c, s_bin, s_test, s_chain, s_tru, s_and, s_or, s_not, s_andV, s_orV, s_notV, s_if, s_nil, s_cons, s_tup, s_lst, s_neg, s_cb, s_itS, s_rng1, s_rng2, s_lc, s_yes, s_newL, s_part, s_nop, s_slice, s_rev, s_m1, s_call, s_app, s_setIx, s_dnew, s_done, s_dput, s_dget2, key_s, key_i, cellK_, tru_str, in_s, mul_ti, mul_li, s_onB, s_condB, tru_bl, tru_int, tru_non, tru_tup, tru_lst, add_ii, add_ss, add_tt, add_ll, sub_ii, mul_ii, mul_si, fdiv_ii, mod_ii, pow_ii, cmp_ii, eq_ii, eq_ss, ne_ii, ne_ss, is_nn, is_bb, is_in, is_sn, is_tn, is_ln, ix_t, ix_l, ix_loc, at_, len_t, len_l, len_scr, len_s, abs_i, int_i, int_b, int_s, str_i, str_s, bool_b, list_t, list_l, tuple_t, tuple_l, tuple_loc, list_loc, isi_, sum_l, max_ii, min_ii, slice_t, slice_l, slice_s, tn_int, tn_bl, tn_str, tn_non, tn_tup, tn_lst, cell_, strOk_of, atI_0, atI_1, atI_2, List.map_cons, List.map_nil, List.length_cons, List.length_nil, List.replicate_succ, List.replicate_zero, List.nil_append, List.cons_append, List.append_nil, List.getElem?_cons_zero, List.getElem?_cons_succ, List.set_cons_zero, List.set_cons_succ, Nat.reduceAdd, Nat.reduceSub, Nat.sub_self, Bool.not_true, Bool.not_false, if_true, if_false, reduceIte, Bool.false_eq_true, Bool.true_eq_false, true_and, and_true, decide_eq_true_eq, Bool.not_eq_true', decide_eq_false_iff_not, ne_eq, not_true_eq_false, not_false_eq_true, ofString_inj]
      exact fin (fun z => h7 z.2.1)
  · simp only [h1, s_seq, s_next, s_ret, s_retN, s_drop, s_ifS, s_asg, s_par, s_raise, s_for, rt_nx, rt_rt, rt_ex, s_gN, s_gT, s_gTl, setAll_nil, setAll_cons, wipe_nil, wipe_cons, s_start, s_var, s_c, s_bin, s_test, s_chain, s_tru, s_and, s_or, s_not, s_andV, s_orV, s_notV, s_if, s_nil, s_cons, s_tup, s_lst, s_neg, s_cb, s_itS, s_rng1, s_rng2, s_lc, s_yes, s_newL, s_part, s_nop, s_slice, s_rev, s_m1, s_call, s_app, s_setIx, s_dnew, s_done, s_dput, s_dget2, key_s, key_i, cellK_, tru_str, in_s, mul_ti, mul_li, s_onB, s_condB, tru_bl, tru_int, tru_non, tru_tup, tru_lst, add_ii, add_ss, add_tt, add_ll, sub_ii, mul_ii, mul_si, fdiv_ii, mod_ii, pow_ii, cmp_ii, eq_ii, eq_ss, ne_ii, ne_ss, is_nn, is_bb, is_in, is_sn, is_tn, is_ln, ix_t, ix_l, ix_loc, at_, len_t, len_l, len_scr, len_s, abs_i, int_i, int_b, int_s, str_i, str_s, bool_b, list_t, list_l, tuple_t, tuple_l, tuple_loc, list_loc, isi_, sum_l, max_ii, min_ii, slice_t, slice_l, slice_s, tn_int, tn_bl, tn_str, tn_non, tn_tup, tn_lst, cell_, strOk_of, atI_0, atI_1, atI_2, List.map_cons, List.map_nil, List.length_cons, List.length_nil, List.replicate_succ, List.replicate_zero, List.nil_append, List.cons_append, List.append_nil, List.getElem?_cons_zero, List.getElem?_cons_succ, List.set_cons_zero, List.set_cons_succ, Nat.reduceAdd, Nat.reduceSub, Nat.sub_self, Bool.not_true, Bool.not_false, if_true, if_false, reduceIte, Bool.false_eq_true, Bool.true_eq_false, true_and, and_true, decide_eq_true_eq, Bool.not_eq_true', decide_eq_false_iff_not, ne_eq, not_true_eq_false, not_false_eq_true, ofString_inj]
    exact fin (fun z => h1 z.1)
end Fs
end
section
set_option Elab.async false
set_option linter.all false
set_option maxRecDepth 100000
set_option maxHeartbeats 4000000
namespace Fs
open PySem PySem.Spec PyProof.Rows L2 LamX

theorem cut_0_1 (a : D) (r : List D) : cutD (a :: r) none (some 1) = [a] := by
  unfold cutD HT.sIx
  have h1 : ¬ ((1 : Int) < 0) := by decide
  simp only [h1, if_false, List.drop_zero, Nat.sub_zero, List.length_cons]
  have : min (1 : Int).toNat (r.length + 1) = 1 := by show min 1 (r.length + 1) = 1; omega
  rw [this]; rfl
theorem cut_1_2 (a b : D) (r : List D) : cutD (a :: b :: r) (some 1) (some 2) = [b] := by
  unfold cutD HT.sIx
  have h1 : ¬ ((1 : Int) < 0) := by decide
  have h2 : ¬ ((2 : Int) < 0) := by decide
  simp only [h1, h2, if_false, List.length_cons]
  have e1 : min (1 : Int).toNat (r.length + 1 + 1) = 1 := by show min 1 _ = 1; omega
  have e2 : min (2 : Int).toNat (r.length + 1 + 1) = 2 := by show min 2 _ = 2; omega
  rw [e1, e2]; rfl
theorem cut_1_2' (a : D) : cutD [a] (some 1) (some 2) = [] := by
  unfold cutD HT.sIx
  rfl
theorem cut_2_ (a b : D) (r : List D) : cutD (a :: b :: r) (some 2) none = r := by
  unfold cutD HT.sIx
  have h2 : ¬ ((2 : Int) < 0) := by decide
  simp only [h2, if_false, List.length_cons]
  have e2 : min (2 : Int).toNat (r.length + 1 + 1) = 2 := by show min 2 _ = 2; omega
  rw [e2]
  show r.take (r.length + 1 + 1 - 2) = r
  rw [show r.length + 1 + 1 - 2 = r.length by omega, List.take_length]
theorem cut_2_' (a : D) : cutD [a] (some 2) none = [] := by
  unfold cutD HT.sIx
  rfl
theorem split_len (x : Str) (c : Nat) : (Txt.split x (sg c)).length ≤ x.length + 1 := by
  have e := congrArg List.length (join_glue c (Txt.split x (sg c)))
  rw [StrLaws.join_split] at e
  have : ∀ ps : List Str, ps.length ≤ (glue c ps).length + 1 := by
    intro ps
    induction ps with
    | nil => simp
    | cons p ps ih =>
      cases ps with
      | nil => simp
      | cons q r =>
        show _ ≤ (p.cps.toList ++ c :: glue c (q :: r)).length + 1
        simp only [List.length_cons, List.length_append] at ih ⊢
        omega
  have h2 := this (Txt.split x (sg c))
  have e2 : x.cps.toList.length = x.length := by simp [Str.length]
  omega
def t_read_line : TSD :=
  (dSeq (dAsg (dM1 splitD (dVar 0) (dC (.str " "))) (gN 1))
  (dRet (dCB tupleD (dCons (dBin addD (dBin addD (dSlice (dVar 1) dNoP (dPart (dC (.int 1)))) (dLc (dItS (dSlice (dVar 1) (dPart (dC (.int 1))) (dPart (dC (.int 2))))) [2] (gN 2) dYes (dCall 1 sp_number_of (dCons (dVar 2) dNil)))) (dSlice (dVar 1) (dPart (dC (.int 2))) dNoP)) dNil))))
def sp_read_line : SpD := fun as S Q _ => ∃ w, as = [.d (.str w)] ∧ w.length ≤ 1000000 ∧ PyData.strOk w = true ∧ Q (lineD w) S
theorem sp_read_line_mono : MonoSp sp_read_line := fun as S Q Q' E E' hq he ⟨c, h1, h2, h3, h4⟩ => ⟨c, h1, h2, h3, hq _ _ h4⟩
theorem split_at {z b : Str} {S : Store} {k : D → Prop} (hb : (b.length == 0) = false) (hz : z.length ≤ 1000000) (h : k (.lst ((Txt.split z b).map D.str))) : splitD (.str z) (.str b) S k := ⟨hb, by rw [sizeLine_eq]; omega, h⟩
theorem p_read_line (as : List Va) (S : Store) (Q : QD) (E : EX) (h : sp_read_line as S Q E) : t_read_line (rtE Q E) (startD 3 as) S := by
  obtain ⟨z, rfl, hl, hk, hq⟩ := h
  simp only [t_read_line, s_seq, s_next, s_ret, s_retN, s_drop, s_ifS, s_asg, s_par, s_raise, s_for, rt_nx, rt_rt, rt_ex, s_gN, s_gT, s_gTl, setAll_nil, setAll_cons, wipe_nil, wipe_cons, s_start, s_var, s_c, s_bin, s_test, s_chain, s_tru, s_and, s_or, s_not, s_andV, s_orV, s_notV, s_if, s_nil, s_cons, s_tup, s_lst, s_neg, s_cb, s_itS, s_rng1, s_rng2, s_lc, s_yes, s_newL, s_part, s_nop, s_slice, s_rev, s_m1, s_call, s_app, s_setIx, s_dnew, s_done, s_dput, s_dget2, key_s, key_i, cellK_, tru_str, in_s, mul_ti, mul_li, s_onB, s_condB, tru_bl, tru_int, tru_non, tru_tup, tru_lst, add_ii, add_ss, add_tt, add_ll, sub_ii, mul_ii, mul_si, fdiv_ii, mod_ii, pow_ii, cmp_ii, eq_ii, eq_ss, ne_ii, ne_ss, is_nn, is_bb, is_in, is_sn, is_tn, is_ln, ix_t, ix_l, ix_loc, at_, len_t, len_l, len_scr, len_s, abs_i, int_i, int_b, int_s, str_i, str_s, bool_b, list_t, list_l, tuple_t, tuple_l, tuple_loc, list_loc, isi_, sum_l, max_ii, min_ii, slice_t, slice_l, slice_s, tn_int, tn_bl, tn_str, tn_non, tn_tup, tn_lst, cell_, strOk_of, atI_0, atI_1, atI_2, List.map_cons, List.map_nil, List.length_cons, List.length_nil, List.replicate_succ, List.replicate_zero, List.nil_append, List.cons_append, List.append_nil, List.getElem?_cons_zero, List.getElem?_cons_succ, List.set_cons_zero, List.set_cons_succ, Nat.reduceAdd, Nat.reduceSub, Nat.sub_self, Bool.not_true, Bool.not_false, if_true, if_false, reduceIte, Bool.false_eq_true, Bool.true_eq_false, true_and, and_true, decide_eq_true_eq, Bool.not_eq_true', decide_eq_false_iff_not, ne_eq, not_true_eq_false, not_false_eq_true, ofString_inj]
  refine ⟨⟨_, rfl⟩, split_at (by decide +kernel) hl ?_⟩
  have hsz := sizeLine_eq
  have hlen := split_len z 32
  rw [← sp_sg] at hlen
  have hparts : ∀ p ∈ Txt.split z (Str.ofString " "), p.length ≤ z.length ∧ PyData.strOk p = true := fun p hp => by
    rw [sp_sg] at hp
    exact ⟨part_len hp, part_ok hk hp⟩
  unfold lineD at hq
  generalize Txt.split z (Str.ofString " ") = ws at hq hlen hparts
  match ws, hq with
  | [], hq =>
    simp only [s_seq, s_next, s_ret, s_retN, s_drop, s_ifS, s_asg, s_par, s_raise, s_for, rt_nx, rt_rt, rt_ex, s_gN, s_gT, s_gTl, setAll_nil, setAll_cons, wipe_nil, wipe_cons, s_start, s_var, s_c, s_bin, s_test, s_chain, s_tru, s_and, s_or, s_not, s_andV, s_orV, s_notV, s_if, s_nil, s_cons, s_tup, s_lst, s_neg, s_cb, s_itS, s_rng1, s_rng2, s_lc, s_yes, s_newL, s_part, s_nop, s_slice, s_rev, s_m1, s_call, s_app, s_setIx, s_dnew, s_done, s_dput, s_dget2, key_s, key_i, cellK_, tru_str, in_s, mul_ti, mul_li, s_onB, s_condB, tru_bl, tru_int, tru_non, tru_tup, tru_lst, add_ii, add_ss, add_tt, add_ll, sub_ii, mul_ii, mul_si, fdiv_ii, mod_ii, pow_ii, cmp_ii, eq_ii, eq_ss, ne_ii, ne_ss, is_nn, is_bb, is_in, is_sn, is_tn, is_ln, ix_t, ix_l, ix_loc, at_, len_t, len_l, len_scr, len_s, abs_i, int_i, int_b, int_s, str_i, str_s, bool_b, list_t, list_l, tuple_t, tuple_l, tuple_loc, list_loc, isi_, sum_l, max_ii, min_ii, slice_t, slice_l, slice_s, tn_int, tn_bl, tn_str, tn_non, tn_tup, tn_lst, cell_, strOk_of, atI_0, atI_1, atI_2, List.map_cons, List.map_nil, List.length_cons, List.length_nil, List.replicate_succ, List.replicate_zero, List.nil_append, List.cons_append, List.append_nil, List.getElem?_cons_zero, List.getElem?_cons_succ, List.set_cons_zero, List.set_cons_succ, Nat.reduceAdd, Nat.reduceSub, Nat.sub_self, Bool.not_true, Bool.not_false, if_true, if_false, reduceIte, Bool.false_eq_true, Bool.true_eq_false, true_and, and_true, decide_eq_true_eq, Bool.not_eq_true', decide_eq_false_iff_not, ne_eq, not_true_eq_false, not_false_eq_true, ofString_inj, sizeLine_eq, Nat.reduceLeDiff, Int.reduceToNat, Int.reducePow, Int.reduceAdd, Int.reduceSub, Int.reduceNeg, Int.reduceMul]
    exact ⟨Nat.zero_le _, Nat.zero_le _, hq⟩
  | [a], hq =>
    simp only [s_seq, s_next, s_ret, s_retN, s_drop, s_ifS, s_asg, s_par, s_raise, s_for, rt_nx, rt_rt, rt_ex, s_gN, s_gT, s_gTl, setAll_nil, setAll_cons, wipe_nil, wipe_cons, s_start, s_var, s_c, s_bin, s_test, s_chain, s_tru, s_and, s_or, s_not, s_andV, s_orV, s_notV, s_if, s_nil, s_cons, s_tup, s_lst, s_neg, s_cb, s_itS, s_rng1, s_rng2, s_lc, s_yes, s_newL, s_part, s_nop, s_slice, s_rev, s_m1, s_call, s_app, s_setIx, s_dnew, s_done, s_dput, s_dget2, key_s, key_i, cellK_, tru_str, in_s, mul_ti, mul_li, s_onB, s_condB, tru_bl, tru_int, tru_non, tru_tup, tru_lst, add_ii, add_ss, add_tt, add_ll, sub_ii, mul_ii, mul_si, fdiv_ii, mod_ii, pow_ii, cmp_ii, eq_ii, eq_ss, ne_ii, ne_ss, is_nn, is_bb, is_in, is_sn, is_tn, is_ln, ix_t, ix_l, ix_loc, at_, len_t, len_l, len_scr, len_s, abs_i, int_i, int_b, int_s, str_i, str_s, bool_b, list_t, list_l, tuple_t, tuple_l, tuple_loc, list_loc, isi_, sum_l, max_ii, min_ii, slice_t, slice_l, slice_s, tn_int, tn_bl, tn_str, tn_non, tn_tup, tn_lst, cell_, strOk_of, atI_0, atI_1, atI_2, List.map_cons, List.map_nil, List.length_cons, List.length_nil, List.replicate_succ, List.replicate_zero, List.nil_append, List.cons_append, List.append_nil, List.getElem?_cons_zero, List.getElem?_cons_succ, List.set_cons_zero, List.set_cons_succ, Nat.reduceAdd, Nat.reduceSub, Nat.sub_self, Bool.not_true, Bool.not_false, if_true, if_false, reduceIte, Bool.false_eq_true, Bool.true_eq_false, true_and, and_true, decide_eq_true_eq, Bool.not_eq_true', decide_eq_false_iff_not, ne_eq, not_true_eq_false, not_false_eq_true, ofString_inj, sizeLine_eq, Nat.reduceLeDiff, Int.reduceToNat, Int.reducePow, Int.reduceAdd, Int.reduceSub, Int.reduceNeg, Int.reduceMul, cut_0_1, cut_1_2', cut_2_']
    unfold lcD
    simp only [s_seq, s_next, s_ret, s_retN, s_drop, s_ifS, s_asg, s_par, s_raise, s_for, rt_nx, rt_rt, rt_ex, s_gN, s_gT, s_gTl, setAll_nil, setAll_cons, wipe_nil, wipe_cons, s_start, s_var, s_c, s_bin, s_test, s_chain, s_tru, s_and, s_or, s_not, s_andV, s_orV, s_notV, s_if, s_nil, s_cons, s_tup, s_lst, s_neg, s_cb, s_itS, s_rng1, s_rng2, s_lc, s_yes, s_newL, s_part, s_nop, s_slice, s_rev, s_m1, s_call, s_app, s_setIx, s_dnew, s_done, s_dput, s_dget2, key_s, key_i, cellK_, tru_str, in_s, mul_ti, mul_li, s_onB, s_condB, tru_bl, tru_int, tru_non, tru_tup, tru_lst, add_ii, add_ss, add_tt, add_ll, sub_ii, mul_ii, mul_si, fdiv_ii, mod_ii, pow_ii, cmp_ii, eq_ii, eq_ss, ne_ii, ne_ss, is_nn, is_bb, is_in, is_sn, is_tn, is_ln, ix_t, ix_l, ix_loc, at_, len_t, len_l, len_scr, len_s, abs_i, int_i, int_b, int_s, str_i, str_s, bool_b, list_t, list_l, tuple_t, tuple_l, tuple_loc, list_loc, isi_, sum_l, max_ii, min_ii, slice_t, slice_l, slice_s, tn_int, tn_bl, tn_str, tn_non, tn_tup, tn_lst, cell_, strOk_of, atI_0, atI_1, atI_2, List.map_cons, List.map_nil, List.length_cons, List.length_nil, List.replicate_succ, List.replicate_zero, List.nil_append, List.cons_append, List.append_nil, List.getElem?_cons_zero, List.getElem?_cons_succ, List.set_cons_zero, List.set_cons_succ, Nat.reduceAdd, Nat.reduceSub, Nat.sub_self, Bool.not_true, Bool.not_false, if_true, if_false, reduceIte, Bool.false_eq_true, Bool.true_eq_false, true_and, and_true, decide_eq_true_eq, Bool.not_eq_true', decide_eq_false_iff_not, ne_eq, not_true_eq_false, not_false_eq_true, ofString_inj, sizeLine_eq, Nat.reduceLeDiff, Int.reduceToNat, Int.reducePow, Int.reduceAdd, Int.reduceSub, Int.reduceNeg, Int.reduceMul]
    exact hq
  | a :: b :: r, hq =>
    simp only [s_seq, s_next, s_ret, s_retN, s_drop, s_ifS, s_asg, s_par, s_raise, s_for, rt_nx, rt_rt, rt_ex, s_gN, s_gT, s_gTl, setAll_nil, setAll_cons, wipe_nil, wipe_cons, s_start, s_var, s_c, s_bin, s_test, s_chain, s_tru, s_and, s_or, s_not, s_andV, s_orV, s_notV, s_if, s_nil, s_cons, s_tup, s_lst, s_neg, s_cb, s_itS, s_rng1, s_rng2, s_lc, s_yes, s_newL, s_part, s_nop, s_slice, s_rev, s_m1, s_call, s_app, s_setIx, s_dnew, s_done, s_dput, s_dget2, key_s, key_i, cellK_, tru_str, in_s, mul_ti, mul_li, s_onB, s_condB, tru_bl, tru_int, tru_non, tru_tup, tru_lst, add_ii, add_ss, add_tt, add_ll, sub_ii, mul_ii, mul_si, fdiv_ii, mod_ii, pow_ii, cmp_ii, eq_ii, eq_ss, ne_ii, ne_ss, is_nn, is_bb, is_in, is_sn, is_tn, is_ln, ix_t, ix_l, ix_loc, at_, len_t, len_l, len_scr, len_s, abs_i, int_i, int_b, int_s, str_i, str_s, bool_b, list_t, list_l, tuple_t, tuple_l, tuple_loc, list_loc, isi_, sum_l, max_ii, min_ii, slice_t, slice_l, slice_s, tn_int, tn_bl, tn_str, tn_non, tn_tup, tn_lst, cell_, strOk_of, atI_0, atI_1, atI_2, List.map_cons, List.map_nil, List.length_cons, List.length_nil, List.replicate_succ, List.replicate_zero, List.nil_append, List.cons_append, List.append_nil, List.getElem?_cons_zero, List.getElem?_cons_succ, List.set_cons_zero, List.set_cons_succ, Nat.reduceAdd, Nat.reduceSub, Nat.sub_self, Bool.not_true, Bool.not_false, if_true, if_false, reduceIte, Bool.false_eq_true, Bool.true_eq_false, true_and, and_true, decide_eq_true_eq, Bool.not_eq_true', decide_eq_false_iff_not, ne_eq, not_true_eq_false, not_false_eq_true, ofString_inj, sizeLine_eq, Nat.reduceLeDiff, Int.reduceToNat, Int.reducePow, Int.reduceAdd, Int.reduceSub, Int.reduceNeg, Int.reduceMul, cut_0_1, cut_1_2, cut_2_]
    refine lcD_map (fun d => match d with | .str x => numD x | d => d) [.str b] [] (by simp [hsz]) (fun x hx Q' hq' => ?_) ?_
    · rw [List.mem_singleton] at hx
      subst hx
      simp only [s_seq, s_next, s_ret, s_retN, s_drop, s_ifS, s_asg, s_par, s_raise, s_for, rt_nx, rt_rt, rt_ex, s_gN, s_gT, s_gTl, setAll_nil, setAll_cons, wipe_nil, wipe_cons, s_start, s_var, s_c, s_bin, s_test, s_chain, s_tru, s_and, s_or, s_not, s_andV, s_orV, s_notV, s_if, s_nil, s_cons, s_tup, s_lst, s_neg, s_cb, s_itS, s_rng1, s_rng2, s_lc, s_yes, s_newL, s_part, s_nop, s_slice, s_rev, s_m1, s_call, s_app, s_setIx, s_dnew, s_done, s_dput, s_dget2, key_s, key_i, cellK_, tru_str, in_s, mul_ti, mul_li, s_onB, s_condB, tru_bl, tru_int, tru_non, tru_tup, tru_lst, add_ii, add_ss, add_tt, add_ll, sub_ii, mul_ii, mul_si, fdiv_ii, mod_ii, pow_ii, cmp_ii, eq_ii, eq_ss, ne_ii, ne_ss, is_nn, is_bb, is_in, is_sn, is_tn, is_ln, ix_t, ix_l, ix_loc, at_, len_t, len_l, len_scr, len_s, abs_i, int_i, int_b, int_s, str_i, str_s, bool_b, list_t, list_l, tuple_t, tuple_l, tuple_loc, list_loc, isi_, sum_l, max_ii, min_ii, slice_t, slice_l, slice_s, tn_int, tn_bl, tn_str, tn_non, tn_tup, tn_lst, cell_, strOk_of, atI_0, atI_1, atI_2, List.map_cons, List.map_nil, List.length_cons, List.length_nil, List.replicate_succ, List.replicate_zero, List.nil_append, List.cons_append, List.append_nil, List.getElem?_cons_zero, List.getElem?_cons_succ, List.set_cons_zero, List.set_cons_succ, Nat.reduceAdd, Nat.reduceSub, Nat.sub_self, Bool.not_true, Bool.not_false, if_true, if_false, reduceIte, Bool.false_eq_true, Bool.true_eq_false, true_and, and_true, decide_eq_true_eq, Bool.not_eq_true', decide_eq_false_iff_not, ne_eq, not_true_eq_false, not_false_eq_true, ofString_inj]
      have := hparts b (by simp)
      exact ⟨b, rfl, by omega, this.2, hq'⟩
    · simp only [s_seq, s_next, s_ret, s_retN, s_drop, s_ifS, s_asg, s_par, s_raise, s_for, rt_nx, rt_rt, rt_ex, s_gN, s_gT, s_gTl, setAll_nil, setAll_cons, wipe_nil, wipe_cons, s_start, s_var, s_c, s_bin, s_test, s_chain, s_tru, s_and, s_or, s_not, s_andV, s_orV, s_notV, s_if, s_nil, s_cons, s_tup, s_lst, s_neg, s_cb, s_itS, s_rng1, s_rng2, s_lc, s_yes, s_newL, s_part, s_nop, s_slice, s_rev, s_m1, s_call, s_app, s_setIx, s_dnew, s_done, s_dput, s_dget2, key_s, key_i, cellK_, tru_str, in_s, mul_ti, mul_li, s_onB, s_condB, tru_bl, tru_int, tru_non, tru_tup, tru_lst, add_ii, add_ss, add_tt, add_ll, sub_ii, mul_ii, mul_si, fdiv_ii, mod_ii, pow_ii, cmp_ii, eq_ii, eq_ss, ne_ii, ne_ss, is_nn, is_bb, is_in, is_sn, is_tn, is_ln, ix_t, ix_l, ix_loc, at_, len_t, len_l, len_scr, len_s, abs_i, int_i, int_b, int_s, str_i, str_s, bool_b, list_t, list_l, tuple_t, tuple_l, tuple_loc, list_loc, isi_, sum_l, max_ii, min_ii, slice_t, slice_l, slice_s, tn_int, tn_bl, tn_str, tn_non, tn_tup, tn_lst, cell_, strOk_of, atI_0, atI_1, atI_2, List.map_cons, List.map_nil, List.length_cons, List.length_nil, List.replicate_succ, List.replicate_zero, List.nil_append, List.cons_append, List.append_nil, List.getElem?_cons_zero, List.getElem?_cons_succ, List.set_cons_zero, List.set_cons_succ, Nat.reduceAdd, Nat.reduceSub, Nat.sub_self, Bool.not_true, Bool.not_false, if_true, if_false, reduceIte, Bool.false_eq_true, Bool.true_eq_false, true_and, and_true, decide_eq_true_eq, Bool.not_eq_true', decide_eq_false_iff_not, ne_eq, not_true_eq_false, not_false_eq_true, ofString_inj]
      simp only [List.length_cons] at hlen
      refine ⟨by omega, by rw [List.length_map]; omega, hq⟩
end Fs
end
section
set_option Elab.async false
set_option linter.all false
set_option maxRecDepth 100000
set_option maxHeartbeats 4000000
namespace Fs
open PySem PySem.Spec PyProof.Rows L2 LamX

theorem lineW_pl : ∀ {ws : List Str}, (∀ w ∈ ws, PyData.strOk w = true) → D.pls 1 (lineW ws) = true
  | [], _ => by simp [lineW, D.pls]
  | [a], h => by
    have := h a (by simp)
    simp [lineW, D.pls, D.pl, this]
  | a :: b :: r, h => by
    have h1 := h a (by simp)
    refine pls_of fun d hd => ?_
    simp only [lineW, List.mem_cons, List.mem_map] at hd
    rcases hd with rfl | rfl | ⟨w, hw, rfl⟩
    · exact h1
    · unfold numD
      cases numOf b <;> rfl
    · exact h w (by simp [hw])
theorem lineD_pl {z : Str} (hk : PyData.strOk z = true) : (lineD z).pl 2 = true := by
  refine lineW_pl fun w hw => ?_
  rw [sp_sg] at hw
  exact part_ok hk hw
def t_read_chain (er : Str → Addr) : TSD :=
  (dSeq (dIfS (dNot (dTru (dCB isiD (dCons (dVar 0) (dCons (dC (.ty "str")) dNil)))))
    (dRaise (er "InvalidText"))
    dNext)
  (dSeq (dAsg (dIf (dTest (dBin eqD (dVar 0) (dC (D.str "none")))) (dTup dNil) (dCB tupleD (dCons (dLc (dItS (dM1 splitD (dVar 0) (dC (.str "\n")))) [2] (gN 2) dYes (dCall 1 sp_read_line (dCons (dVar 2) dNil))) dNil))) (gN 1))
  (dSeq (dIfS (dNot (dTru (dCall 1 sp_is_good_chain (dCons (dVar 1) dNil))))
    (dRaise (er "InvalidText"))
    dNext)
  (dRet (dVar 1)))))
def sp_read_chain (er : Str → Addr) : SpD := fun as S Q E => ∃ v, as = [.d v] ∧ v.pl 9 = true ∧ ((∀ z, v ≠ .str z) → E (.ref (er "InvalidText")) S) ∧ (∀ z, v = .str z → z.length ≤ 1000000 ∧ (∀ c, rdOf z = some c → Q (chD c) S) ∧ (rdOf z = none → E (.ref (er "InvalidText")) S))
theorem sp_read_chain_mono {er : Str → Addr} : MonoSp (sp_read_chain er) := fun as S Q Q' E E' hq he ⟨v, h1, h2, h3, h4⟩ => ⟨v, h1, h2, fun h => he _ _ (h3 h), fun z h => ⟨(h4 z h).1, fun c e => hq _ _ ((h4 z h).2.1 c e), fun e => he _ _ ((h4 z h).2.2 e)⟩⟩
theorem p_read_chain {er : Str → Addr} (as : List Va) (S : Store) (Q : QD) (E : EX) (h : sp_read_chain er as S Q E) : t_read_chain er (rtE Q E) (startD 3 as) S := by
  obtain ⟨v, rfl, hv, h1, h2⟩ := h
  have notstr : (∀ z, v ≠ .str z) → t_read_chain er (rtE Q E) (startD 3 [.d v]) S := fun hn => by
    have hE := h1 hn
    have htn := pl_tn hv
    simp only [t_read_chain, s_seq, s_next, s_ret, s_retN, s_drop, s_ifS, s_asg, s_par, s_raise, s_for, rt_nx, rt_rt, rt_ex, s_gN, s_gT, s_gTl, setAll_nil, setAll_cons, wipe_nil, wipe_cons, s_start, s_var, s_c, s_bin, s_test, s_chain, s_tru, s_and, s_or, s_not, s_andV, s_orV, s_notV, s_if, s_nil, s_cons, s_tup, s_lst, s_neg, s_cb, s_itS, s_rng1, s_rng2, s_lc, s_yes, s_newL, s_part, s_nop, s_slice, s_rev, s_m1, s_call, s_app, s_setIx, s_dnew, s_done, s_dput, s_dget2, key_s, key_i, cellK_, tru_str, in_s, mul_ti, mul_li, s_onB, s_condB, tru_bl, tru_int, tru_non, tru_tup, tru_lst, add_ii, add_ss, add_tt, add_ll, sub_ii, mul_ii, mul_si, fdiv_ii, mod_ii, pow_ii, cmp_ii, eq_ii, eq_ss, ne_ii, ne_ss, is_nn, is_bb, is_in, is_sn, is_tn, is_ln, ix_t, ix_l, ix_loc, at_, len_t, len_l, len_scr, len_s, abs_i, int_i, int_b, int_s, str_i, str_s, bool_b, list_t, list_l, tuple_t, tuple_l, tuple_loc, list_loc, isi_, sum_l, max_ii, min_ii, slice_t, slice_l, slice_s, tn_int, tn_bl, tn_str, tn_non, tn_tup, tn_lst, cell_, strOk_of, atI_0, atI_1, atI_2, List.map_cons, List.map_nil, List.length_cons, List.length_nil, List.replicate_succ, List.replicate_zero, List.nil_append, List.cons_append, List.append_nil, List.getElem?_cons_zero, List.getElem?_cons_succ, List.set_cons_zero, List.set_cons_succ, Nat.reduceAdd, Nat.reduceSub, Nat.sub_self, Bool.not_true, Bool.not_false, if_true, if_false, reduceIte, Bool.false_eq_true, Bool.true_eq_false, true_and, and_true, decide_eq_true_eq, Bool.not_eq_true', decide_eq_false_iff_not, ne_eq, not_true_eq_false, not_false_eq_true, ofString_inj]
    cases v with
    | str z => exact absurd rfl (hn z)
    | ref _ => cases htn
    | ty _ => cases htn
    | loc _ => cases htn
    | lam _ => cases htn
    | scr _ => cases htn
    | _ => simpa [D.tn, isTn] using hE
  cases v with
  | str z =>
    obtain ⟨hl, hs, hn⟩ := h2 z rfl
    have hk : PyData.strOk z = true := by
      have : D.pl 9 (.str z) = true := hv
      simpa [D.pl] using this
    simp only [t_read_chain, s_seq, s_next, s_ret, s_retN, s_drop, s_ifS, s_asg, s_par, s_raise, s_for, rt_nx, rt_rt, rt_ex, s_gN, s_gT, s_gTl, setAll_nil, setAll_cons, wipe_nil, wipe_cons, s_start, s_var, s_c, s_bin, s_test, s_chain, s_tru, s_and, s_or, s_not, s_andV, s_orV, s_notV, s_if, s_nil, s_cons, s_tup, s_lst, s_neg, s_cb, s_itS, s_rng1, s_rng2, s_lc, s_yes, s_newL, s_part, s_nop, s_slice, s_rev, s_m1, s_call, s_app, s_setIx, s_dnew, s_done, s_dput, s_dget2, key_s, key_i, cellK_, tru_str, in_s, mul_ti, mul_li, s_onB, s_condB, tru_bl, tru_int, tru_non, tru_tup, tru_lst, add_ii, add_ss, add_tt, add_ll, sub_ii, mul_ii, mul_si, fdiv_ii, mod_ii, pow_ii, cmp_ii, eq_ii, eq_ss, ne_ii, ne_ss, is_nn, is_bb, is_in, is_sn, is_tn, is_ln, ix_t, ix_l, ix_loc, at_, len_t, len_l, len_scr, len_s, abs_i, int_i, int_b, int_s, str_i, str_s, bool_b, list_t, list_l, tuple_t, tuple_l, tuple_loc, list_loc, isi_, sum_l, max_ii, min_ii, slice_t, slice_l, slice_s, tn_int, tn_bl, tn_str, tn_non, tn_tup, tn_lst, cell_, strOk_of, atI_0, atI_1, atI_2, List.map_cons, List.map_nil, List.length_cons, List.length_nil, List.replicate_succ, List.replicate_zero, List.nil_append, List.cons_append, List.append_nil, List.getElem?_cons_zero, List.getElem?_cons_succ, List.set_cons_zero, List.set_cons_succ, Nat.reduceAdd, Nat.reduceSub, Nat.sub_self, Bool.not_true, Bool.not_false, if_true, if_false, reduceIte, Bool.false_eq_true, Bool.true_eq_false, true_and, and_true, decide_eq_true_eq, Bool.not_eq_true', decide_eq_false_iff_not, ne_eq, not_true_eq_false, not_false_eq_true, ofString_inj, isTn]
    have e0 : (("str" : String) == "str" || ("str" : String) == "bool" && ("str" : String) == "int") = true := by decide
    simp only [e0, s_seq, s_next, s_ret, s_retN, s_drop, s_ifS, s_asg, s_par, s_raise, s_for, rt_nx, rt_rt, rt_ex, s_gN, s_gT, s_gTl, setAll_nil, setAll_cons, wipe_nil, wipe_cons, s_start, s_var, s_c, s_bin, s_test, s_chain, s_tru, s_and, s_or, s_not, s_andV, s_orV, s_notV, s_if, s_nil, s_cons, s_tup, s_lst, s_neg, s_cb, s_itS, s_rng1, s_rng2, s_lc, s_yes, s_newL, s_part, s_nop, s_slice, s_rev, s_m1, s_call, s_app, s_setIx, s_dnew, s_done, s_dput, s_dget2, key_s, key_i, cellK_, tru_str, in_s, mul_ti, mul_li, s_onB, s_condB, tru_bl, tru_int, tru_non, tru_tup, tru_lst, add_ii, add_ss, add_tt, add_ll, sub_ii, mul_ii, mul_si, fdiv_ii, mod_ii, pow_ii, cmp_ii, eq_ii, eq_ss, ne_ii, ne_ss, is_nn, is_bb, is_in, is_sn, is_tn, is_ln, ix_t, ix_l, ix_loc, at_, len_t, len_l, len_scr, len_s, abs_i, int_i, int_b, int_s, str_i, str_s, bool_b, list_t, list_l, tuple_t, tuple_l, tuple_loc, list_loc, isi_, sum_l, max_ii, min_ii, slice_t, slice_l, slice_s, tn_int, tn_bl, tn_str, tn_non, tn_tup, tn_lst, cell_, strOk_of, atI_0, atI_1, atI_2, List.map_cons, List.map_nil, List.length_cons, List.length_nil, List.replicate_succ, List.replicate_zero, List.nil_append, List.cons_append, List.append_nil, List.getElem?_cons_zero, List.getElem?_cons_succ, List.set_cons_zero, List.set_cons_succ, Nat.reduceAdd, Nat.reduceSub, Nat.sub_self, Bool.not_true, Bool.not_false, if_true, if_false, reduceIte, Bool.false_eq_true, Bool.true_eq_false, true_and, and_true, decide_eq_true_eq, Bool.not_eq_true', decide_eq_false_iff_not, ne_eq, not_true_eq_false, not_false_eq_true, ofString_inj]
    refine ⟨by simp, hk, ?_⟩
    have after : ∀ d : D, d.pl 9 = true → ((goodChain d = true ∧ ∃ c, rdOf z = some c ∧ d = chD c) ∨ (goodChain d = false ∧ rdOf z = none)) → sp_is_good_chain [.d d] S (fun x S1 => truD S1 x fun b => if (!b) = true then E (.ref (er "InvalidText")) S1 else Q d S1) E := fun d hd hc => by
      refine ⟨d, rfl, hd, ?_⟩
      rcases hc with ⟨g, c, e1, rfl⟩ | ⟨g, e1⟩
      · rw [g]
        simpa using hs c e1
      · rw [g]
        simpa using hn e1
    by_cases hz : z = Str.ofString "none"
    · rw [if_pos hz]
      have a := after (.tup []) (by simp [D.pl, D.pls]) (.inl ⟨by decide, [], by unfold rdOf; rw [if_pos hz], rfl⟩)
      simpa using a
    · rw [if_neg hz]
      refine ⟨⟨_, rfl⟩, split_at (by decide +kernel) hl ?_⟩
      have hlen := split_len z 10
      have hp : ∀ p ∈ Txt.split z (sg 10), p.length ≤ z.length ∧ PyData.strOk p = true := fun p hp => ⟨part_len hp, part_ok hk hp⟩
      simp only [s_seq, s_next, s_ret, s_retN, s_drop, s_ifS, s_asg, s_par, s_raise, s_for, rt_nx, rt_rt, rt_ex, s_gN, s_gT, s_gTl, setAll_nil, setAll_cons, wipe_nil, wipe_cons, s_start, s_var, s_c, s_bin, s_test, s_chain, s_tru, s_and, s_or, s_not, s_andV, s_orV, s_notV, s_if, s_nil, s_cons, s_tup, s_lst, s_neg, s_cb, s_itS, s_rng1, s_rng2, s_lc, s_yes, s_newL, s_part, s_nop, s_slice, s_rev, s_m1, s_call, s_app, s_setIx, s_dnew, s_done, s_dput, s_dget2, key_s, key_i, cellK_, tru_str, in_s, mul_ti, mul_li, s_onB, s_condB, tru_bl, tru_int, tru_non, tru_tup, tru_lst, add_ii, add_ss, add_tt, add_ll, sub_ii, mul_ii, mul_si, fdiv_ii, mod_ii, pow_ii, cmp_ii, eq_ii, eq_ss, ne_ii, ne_ss, is_nn, is_bb, is_in, is_sn, is_tn, is_ln, ix_t, ix_l, ix_loc, at_, len_t, len_l, len_scr, len_s, abs_i, int_i, int_b, int_s, str_i, str_s, bool_b, list_t, list_l, tuple_t, tuple_l, tuple_loc, list_loc, isi_, sum_l, max_ii, min_ii, slice_t, slice_l, slice_s, tn_int, tn_bl, tn_str, tn_non, tn_tup, tn_lst, cell_, strOk_of, atI_0, atI_1, atI_2, List.map_cons, List.map_nil, List.length_cons, List.length_nil, List.replicate_succ, List.replicate_zero, List.nil_append, List.cons_append, List.append_nil, List.getElem?_cons_zero, List.getElem?_cons_succ, List.set_cons_zero, List.set_cons_succ, Nat.reduceAdd, Nat.reduceSub, Nat.sub_self, Bool.not_true, Bool.not_false, if_true, if_false, reduceIte, Bool.false_eq_true, Bool.true_eq_false, true_and, and_true, decide_eq_true_eq, Bool.not_eq_true', decide_eq_false_iff_not, ne_eq, not_true_eq_false, not_false_eq_true, ofString_inj]
      rw [nl_sg]
      have a := after (.tup ((Txt.split z (sg 10)).map lineD)) (pl_mono (m := 3) (by decide) _ (pls_of fun d hd => by
        obtain ⟨w, hw, rfl⟩ := List.mem_map.mp hd
        exact lineD_pl (hp w hw).2)) (by
        unfold rdOf
        rw [if_neg hz, nl_sg]
        rcases good_lines (ls := Txt.split z (sg 10)) with ⟨g, c, e1, e2, e3⟩ | ⟨g, e1⟩
        · refine .inl ⟨g, c, ?_, e3⟩
          rw [e1]
          simp [e2]
        · refine .inr ⟨g, ?_⟩
          cases e : rdLines (Txt.split z (sg 10)) with
          | none => rfl
          | some c => simp [e1 c e])
      let f : D → D := fun d => match d with
        | .str x => lineD x
        | d => d
      have ef : (Txt.split z (sg 10)).map lineD = ((Txt.split z (sg 10)).map D.str).map f := by rw [List.map_map]; rfl
      rw [ef] at a
      refine lcD_map f _ _ (by rw [sizeLine_eq]; simp; omega) (fun x hx Q' hq' => ?_) ?_
      · obtain ⟨w, hw, rfl⟩ := List.mem_map.mp hx
        simp only [s_seq, s_next, s_ret, s_retN, s_drop, s_ifS, s_asg, s_par, s_raise, s_for, rt_nx, rt_rt, rt_ex, s_gN, s_gT, s_gTl, setAll_nil, setAll_cons, wipe_nil, wipe_cons, s_start, s_var, s_c, s_bin, s_test, s_chain, s_tru, s_and, s_or, s_not, s_andV, s_orV, s_notV, s_if, s_nil, s_cons, s_tup, s_lst, s_neg, s_cb, s_itS, s_rng1, s_rng2, s_lc, s_yes, s_newL, s_part, s_nop, s_slice, s_rev, s_m1, s_call, s_app, s_setIx, s_dnew, s_done, s_dput, s_dget2, key_s, key_i, cellK_, tru_str, in_s, mul_ti, mul_li, s_onB, s_condB, tru_bl, tru_int, tru_non, tru_tup, tru_lst, add_ii, add_ss, add_tt, add_ll, sub_ii, mul_ii, mul_si, fdiv_ii, mod_ii, pow_ii, cmp_ii, eq_ii, eq_ss, ne_ii, ne_ss, is_nn, is_bb, is_in, is_sn, is_tn, is_ln, ix_t, ix_l, ix_loc, at_, len_t, len_l, len_scr, len_s, abs_i, int_i, int_b, int_s, str_i, str_s, bool_b, list_t, list_l, tuple_t, tuple_l, tuple_loc, list_loc, isi_, sum_l, max_ii, min_ii, slice_t, slice_l, slice_s, tn_int, tn_bl, tn_str, tn_non, tn_tup, tn_lst, cell_, strOk_of, atI_0, atI_1, atI_2, List.map_cons, List.map_nil, List.length_cons, List.length_nil, List.replicate_succ, List.replicate_zero, List.nil_append, List.cons_append, List.append_nil, List.getElem?_cons_zero, List.getElem?_cons_succ, List.set_cons_zero, List.set_cons_succ, Nat.reduceAdd, Nat.reduceSub, Nat.sub_self, Bool.not_true, Bool.not_false, if_true, if_false, reduceIte, Bool.false_eq_true, Bool.true_eq_false, true_and, and_true, decide_eq_true_eq, Bool.not_eq_true', decide_eq_false_iff_not, ne_eq, not_true_eq_false, not_false_eq_true, ofString_inj]
        have := hp w hw
        exact ⟨w, rfl, by omega, this.2, hq'⟩
      · simp only [s_seq, s_next, s_ret, s_retN, s_drop, s_ifS, s_asg, s_par, s_raise, s_for, rt_nx, rt_rt, rt_ex, s_gN, s_gT, s_gTl, setAll_nil, setAll_cons, wipe_nil, wipe_cons, s_start, s_var, s_c, s_bin, s_test, s_chain, s_tru, s_and, s_or, s_not, s_andV, s_orV, s_notV, s_if, s_nil, s_cons, s_tup, s_lst, s_neg, s_cb, s_itS, s_rng1, s_rng2, s_lc, s_yes, s_newL, s_part, s_nop, s_slice, s_rev, s_m1, s_call, s_app, s_setIx, s_dnew, s_done, s_dput, s_dget2, key_s, key_i, cellK_, tru_str, in_s, mul_ti, mul_li, s_onB, s_condB, tru_bl, tru_int, tru_non, tru_tup, tru_lst, add_ii, add_ss, add_tt, add_ll, sub_ii, mul_ii, mul_si, fdiv_ii, mod_ii, pow_ii, cmp_ii, eq_ii, eq_ss, ne_ii, ne_ss, is_nn, is_bb, is_in, is_sn, is_tn, is_ln, ix_t, ix_l, ix_loc, at_, len_t, len_l, len_scr, len_s, abs_i, int_i, int_b, int_s, str_i, str_s, bool_b, list_t, list_l, tuple_t, tuple_l, tuple_loc, list_loc, isi_, sum_l, max_ii, min_ii, slice_t, slice_l, slice_s, tn_int, tn_bl, tn_str, tn_non, tn_tup, tn_lst, cell_, strOk_of, atI_0, atI_1, atI_2, List.map_cons, List.map_nil, List.length_cons, List.length_nil, List.replicate_succ, List.replicate_zero, List.nil_append, List.cons_append, List.append_nil, List.getElem?_cons_zero, List.getElem?_cons_succ, List.set_cons_zero, List.set_cons_succ, Nat.reduceAdd, Nat.reduceSub, Nat.sub_self, Bool.not_true, Bool.not_false, if_true, if_false, reduceIte, Bool.false_eq_true, Bool.true_eq_false, true_and, and_true, decide_eq_true_eq, Bool.not_eq_true', decide_eq_false_iff_not, ne_eq, not_true_eq_false, not_false_eq_true, ofString_inj]
        simpa using a
  | _ => exact notstr (fun z e => by cases e)
def t_chain_text (er : Str → Addr) : TSD :=
  (dSeq (dDrop (dCall 1 (sp_need_chain er) (dCons (dVar 0) dNil)))
  (dRet (dCall 1 sp_text_of (dCons (dVar 0) dNil))))
def sp_chain_text (er : Str → Addr) : SpD := fun as S Q E => ∃ v, as = [.d v] ∧ v.pl 9 = true ∧ (goodChain v = false → E (.ref (er "InvalidChain")) S) ∧ ∀ c, ChOk c → v = chD c → Q (.str (chTx c)) S
theorem sp_chain_text_mono {er : Str → Addr} : MonoSp (sp_chain_text er) := fun as S Q Q' E E' hq he ⟨v, h1, h2, h3, h4⟩ => ⟨v, h1, h2, fun h => he _ _ (h3 h), fun c h e => hq _ _ (h4 c h e)⟩
theorem p_chain_text {er : Str → Addr} (as : List Va) (S : Store) (Q : QD) (E : EX) (h : sp_chain_text er as S Q E) : t_chain_text er (rtE Q E) (startD 1 as) S := by
  obtain ⟨v, rfl, hv, h1, h2⟩ := h
  simp only [t_chain_text, s_seq, s_next, s_ret, s_retN, s_drop, s_ifS, s_asg, s_par, s_raise, s_for, rt_nx, rt_rt, rt_ex, s_gN, s_gT, s_gTl, setAll_nil, setAll_cons, wipe_nil, wipe_cons, s_start, s_var, s_c, s_bin, s_test, s_chain, s_tru, s_and, s_or, s_not, s_andV, s_orV, s_notV, s_if, s_nil, s_cons, s_tup, s_lst, s_neg, s_cb, s_itS, s_rng1, s_rng2, s_lc, s_yes, s_newL, s_part, s_nop, s_slice, s_rev, s_m1, s_call, s_app, s_setIx, s_dnew, s_done, s_dput, s_dget2, key_s, key_i, cellK_, tru_str, in_s, mul_ti, mul_li, s_onB, s_condB, tru_bl, tru_int, tru_non, tru_tup, tru_lst, add_ii, add_ss, add_tt, add_ll, sub_ii, mul_ii, mul_si, fdiv_ii, mod_ii, pow_ii, cmp_ii, eq_ii, eq_ss, ne_ii, ne_ss, is_nn, is_bb, is_in, is_sn, is_tn, is_ln, ix_t, ix_l, ix_loc, at_, len_t, len_l, len_scr, len_s, abs_i, int_i, int_b, int_s, str_i, str_s, bool_b, list_t, list_l, tuple_t, tuple_l, tuple_loc, list_loc, isi_, sum_l, max_ii, min_ii, slice_t, slice_l, slice_s, tn_int, tn_bl, tn_str, tn_non, tn_tup, tn_lst, cell_, strOk_of, atI_0, atI_1, atI_2, List.map_cons, List.map_nil, List.length_cons, List.length_nil, List.replicate_succ, List.replicate_zero, List.nil_append, List.cons_append, List.append_nil, List.getElem?_cons_zero, List.getElem?_cons_succ, List.set_cons_zero, List.set_cons_succ, Nat.reduceAdd, Nat.reduceSub, Nat.sub_self, Bool.not_true, Bool.not_false, if_true, if_false, reduceIte, Bool.false_eq_true, Bool.true_eq_false, true_and, and_true, decide_eq_true_eq, Bool.not_eq_true', decide_eq_false_iff_not, ne_eq, not_true_eq_false, not_false_eq_true, ofString_inj]
  refine ⟨v, rfl, hv, fun g => ?_, h1⟩
  obtain ⟨c, hc, rfl⟩ := goodChain_iff.mp g
  exact ⟨c, rfl, hc, h2 c hc rfl⟩
def t__law_text : TSD :=
  (dRet (dIf (dTest (dBin neD (dVar 0) (dTup dNil))) (dM1 joinD (dC (.str "\n")) (dLc (dItS (dVar 0)) [2] (gN 2) dYes (dM1 joinD (dC (.str " ")) (dLc (dItS (dVar 2)) [1] (gN 1) dYes (dCB strD (dCons (dVar 1) dNil)))))) (dC (.str "none"))))
def sp__law_text : SpD := sp_text_of
theorem sp__law_text_mono : MonoSp sp__law_text := sp_text_of_mono
theorem p__law_text (as : List Va) (S : Store) (Q : QD) (E : EX) (h : sp__law_text as S Q E) : t__law_text (rtE Q E) (startD 3 as) S := p_text_of as S Q E h
def t__law_sizes : TSD :=
  (dSeq (dAsg (dLst dNil) (gN 0))
  (dSeq (dFor (dRng1 (dCons (dC (.int 6)) dNil)) (gN 1)
    (dAsg (dBin addD (dVar 0) (dLst (dCons (dCall 1 sp__law_ten (dCons (dVar 1) dNil)) (dCons (dBin mulD (dC (.int 2)) (dCall 1 sp__law_ten (dCons (dVar 1) dNil))) (dCons (dBin mulD (dC (.int 5)) (dCall 1 sp__law_ten (dCons (dVar 1) dNil))) dNil))))) (gN 0)))
  (dRet (dBin addD (dVar 0) (dLst (dCons (dBin powD (dC (.int 10)) (dC (.int 6))) dNil))))))
def sp__law_sizes : SpD := fun as S Q _ => as = [] ∧ Q (.lst (sizesL.map D.int)) S
theorem sp__law_sizes_mono : MonoSp sp__law_sizes := fun as S Q Q' E E' hq he ⟨h1, h2⟩ => ⟨h1, hq _ _ h2⟩
theorem p__law_sizes (as : List Va) (S : Store) (Q : QD) (E : EX) (h : sp__law_sizes as S Q E) : t__law_sizes (rtE Q E) (startD 2 as) S := by
  obtain ⟨rfl, hq⟩ := h
  have m2 : ∀ c : Int, CMulA 2 c := fun c => cmull (by decide) (by decide)
  have m5 : ∀ c : Int, CMulA 5 c := fun c => cmull (by decide) (by decide)
  have r6 : rngD 0 6 = [.int ((0 : Nat) : Int), .int ((1 : Nat) : Int), .int ((2 : Nat) : Int), .int ((3 : Nat) : Int), .int ((4 : Nat) : Int), .int ((5 : Nat) : Int)] := rfl
  have tn : ∀ (n : Nat) (S : Store) (Q : QD) (E : EX), n ≤ 600 → Q (.int ((10 ^ n : Nat) : Int)) S → sp__law_ten [.d (.int (n : Int))] S Q E := fun n S Q E h1 h2 => ⟨n, rfl, h1, h2⟩
  simp only [t__law_sizes, s_seq, s_asg, s_lst, s_nil, s_for, s_rng1, s_cons, s_c, s_gN, s_start, List.map_nil, List.length_nil, Nat.sub_zero, List.nil_append, sizeLine_eq]
  refine ⟨by decide, ⟨by decide, by decide⟩, ?_⟩
  show forD _ _ _ (rngD 0 6) _ _
  rw [r6]
  simp only [forD, s_gN, s_asg, s_bin, s_var, s_lst, s_cons, s_nil, s_call, List.replicate, List.set_cons_zero, List.set_cons_succ, List.getElem?_cons_zero, List.getElem?_cons_succ, List.map_cons, List.map_nil, List.length_cons, List.length_nil, s_c, mul_ii, add_ll, s_ret, rt_rt, pow_ii]
  refine ⟨trivial, tn 0 _ _ _ (by decide) ⟨trivial, tn 0 _ _ _ (by decide) ⟨m2 _, trivial, tn 0 _ _ _ (by decide) ⟨m5 _, by simp, by simp, ?_⟩⟩⟩⟩
  refine ⟨trivial, tn 1 _ _ _ (by decide) ⟨trivial, tn 1 _ _ _ (by decide) ⟨m2 _, trivial, tn 1 _ _ _ (by decide) ⟨m5 _, by simp, by simp, ?_⟩⟩⟩⟩
  refine ⟨trivial, tn 2 _ _ _ (by decide) ⟨trivial, tn 2 _ _ _ (by decide) ⟨m2 _, trivial, tn 2 _ _ _ (by decide) ⟨m5 _, by simp, by simp, ?_⟩⟩⟩⟩
  refine ⟨trivial, tn 3 _ _ _ (by decide) ⟨trivial, tn 3 _ _ _ (by decide) ⟨m2 _, trivial, tn 3 _ _ _ (by decide) ⟨m5 _, by simp, by simp, ?_⟩⟩⟩⟩
  refine ⟨trivial, tn 4 _ _ _ (by decide) ⟨trivial, tn 4 _ _ _ (by decide) ⟨m2 _, trivial, tn 4 _ _ _ (by decide) ⟨m5 _, by simp, by simp, ?_⟩⟩⟩⟩
  refine ⟨trivial, tn 5 _ _ _ (by decide) ⟨trivial, tn 5 _ _ _ (by decide) ⟨m2 _, trivial, tn 5 _ _ _ (by decide) ⟨m5 _, by simp, by simp, ?_⟩⟩⟩⟩
  exact ⟨cpow_six, by simp, by simp, hq⟩
/-! ### all texts of steps in a dict -/
structure EvOk (kvs : List (Key × D)) (done : List St1) : Prop where
  only : ∀ k d, getD kvs k = some d → ∃ s : St1, s.ok ∧ k = .inr s.tx ∧ d = s.d
  has : ∀ s ∈ done, getD kvs (.inr s.tx) = some s.d
  len : kvs.length ≤ done.length
theorem getD_snoc {kvs : List (Key × D)} {k j : Key} {d : D} (h : (kvs.any fun kv => decide (kv.1 = k)) = false) : getD (kvs ++ [(k, d)]) j = if j = k then some d else getD kvs j := by
  unfold getD
  rw [List.find?_append]
  by_cases e : j = k
  · subst e
    have : kvs.find? (fun kv => decide (kv.1 = j)) = none := by
      rw [List.find?_eq_none]
      intro x hx hd
      have := List.any_eq_false.mp h x hx
      exact this hd
    rw [this, if_pos rfl]
    simp
  · rw [if_neg e]
    have : [(k, d)].find? (fun kv => decide (kv.1 = j)) = none := by
      rw [List.find?_eq_none]
      intro x hx hd
      rw [List.mem_singleton] at hx
      subst hx
      exact e (of_decide_eq_true hd).symm
    rw [this]
    simp
theorem getD_map {k j : Key} {d : D} : ∀ kvs : List (Key × D), getD (kvs.map fun kv => if kv.1 = k then (kv.1, d) else kv) j = (getD kvs j).map fun x => if j = k then d else x
  | [] => rfl
  | p :: r => by
    have ih := getD_map (k := k) (j := j) (d := d) r
    unfold getD at ih ⊢
    rw [List.map_cons, List.find?_cons, List.find?_cons]
    by_cases e : p.1 = k
    · by_cases e2 : p.1 = j
      · have : j = k := e2.symm.trans e
        simp [e, e2, this]
      · have : ¬ k = j := fun z => e2 (e.trans z)
        simp only [e, if_true, this, decide_false]
        rw [e] at e2
        simpa using ih
    · by_cases e2 : p.1 = j
      · have : ¬ j = k := fun z => e (e2.trans z)
        simp [e, e2, this]
      · simp only [e, if_false, e2, decide_false]
        exact ih
theorem getD_any {k : Key} : ∀ kvs : List (Key × D), (kvs.any fun kv => decide (kv.1 = k)) = (getD kvs k).isSome
  | [] => rfl
  | p :: r => by
    have ih := getD_any (k := k) r
    unfold getD at ih ⊢
    rw [List.any_cons, List.find?_cons]
    by_cases e : p.1 = k
    · simp [e]
    · simp only [e, decide_false, Bool.false_or]
      exact ih
theorem getD_put (kvs : List (Key × D)) (k j : Key) (d : D) : getD (putD kvs k d) j = if j = k then some d else getD kvs j := by
  unfold putD
  by_cases a : (kvs.any fun kv => decide (kv.1 = k)) = true
  · rw [if_pos a, getD_map]
    rw [getD_any] at a
    by_cases e : j = k
    · subst e
      rw [if_pos rfl]
      obtain ⟨x, hx⟩ := Option.isSome_iff_exists.mp a
      rw [hx]
      simp
    · simp [e]
  · rw [if_neg a]
    exact getD_snoc (Bool.eq_false_iff.mpr a)
theorem length_putD (kvs : List (Key × D)) (k : Key) (d : D) : (putD kvs k d).length ≤ kvs.length + 1 := by
  unfold putD
  split
  · rw [List.length_map]; omega
  · simp
theorem EvOk.put {kvs : List (Key × D)} {done : List St1} (h : EvOk kvs done) {s : St1} (hs : s.ok) : EvOk (putD kvs (.inr s.tx) s.d) (done ++ [s]) := by
  refine ⟨fun k d e => ?_, fun t ht => ?_, ?_⟩
  · rw [getD_put] at e
    by_cases z : k = .inr s.tx
    · rw [if_pos z] at e
      cases e
      exact ⟨s, hs, z, rfl⟩
    · rw [if_neg z] at e
      exact h.only k d e
  · rw [getD_put]
    by_cases z : (Sum.inr t.tx : Key) = .inr s.tx
    · rw [if_pos z]
      rcases List.mem_append.mp ht with ht | ht
      · obtain ⟨u, hu, e1, e2⟩ := h.only _ _ (h.has t ht)
        have e1 : t.tx = u.tx := by injection e1
        have z : t.tx = s.tx := by injection z
        rw [e2, tx_inj hu hs (e1.symm.trans z)]
      · rw [List.mem_singleton.mp ht]
    · rw [if_neg z]
      rcases List.mem_append.mp ht with ht | ht
      · exact h.has t ht
      · rw [List.mem_singleton.mp ht] at z
        exact absurd rfl z
  · have := length_putD kvs (.inr s.tx) s.d
    have := h.len
    rw [List.length_append, List.length_singleton]
    omega
theorem EvOk.get {kvs : List (Key × D)} (h : EvOk kvs allSt) (z : Str) : getD kvs (.inr z) = (txSt z).map St1.d := by
  cases e : txSt z with
  | some s =>
    obtain ⟨h1, rfl⟩ := txSt_some.mp e
    rw [h.has s (ok_all h1)]
    rfl
  | none =>
    cases g : getD kvs (.inr z) with
    | none => rfl
    | some d =>
      obtain ⟨s, h1, h2, _⟩ := h.only _ _ g
      have h2 : z = s.tx := by injection h2
      rw [txSt_some.mpr ⟨h1, h2⟩] at e
      cases e
theorem nameF (k : Nat) (hk : k ∈ [1, 2, 3]) (w : Way) : (Str.ofString "figures " ++ Str.ofString (toString ((k : Nat) : Int)) ++ Str.ofString " " ++ Str.ofString w.s : Str) = (St1.figs k w).tx := by
  have : ∀ k ∈ [1, 2, 3], ∀ w ∈ everyWay, (Str.ofString "figures " ++ Str.ofString (toString ((k : Nat) : Int)) ++ Str.ofString " " ++ Str.ofString w.s : Str) = (St1.figs k w).tx := by decide +kernel
  exact this k hk w (way_every w)
theorem nameS (k : Nat) (hk : k ∈ sizesN) (w : Way) : (Str.ofString "steps " ++ Str.ofString (toString ((k : Nat) : Int)) ++ Str.ofString " " ++ Str.ofString w.s : Str) = (St1.steps k w).tx := by
  have : ∀ k ∈ sizesN, ∀ w ∈ everyWay, (Str.ofString "steps " ++ Str.ofString (toString ((k : Nat) : Int)) ++ Str.ofString " " ++ Str.ofString w.s : Str) = (St1.steps k w).tx := by decide +kernel
  exact this k hk w (way_every w)
theorem nameT (k : Nat) (hk : k ∈ [1, 2, 3]) : (Str.ofString "tens " ++ Str.ofString (toString ((k : Nat) : Int)) : Str) = (St1.tens k).tx := by
  have : ∀ k ∈ [1, 2, 3], (Str.ofString "tens " ++ Str.ofString (toString ((k : Nat) : Int)) : Str) = (St1.tens k).tx := by decide +kernel
  exact this k hk
theorem nameR : Str.ofString "turn" = St1.turn.tx := by decide +kernel
end Fs
end
section
set_option Elab.async false
set_option linter.all false
set_option maxRecDepth 100000
set_option maxHeartbeats 4000000
namespace Fs
open PySem PySem.Spec PyProof.Rows L2 LamX

def done1 (ms : List Nat) : List St1 := St1.turn :: ms.flatMap fun k => St1.tens k :: everyWay.map (St1.figs k)
def done2 (us : List Nat) : List St1 := done1 [1, 2, 3] ++ us.flatMap fun u => everyWay.map (St1.steps u)
theorem done_all : ∀ s ∈ allSt, s ∈ done2 sizesN := by decide +kernel
theorem done_len : (done2 sizesN).length ≤ 200 := by decide +kernel
theorem EvOk.all {kvs : List (Key × D)} (h : EvOk kvs (done2 sizesN)) (z : Str) : getD kvs (.inr z) = (txSt z).map St1.d := by
  cases e : txSt z with
  | some s =>
    obtain ⟨h1, rfl⟩ := txSt_some.mp e
    rw [h.has s (done_all s (ok_all h1))]
    rfl
  | none =>
    cases g : getD kvs (.inr z) with
    | none => rfl
    | some d =>
      obtain ⟨s, h1, h2, _⟩ := h.only _ _ g
      have h2 : z = s.tx := by injection h2
      rw [txSt_some.mpr ⟨h1, h2⟩] at e
      cases e
theorem len_app (a b : Str) : (a ++ b : Str).length = a.length + b.length := by simp only [Str.length, Str.cps_append, Array.size_append]
theorem st_get {S : Store} {c : Cell} : (S ++ [c])[S.length]? = some c := by
  rw [List.getElem?_append_right (Nat.le_refl _), Nat.sub_self]; rfl
theorem st_set {S : Store} {c d : Cell} : (S ++ [c]).set S.length d = S ++ [d] := by
  rw [List.set_append_right _ _ (Nat.le_refl _), Nat.sub_self]; rfl
theorem any_none : ∀ ls : List Str, ((ls.map fun z => ((txSt z).map St1.d).getD .non).any fun z => D.eqb z .non) = (rdLines ls).isNone
  | [] => rfl
  | z :: r => by
    have ih := any_none r
    have e2 : rdLines (z :: r) = match txSt z, rdLines r with
      | some s, some c => some (s :: c)
      | _, _ => none := rfl
    rw [List.map_cons, List.any_cons, ih, e2]
    cases e : txSt z with
    | none => rfl
    | some s =>
      have : D.eqb s.d .non = false := by cases s <;> rfl
      show (D.eqb s.d .non || _) = _
      rw [this, Bool.false_or]
      cases rdLines r <;> rfl
theorem lines_map : ∀ {ls : List Str} {c : List St1}, rdLines ls = some c → (ls.map fun z => ((txSt z).map St1.d).getD .non) = c.map St1.d
  | ls, c, h => by
    obtain ⟨h1, rfl⟩ := rdLines_ok h
    rw [List.map_map]
    refine List.map_congr_left fun s hs => ?_
    show ((txSt s.tx).map St1.d).getD .non = s.d
    rw [txSt_some.mpr ⟨h1 s hs, rfl⟩]
    rfl
theorem lb_steps' {n : Nat} (c : List St1) : D.lb n (.tup (c.map St1.d)) = true := by
  show D.lb.lbs n (c.map St1.d) = true
  induction c with
  | nil => rfl
  | cons s c ih =>
    have : s.d.lb n = true := by cases s <;> rfl
    show (s.d.lb n && D.lb.lbs n (c.map St1.d)) = true
    rw [this, ih]; rfl
def rdD (z : Str) : D := match rdOf z with
  | some c => chD c
  | none => .non
def t__law_reading : TSD :=
  (dSeq (dIfS (dTest (dBin eqD (dVar 0) (dC (.str "none"))))
    (dRet (dTup dNil))
    dNext)
  (dSeq (dAsg (dDOne "turn" (dTup (dCons (dC (.str "turn")) dNil))) (gN 1))
  (dSeq (dFor (dItS (dLst (dCons (dC (.int 1)) (dCons (dC (.int 2)) (dCons (dC (.int 3)) dNil))))) (gN 2)
    (dSeq (dDPut (dTup (dCons (dC (.str "tens")) (dCons (dVar 2) dNil))) (dVar 1) (dBin addD (dC (.str "tens ")) (dCB strD (dCons (dVar 2) dNil))))
    (dFor (dItS (dCall 0 sp__law_ways dNil)) (gN 3)
      (dDPut (dTup (dCons (dC (.str "figures")) (dCons (dVar 2) (dCons (dVar 3) dNil)))) (dVar 1) (dBin addD (dBin addD (dBin addD (dC (.str "figures ")) (dCB strD (dCons (dVar 2) dNil))) (dC (.str " "))) (dVar 3))))))
  (dSeq (dFor (dItS (dCall 0 sp__law_sizes dNil)) (gN 4)
    (dFor (dItS (dCall 0 sp__law_ways dNil)) (gN 3)
      (dDPut (dTup (dCons (dC (.str "steps")) (dCons (dVar 4) (dCons (dVar 3) dNil)))) (dVar 1) (dBin addD (dBin addD (dBin addD (dC (.str "steps ")) (dCB strD (dCons (dVar 4) dNil))) (dC (.str " "))) (dVar 3)))))
  (dSeq (dAsg (dCB tupleD (dCons (dLc (dItS (dM1 splitD (dVar 0) (dC (.str "\n")))) [6] (gN 6) dYes (dDGet2 (dVar 1) (dVar 6) (dC .non))) dNil)) (gN 5))
  (dRet (dIf (dOr (dTest (dBin (inD false) (dC .non) (dVar 5))) (dTest (dBin gtD (dCB lenD (dCons (dVar 5) dNil)) (dC (.int 4))))) (dC .non) (dVar 5))))))))
def sp__law_reading : SpD := fun as S Q _ => ∃ z, as = [.d (.str z)] ∧ z.length ≤ 1000000 ∧ PyData.strOk z = true ∧ Q (rdD z) S
theorem sp__law_reading_mono : MonoSp sp__law_reading := fun as S Q Q' E E' hq he ⟨z, h1, h2, h3, h4⟩ => ⟨z, h1, h2, h3, hq _ _ h4⟩
theorem p__law_reading (as : List Va) (S : Store) (Q : QD) (E : EX) (h : sp__law_reading as S Q E) : t__law_reading (rtE (Pur S Q) E) (startD 7 as) S := by
  obtain ⟨z, rfl, hl, hk, hq⟩ := h
  have hsz := sizeLine_eq
  simp only [t__law_reading, s_seq, s_next, s_ret, s_retN, s_drop, s_ifS, s_asg, s_par, s_raise, s_for, rt_nx, rt_rt, rt_ex, s_gN, s_gT, s_gTl, setAll_nil, setAll_cons, wipe_nil, wipe_cons, s_start, s_var, s_c, s_bin, s_test, s_chain, s_tru, s_and, s_or, s_not, s_andV, s_orV, s_notV, s_if, s_nil, s_cons, s_tup, s_lst, s_neg, s_cb, s_itS, s_rng1, s_rng2, s_lc, s_yes, s_newL, s_part, s_nop, s_slice, s_rev, s_m1, s_call, s_app, s_setIx, s_dnew, s_done, s_dput, s_dget2, key_s, key_i, cellK_, tru_str, in_s, mul_ti, mul_li, s_onB, s_condB, tru_bl, tru_int, tru_non, tru_tup, tru_lst, add_ii, add_ss, add_tt, add_ll, sub_ii, mul_ii, mul_si, fdiv_ii, mod_ii, pow_ii, cmp_ii, eq_ii, eq_ss, ne_ii, ne_ss, is_nn, is_bb, is_in, is_sn, is_tn, is_ln, ix_t, ix_l, ix_loc, at_, len_t, len_l, len_scr, len_s, abs_i, int_i, int_b, int_s, str_i, str_s, bool_b, list_t, list_l, tuple_t, tuple_l, tuple_loc, list_loc, isi_, sum_l, max_ii, min_ii, slice_t, slice_l, slice_s, tn_int, tn_bl, tn_str, tn_non, tn_tup, tn_lst, cell_, strOk_of, atI_0, atI_1, atI_2, List.map_cons, List.map_nil, List.length_cons, List.length_nil, List.replicate_succ, List.replicate_zero, List.nil_append, List.cons_append, List.append_nil, List.getElem?_cons_zero, List.getElem?_cons_succ, List.set_cons_zero, List.set_cons_succ, Nat.reduceAdd, Nat.reduceSub, Nat.sub_self, Bool.not_true, Bool.not_false, if_true, if_false, reduceIte, Bool.false_eq_true, Bool.true_eq_false, true_and, and_true, decide_eq_true_eq, Bool.not_eq_true', decide_eq_false_iff_not, ne_eq, not_true_eq_false, not_false_eq_true, ofString_inj]
  refine ⟨hk, ?_⟩
  by_cases hz : z = Str.ofString "none"
  · rw [if_pos hz]
    refine ⟨by omega, ⟨[], by simp⟩, rfl, ?_⟩
    have : rdD z = .tup [] := by unfold rdD rdOf; rw [if_pos hz]; rfl
    rw [this] at hq
    exact hq
  rw [if_neg hz]
  simp only [s_seq, s_next, s_ret, s_retN, s_drop, s_ifS, s_asg, s_par, s_raise, s_for, rt_nx, rt_rt, rt_ex, s_gN, s_gT, s_gTl, setAll_nil, setAll_cons, wipe_nil, wipe_cons, s_start, s_var, s_c, s_bin, s_test, s_chain, s_tru, s_and, s_or, s_not, s_andV, s_orV, s_notV, s_if, s_nil, s_cons, s_tup, s_lst, s_neg, s_cb, s_itS, s_rng1, s_rng2, s_lc, s_yes, s_newL, s_part, s_nop, s_slice, s_rev, s_m1, s_call, s_app, s_setIx, s_dnew, s_done, s_dput, s_dget2, key_s, key_i, cellK_, tru_str, in_s, mul_ti, mul_li, s_onB, s_condB, tru_bl, tru_int, tru_non, tru_tup, tru_lst, add_ii, add_ss, add_tt, add_ll, sub_ii, mul_ii, mul_si, fdiv_ii, mod_ii, pow_ii, cmp_ii, eq_ii, eq_ss, ne_ii, ne_ss, is_nn, is_bb, is_in, is_sn, is_tn, is_ln, ix_t, ix_l, ix_loc, at_, len_t, len_l, len_scr, len_s, abs_i, int_i, int_b, int_s, str_i, str_s, bool_b, list_t, list_l, tuple_t, tuple_l, tuple_loc, list_loc, isi_, sum_l, max_ii, min_ii, slice_t, slice_l, slice_s, tn_int, tn_bl, tn_str, tn_non, tn_tup, tn_lst, cell_, strOk_of, atI_0, atI_1, atI_2, List.map_cons, List.map_nil, List.length_cons, List.length_nil, List.replicate_succ, List.replicate_zero, List.nil_append, List.cons_append, List.append_nil, List.getElem?_cons_zero, List.getElem?_cons_succ, List.set_cons_zero, List.set_cons_succ, Nat.reduceAdd, Nat.reduceSub, Nat.sub_self, Bool.not_true, Bool.not_false, if_true, if_false, reduceIte, Bool.false_eq_true, Bool.true_eq_false, true_and, and_true, decide_eq_true_eq, Bool.not_eq_true', decide_eq_false_iff_not, ne_eq, not_true_eq_false, not_false_eq_true, ofString_inj, st_get, st_set]
  refine ⟨by omega, ?_⟩
  have ev0 : EvOk [(.inr (Str.ofString "turn"), .tup [.str (Str.ofString "turn")])] (done1 []) := by
    have e0 : EvOk [] [] := ⟨fun k d e => (by cases e), fun s hs => (by cases hs), Nat.le_refl _⟩
    have := e0.put (s := .turn) trivial
    rw [← nameR] at this
    exact this
  refine ⟨by simp [hsz], ?_⟩
  -- figures, tens
  refine forD_inv (fun xs env S' => ∃ (ms rest : List Nat) (kvs : List (Key × D)) (a2 a3 : Option Va), ms ++ rest = [1, 2, 3] ∧ xs = rest.map (fun (k : Nat) => D.int k) ∧ env = [some (.d (.str z)), some (.d (.loc S.length)), a2, a3, none, none, none] ∧ S' = S ++ [.dct kvs] ∧ EvOk kvs (done1 ms)) ?_ ?_ _ _ _ ⟨[], [1, 2, 3], _, _, _, rfl, rfl, rfl, rfl, ev0⟩
  · rintro env S' ⟨ms, rest, kvs, a2, a3, h1, h2, rfl, rfl, ev⟩
    obtain rfl : rest = [] := by simpa using h2.symm
    rw [List.append_nil] at h1
    subst h1
    simp only [s_seq, s_next, s_ret, s_retN, s_drop, s_ifS, s_asg, s_par, s_raise, s_for, rt_nx, rt_rt, rt_ex, s_gN, s_gT, s_gTl, setAll_nil, setAll_cons, wipe_nil, wipe_cons, s_start, s_var, s_c, s_bin, s_test, s_chain, s_tru, s_and, s_or, s_not, s_andV, s_orV, s_notV, s_if, s_nil, s_cons, s_tup, s_lst, s_neg, s_cb, s_itS, s_rng1, s_rng2, s_lc, s_yes, s_newL, s_part, s_nop, s_slice, s_rev, s_m1, s_call, s_app, s_setIx, s_dnew, s_done, s_dput, s_dget2, key_s, key_i, cellK_, tru_str, in_s, mul_ti, mul_li, s_onB, s_condB, tru_bl, tru_int, tru_non, tru_tup, tru_lst, add_ii, add_ss, add_tt, add_ll, sub_ii, mul_ii, mul_si, fdiv_ii, mod_ii, pow_ii, cmp_ii, eq_ii, eq_ss, ne_ii, ne_ss, is_nn, is_bb, is_in, is_sn, is_tn, is_ln, ix_t, ix_l, ix_loc, at_, len_t, len_l, len_scr, len_s, abs_i, int_i, int_b, int_s, str_i, str_s, bool_b, list_t, list_l, tuple_t, tuple_l, tuple_loc, list_loc, isi_, sum_l, max_ii, min_ii, slice_t, slice_l, slice_s, tn_int, tn_bl, tn_str, tn_non, tn_tup, tn_lst, cell_, strOk_of, atI_0, atI_1, atI_2, List.map_cons, List.map_nil, List.length_cons, List.length_nil, List.replicate_succ, List.replicate_zero, List.nil_append, List.cons_append, List.append_nil, List.getElem?_cons_zero, List.getElem?_cons_succ, List.set_cons_zero, List.set_cons_succ, Nat.reduceAdd, Nat.reduceSub, Nat.sub_self, Bool.not_true, Bool.not_false, if_true, if_false, reduceIte, Bool.false_eq_true, Bool.true_eq_false, true_and, and_true, decide_eq_true_eq, Bool.not_eq_true', decide_eq_false_iff_not, ne_eq, not_true_eq_false, not_false_eq_true, ofString_inj]
    refine ⟨rfl, ?_⟩
    show forD _ _ _ (sizesL.map D.int) _ _
    -- sizes
    have hS : sizesL.map D.int = sizesN.map fun (u : Nat) => D.int u := rfl
    rw [hS]
    refine forD_inv (fun xs env S' => ∃ (us rest : List Nat) (kvs : List (Key × D)) (a3 a4 : Option Va), us ++ rest = sizesN ∧ xs = rest.map (fun (k : Nat) => D.int k) ∧ env = [some (.d (.str z)), some (.d (.loc S.length)), a2, a3, a4, none, none] ∧ S' = S ++ [.dct kvs] ∧ EvOk kvs (done2 us)) ?_ ?_ _ _ _ ⟨[], sizesN, _, _, _, rfl, rfl, rfl, rfl, by unfold done2; simpa using ev⟩
    · rintro env S' ⟨us, rest, kvs, a3, a4, h1, h2, rfl, rfl, ev⟩
      obtain rfl : rest = [] := by simpa using h2.symm
      rw [List.append_nil] at h1
      subst h1
      simp only [s_seq, s_next, s_ret, s_retN, s_drop, s_ifS, s_asg, s_par, s_raise, s_for, rt_nx, rt_rt, rt_ex, s_gN, s_gT, s_gTl, setAll_nil, setAll_cons, wipe_nil, wipe_cons, s_start, s_var, s_c, s_bin, s_test, s_chain, s_tru, s_and, s_or, s_not, s_andV, s_orV, s_notV, s_if, s_nil, s_cons, s_tup, s_lst, s_neg, s_cb, s_itS, s_rng1, s_rng2, s_lc, s_yes, s_newL, s_part, s_nop, s_slice, s_rev, s_m1, s_call, s_app, s_setIx, s_dnew, s_done, s_dput, s_dget2, key_s, key_i, cellK_, tru_str, in_s, mul_ti, mul_li, s_onB, s_condB, tru_bl, tru_int, tru_non, tru_tup, tru_lst, add_ii, add_ss, add_tt, add_ll, sub_ii, mul_ii, mul_si, fdiv_ii, mod_ii, pow_ii, cmp_ii, eq_ii, eq_ss, ne_ii, ne_ss, is_nn, is_bb, is_in, is_sn, is_tn, is_ln, ix_t, ix_l, ix_loc, at_, len_t, len_l, len_scr, len_s, abs_i, int_i, int_b, int_s, str_i, str_s, bool_b, list_t, list_l, tuple_t, tuple_l, tuple_loc, list_loc, isi_, sum_l, max_ii, min_ii, slice_t, slice_l, slice_s, tn_int, tn_bl, tn_str, tn_non, tn_tup, tn_lst, cell_, strOk_of, atI_0, atI_1, atI_2, List.map_cons, List.map_nil, List.length_cons, List.length_nil, List.replicate_succ, List.replicate_zero, List.nil_append, List.cons_append, List.append_nil, List.getElem?_cons_zero, List.getElem?_cons_succ, List.set_cons_zero, List.set_cons_succ, Nat.reduceAdd, Nat.reduceSub, Nat.sub_self, Bool.not_true, Bool.not_false, if_true, if_false, reduceIte, Bool.false_eq_true, Bool.true_eq_false, true_and, and_true, decide_eq_true_eq, Bool.not_eq_true', decide_eq_false_iff_not, ne_eq, not_true_eq_false, not_false_eq_true, ofString_inj]
      refine ⟨⟨_, rfl⟩, split_at (by decide +kernel) hl ?_⟩
      have hlen := split_len z 10
      have hp : ∀ p ∈ Txt.split z (sg 10), p.length ≤ z.length ∧ PyData.strOk p = true := fun p hp => ⟨part_len hp, part_ok hk hp⟩
      simp only [s_seq, s_next, s_ret, s_retN, s_drop, s_ifS, s_asg, s_par, s_raise, s_for, rt_nx, rt_rt, rt_ex, s_gN, s_gT, s_gTl, setAll_nil, setAll_cons, wipe_nil, wipe_cons, s_start, s_var, s_c, s_bin, s_test, s_chain, s_tru, s_and, s_or, s_not, s_andV, s_orV, s_notV, s_if, s_nil, s_cons, s_tup, s_lst, s_neg, s_cb, s_itS, s_rng1, s_rng2, s_lc, s_yes, s_newL, s_part, s_nop, s_slice, s_rev, s_m1, s_call, s_app, s_setIx, s_dnew, s_done, s_dput, s_dget2, key_s, key_i, cellK_, tru_str, in_s, mul_ti, mul_li, s_onB, s_condB, tru_bl, tru_int, tru_non, tru_tup, tru_lst, add_ii, add_ss, add_tt, add_ll, sub_ii, mul_ii, mul_si, fdiv_ii, mod_ii, pow_ii, cmp_ii, eq_ii, eq_ss, ne_ii, ne_ss, is_nn, is_bb, is_in, is_sn, is_tn, is_ln, ix_t, ix_l, ix_loc, at_, len_t, len_l, len_scr, len_s, abs_i, int_i, int_b, int_s, str_i, str_s, bool_b, list_t, list_l, tuple_t, tuple_l, tuple_loc, list_loc, isi_, sum_l, max_ii, min_ii, slice_t, slice_l, slice_s, tn_int, tn_bl, tn_str, tn_non, tn_tup, tn_lst, cell_, strOk_of, atI_0, atI_1, atI_2, List.map_cons, List.map_nil, List.length_cons, List.length_nil, List.replicate_succ, List.replicate_zero, List.nil_append, List.cons_append, List.append_nil, List.getElem?_cons_zero, List.getElem?_cons_succ, List.set_cons_zero, List.set_cons_succ, Nat.reduceAdd, Nat.reduceSub, Nat.sub_self, Bool.not_true, Bool.not_false, if_true, if_false, reduceIte, Bool.false_eq_true, Bool.true_eq_false, true_and, and_true, decide_eq_true_eq, Bool.not_eq_true', decide_eq_false_iff_not, ne_eq, not_true_eq_false, not_false_eq_true, ofString_inj]
      have hr : rdD z = match rdLines (Txt.split z (sg 10)) with
        | some c => if c.length ≤ 4 then chD c else .non
        | none => .non := by
        unfold rdD rdOf
        rw [if_neg hz, nl_sg]
        cases rdLines (Txt.split z (sg 10)) with
        | none => rfl
        | some c =>
          by_cases hc : c.length ≤ 4
          · simp [hc]
          · simp [hc]
      rw [hr] at hq
      rw [nl_sg]
      generalize Txt.split z (sg 10) = ls at hq hlen hp
      let f : D → D := fun d => match d with
        | .str x => ((txSt x).map St1.d).getD .non
        | d => d
      have ef : (ls.map D.str).map f = ls.map fun z => ((txSt z).map St1.d).getD .non := by rw [List.map_map]; rfl
      refine lcD_map f _ _ (by simp [hsz]; omega) (fun x hx Q' hq' => ?_) ?_
      · obtain ⟨w, hw, rfl⟩ := List.mem_map.mp hx
        simp only [s_seq, s_next, s_ret, s_retN, s_drop, s_ifS, s_asg, s_par, s_raise, s_for, rt_nx, rt_rt, rt_ex, s_gN, s_gT, s_gTl, setAll_nil, setAll_cons, wipe_nil, wipe_cons, s_start, s_var, s_c, s_bin, s_test, s_chain, s_tru, s_and, s_or, s_not, s_andV, s_orV, s_notV, s_if, s_nil, s_cons, s_tup, s_lst, s_neg, s_cb, s_itS, s_rng1, s_rng2, s_lc, s_yes, s_newL, s_part, s_nop, s_slice, s_rev, s_m1, s_call, s_app, s_setIx, s_dnew, s_done, s_dput, s_dget2, key_s, key_i, cellK_, tru_str, in_s, mul_ti, mul_li, s_onB, s_condB, tru_bl, tru_int, tru_non, tru_tup, tru_lst, add_ii, add_ss, add_tt, add_ll, sub_ii, mul_ii, mul_si, fdiv_ii, mod_ii, pow_ii, cmp_ii, eq_ii, eq_ss, ne_ii, ne_ss, is_nn, is_bb, is_in, is_sn, is_tn, is_ln, ix_t, ix_l, ix_loc, at_, len_t, len_l, len_scr, len_s, abs_i, int_i, int_b, int_s, str_i, str_s, bool_b, list_t, list_l, tuple_t, tuple_l, tuple_loc, list_loc, isi_, sum_l, max_ii, min_ii, slice_t, slice_l, slice_s, tn_int, tn_bl, tn_str, tn_non, tn_tup, tn_lst, cell_, strOk_of, atI_0, atI_1, atI_2, List.map_cons, List.map_nil, List.length_cons, List.length_nil, List.replicate_succ, List.replicate_zero, List.nil_append, List.cons_append, List.append_nil, List.getElem?_cons_zero, List.getElem?_cons_succ, List.set_cons_zero, List.set_cons_succ, Nat.reduceAdd, Nat.reduceSub, Nat.sub_self, Bool.not_true, Bool.not_false, if_true, if_false, reduceIte, Bool.false_eq_true, Bool.true_eq_false, true_and, and_true, decide_eq_true_eq, Bool.not_eq_true', decide_eq_false_iff_not, ne_eq, not_true_eq_false, not_false_eq_true, ofString_inj, st_get]
        rw [ev.all]
        exact hq'
      · simp only [s_seq, s_next, s_ret, s_retN, s_drop, s_ifS, s_asg, s_par, s_raise, s_for, rt_nx, rt_rt, rt_ex, s_gN, s_gT, s_gTl, setAll_nil, setAll_cons, wipe_nil, wipe_cons, s_start, s_var, s_c, s_bin, s_test, s_chain, s_tru, s_and, s_or, s_not, s_andV, s_orV, s_notV, s_if, s_nil, s_cons, s_tup, s_lst, s_neg, s_cb, s_itS, s_rng1, s_rng2, s_lc, s_yes, s_newL, s_part, s_nop, s_slice, s_rev, s_m1, s_call, s_app, s_setIx, s_dnew, s_done, s_dput, s_dget2, key_s, key_i, cellK_, tru_str, in_s, mul_ti, mul_li, s_onB, s_condB, tru_bl, tru_int, tru_non, tru_tup, tru_lst, add_ii, add_ss, add_tt, add_ll, sub_ii, mul_ii, mul_si, fdiv_ii, mod_ii, pow_ii, cmp_ii, eq_ii, eq_ss, ne_ii, ne_ss, is_nn, is_bb, is_in, is_sn, is_tn, is_ln, ix_t, ix_l, ix_loc, at_, len_t, len_l, len_scr, len_s, abs_i, int_i, int_b, int_s, str_i, str_s, bool_b, list_t, list_l, tuple_t, tuple_l, tuple_loc, list_loc, isi_, sum_l, max_ii, min_ii, slice_t, slice_l, slice_s, tn_int, tn_bl, tn_str, tn_non, tn_tup, tn_lst, cell_, strOk_of, atI_0, atI_1, atI_2, List.map_cons, List.map_nil, List.length_cons, List.length_nil, List.replicate_succ, List.replicate_zero, List.nil_append, List.cons_append, List.append_nil, List.getElem?_cons_zero, List.getElem?_cons_succ, List.set_cons_zero, List.set_cons_succ, Nat.reduceAdd, Nat.reduceSub, Nat.sub_self, Bool.not_true, Bool.not_false, if_true, if_false, reduceIte, Bool.false_eq_true, Bool.true_eq_false, true_and, and_true, decide_eq_true_eq, Bool.not_eq_true', decide_eq_false_iff_not, ne_eq, not_true_eq_false, not_false_eq_true, ofString_inj]
        rw [ef]
        have plR : D.pls 2 (ls.map fun z => ((txSt z).map St1.d).getD .non) = true := by
          refine pls_of fun d hd => ?_
          obtain ⟨w, hw, rfl⟩ := List.mem_map.mp hd
          cases txSt w with
          | none => rfl
          | some s => exact pl_mono (m := 1) (by decide) _ s.pl
        refine ⟨inOk_pl (n := 2) (by decide) rfl plR, ?_⟩
        rw [any_none]
        cases e : rdLines ls with
        | none =>
          rw [e] at hq
          have e9 : ((none : Option (List St1)).isNone != false) = true := rfl
          simp only [e9, s_seq, s_next, s_ret, s_retN, s_drop, s_ifS, s_asg, s_par, s_raise, s_for, rt_nx, rt_rt, rt_ex, s_gN, s_gT, s_gTl, setAll_nil, setAll_cons, wipe_nil, wipe_cons, s_start, s_var, s_c, s_bin, s_test, s_chain, s_tru, s_and, s_or, s_not, s_andV, s_orV, s_notV, s_if, s_nil, s_cons, s_tup, s_lst, s_neg, s_cb, s_itS, s_rng1, s_rng2, s_lc, s_yes, s_newL, s_part, s_nop, s_slice, s_rev, s_m1, s_call, s_app, s_setIx, s_dnew, s_done, s_dput, s_dget2, key_s, key_i, cellK_, tru_str, in_s, mul_ti, mul_li, s_onB, s_condB, tru_bl, tru_int, tru_non, tru_tup, tru_lst, add_ii, add_ss, add_tt, add_ll, sub_ii, mul_ii, mul_si, fdiv_ii, mod_ii, pow_ii, cmp_ii, eq_ii, eq_ss, ne_ii, ne_ss, is_nn, is_bb, is_in, is_sn, is_tn, is_ln, ix_t, ix_l, ix_loc, at_, len_t, len_l, len_scr, len_s, abs_i, int_i, int_b, int_s, str_i, str_s, bool_b, list_t, list_l, tuple_t, tuple_l, tuple_loc, list_loc, isi_, sum_l, max_ii, min_ii, slice_t, slice_l, slice_s, tn_int, tn_bl, tn_str, tn_non, tn_tup, tn_lst, cell_, strOk_of, atI_0, atI_1, atI_2, List.map_cons, List.map_nil, List.length_cons, List.length_nil, List.replicate_succ, List.replicate_zero, List.nil_append, List.cons_append, List.append_nil, List.getElem?_cons_zero, List.getElem?_cons_succ, List.set_cons_zero, List.set_cons_succ, Nat.reduceAdd, Nat.reduceSub, Nat.sub_self, Bool.not_true, Bool.not_false, if_true, if_false, reduceIte, Bool.false_eq_true, Bool.true_eq_false, true_and, and_true, decide_eq_true_eq, Bool.not_eq_true', decide_eq_false_iff_not, ne_eq, not_true_eq_false, not_false_eq_true, ofString_inj]
          exact ⟨⟨_, rfl⟩, rfl, hq⟩
        | some c =>
          rw [e] at hq
          have hq : Q (if c.length ≤ 4 then chD c else .non) S := hq
          have e9 : ((some c : Option (List St1)).isNone != false) = false := rfl
          simp only [e9, s_seq, s_next, s_ret, s_retN, s_drop, s_ifS, s_asg, s_par, s_raise, s_for, rt_nx, rt_rt, rt_ex, s_gN, s_gT, s_gTl, setAll_nil, setAll_cons, wipe_nil, wipe_cons, s_start, s_var, s_c, s_bin, s_test, s_chain, s_tru, s_and, s_or, s_not, s_andV, s_orV, s_notV, s_if, s_nil, s_cons, s_tup, s_lst, s_neg, s_cb, s_itS, s_rng1, s_rng2, s_lc, s_yes, s_newL, s_part, s_nop, s_slice, s_rev, s_m1, s_call, s_app, s_setIx, s_dnew, s_done, s_dput, s_dget2, key_s, key_i, cellK_, tru_str, in_s, mul_ti, mul_li, s_onB, s_condB, tru_bl, tru_int, tru_non, tru_tup, tru_lst, add_ii, add_ss, add_tt, add_ll, sub_ii, mul_ii, mul_si, fdiv_ii, mod_ii, pow_ii, cmp_ii, eq_ii, eq_ss, ne_ii, ne_ss, is_nn, is_bb, is_in, is_sn, is_tn, is_ln, ix_t, ix_l, ix_loc, at_, len_t, len_l, len_scr, len_s, abs_i, int_i, int_b, int_s, str_i, str_s, bool_b, list_t, list_l, tuple_t, tuple_l, tuple_loc, list_loc, isi_, sum_l, max_ii, min_ii, slice_t, slice_l, slice_s, tn_int, tn_bl, tn_str, tn_non, tn_tup, tn_lst, cell_, strOk_of, atI_0, atI_1, atI_2, List.map_cons, List.map_nil, List.length_cons, List.length_nil, List.replicate_succ, List.replicate_zero, List.nil_append, List.cons_append, List.append_nil, List.getElem?_cons_zero, List.getElem?_cons_succ, List.set_cons_zero, List.set_cons_succ, Nat.reduceAdd, Nat.reduceSub, Nat.sub_self, Bool.not_true, Bool.not_false, if_true, if_false, reduceIte, Bool.false_eq_true, Bool.true_eq_false, true_and, and_true, decide_eq_true_eq, Bool.not_eq_true', decide_eq_false_iff_not, ne_eq, not_true_eq_false, not_false_eq_true, ofString_inj]
          rw [lines_map e]
          by_cases hc : c.length ≤ 4
          · have h4 : ¬ (4 : Int) < (c.map St1.d).length := by rw [List.length_map]; omega
            rw [if_pos hc] at hq
            simp only [gt_iff_lt, h4, s_seq, s_next, s_ret, s_retN, s_drop, s_ifS, s_asg, s_par, s_raise, s_for, rt_nx, rt_rt, rt_ex, s_gN, s_gT, s_gTl, setAll_nil, setAll_cons, wipe_nil, wipe_cons, s_start, s_var, s_c, s_bin, s_test, s_chain, s_tru, s_and, s_or, s_not, s_andV, s_orV, s_notV, s_if, s_nil, s_cons, s_tup, s_lst, s_neg, s_cb, s_itS, s_rng1, s_rng2, s_lc, s_yes, s_newL, s_part, s_nop, s_slice, s_rev, s_m1, s_call, s_app, s_setIx, s_dnew, s_done, s_dput, s_dget2, key_s, key_i, cellK_, tru_str, in_s, mul_ti, mul_li, s_onB, s_condB, tru_bl, tru_int, tru_non, tru_tup, tru_lst, add_ii, add_ss, add_tt, add_ll, sub_ii, mul_ii, mul_si, fdiv_ii, mod_ii, pow_ii, cmp_ii, eq_ii, eq_ss, ne_ii, ne_ss, is_nn, is_bb, is_in, is_sn, is_tn, is_ln, ix_t, ix_l, ix_loc, at_, len_t, len_l, len_scr, len_s, abs_i, int_i, int_b, int_s, str_i, str_s, bool_b, list_t, list_l, tuple_t, tuple_l, tuple_loc, list_loc, isi_, sum_l, max_ii, min_ii, slice_t, slice_l, slice_s, tn_int, tn_bl, tn_str, tn_non, tn_tup, tn_lst, cell_, strOk_of, atI_0, atI_1, atI_2, List.map_cons, List.map_nil, List.length_cons, List.length_nil, List.replicate_succ, List.replicate_zero, List.nil_append, List.cons_append, List.append_nil, List.getElem?_cons_zero, List.getElem?_cons_succ, List.set_cons_zero, List.set_cons_succ, Nat.reduceAdd, Nat.reduceSub, Nat.sub_self, Bool.not_true, Bool.not_false, if_true, if_false, reduceIte, Bool.false_eq_true, Bool.true_eq_false, true_and, and_true, decide_eq_true_eq, Bool.not_eq_true', decide_eq_false_iff_not, ne_eq, not_true_eq_false, not_false_eq_true, ofString_inj]
            refine ⟨⟨_, rfl⟩, ?_, hq⟩
            exact lb_steps' c
          · have h4 : (4 : Int) < (c.map St1.d).length := by rw [List.length_map]; omega
            rw [if_neg hc] at hq
            simp only [gt_iff_lt, h4, s_seq, s_next, s_ret, s_retN, s_drop, s_ifS, s_asg, s_par, s_raise, s_for, rt_nx, rt_rt, rt_ex, s_gN, s_gT, s_gTl, setAll_nil, setAll_cons, wipe_nil, wipe_cons, s_start, s_var, s_c, s_bin, s_test, s_chain, s_tru, s_and, s_or, s_not, s_andV, s_orV, s_notV, s_if, s_nil, s_cons, s_tup, s_lst, s_neg, s_cb, s_itS, s_rng1, s_rng2, s_lc, s_yes, s_newL, s_part, s_nop, s_slice, s_rev, s_m1, s_call, s_app, s_setIx, s_dnew, s_done, s_dput, s_dget2, key_s, key_i, cellK_, tru_str, in_s, mul_ti, mul_li, s_onB, s_condB, tru_bl, tru_int, tru_non, tru_tup, tru_lst, add_ii, add_ss, add_tt, add_ll, sub_ii, mul_ii, mul_si, fdiv_ii, mod_ii, pow_ii, cmp_ii, eq_ii, eq_ss, ne_ii, ne_ss, is_nn, is_bb, is_in, is_sn, is_tn, is_ln, ix_t, ix_l, ix_loc, at_, len_t, len_l, len_scr, len_s, abs_i, int_i, int_b, int_s, str_i, str_s, bool_b, list_t, list_l, tuple_t, tuple_l, tuple_loc, list_loc, isi_, sum_l, max_ii, min_ii, slice_t, slice_l, slice_s, tn_int, tn_bl, tn_str, tn_non, tn_tup, tn_lst, cell_, strOk_of, atI_0, atI_1, atI_2, List.map_cons, List.map_nil, List.length_cons, List.length_nil, List.replicate_succ, List.replicate_zero, List.nil_append, List.cons_append, List.append_nil, List.getElem?_cons_zero, List.getElem?_cons_succ, List.set_cons_zero, List.set_cons_succ, Nat.reduceAdd, Nat.reduceSub, Nat.sub_self, Bool.not_true, Bool.not_false, if_true, if_false, reduceIte, Bool.false_eq_true, Bool.true_eq_false, true_and, and_true, decide_eq_true_eq, Bool.not_eq_true', decide_eq_false_iff_not, ne_eq, not_true_eq_false, not_false_eq_true, ofString_inj]
            exact ⟨⟨_, rfl⟩, rfl, hq⟩
    · rintro x xs env S' K hK ⟨us, rest, kvs, a3, a4, h1, h2, rfl, rfl, ev⟩
      cases rest with
      | nil => cases h2
      | cons u rest =>
        injection h2 with h2 h3
        subst h2 h3
        have hu : u ∈ sizesN := by rw [← h1]; simp
        simp only [s_seq, s_next, s_ret, s_retN, s_drop, s_ifS, s_asg, s_par, s_raise, s_for, rt_nx, rt_rt, rt_ex, s_gN, s_gT, s_gTl, setAll_nil, setAll_cons, wipe_nil, wipe_cons, s_start, s_var, s_c, s_bin, s_test, s_chain, s_tru, s_and, s_or, s_not, s_andV, s_orV, s_notV, s_if, s_nil, s_cons, s_tup, s_lst, s_neg, s_cb, s_itS, s_rng1, s_rng2, s_lc, s_yes, s_newL, s_part, s_nop, s_slice, s_rev, s_m1, s_call, s_app, s_setIx, s_dnew, s_done, s_dput, s_dget2, key_s, key_i, cellK_, tru_str, in_s, mul_ti, mul_li, s_onB, s_condB, tru_bl, tru_int, tru_non, tru_tup, tru_lst, add_ii, add_ss, add_tt, add_ll, sub_ii, mul_ii, mul_si, fdiv_ii, mod_ii, pow_ii, cmp_ii, eq_ii, eq_ss, ne_ii, ne_ss, is_nn, is_bb, is_in, is_sn, is_tn, is_ln, ix_t, ix_l, ix_loc, at_, len_t, len_l, len_scr, len_s, abs_i, int_i, int_b, int_s, str_i, str_s, bool_b, list_t, list_l, tuple_t, tuple_l, tuple_loc, list_loc, isi_, sum_l, max_ii, min_ii, slice_t, slice_l, slice_s, tn_int, tn_bl, tn_str, tn_non, tn_tup, tn_lst, cell_, strOk_of, atI_0, atI_1, atI_2, List.map_cons, List.map_nil, List.length_cons, List.length_nil, List.replicate_succ, List.replicate_zero, List.nil_append, List.cons_append, List.append_nil, List.getElem?_cons_zero, List.getElem?_cons_succ, List.set_cons_zero, List.set_cons_succ, Nat.reduceAdd, Nat.reduceSub, Nat.sub_self, Bool.not_true, Bool.not_false, if_true, if_false, reduceIte, Bool.false_eq_true, Bool.true_eq_false, true_and, and_true, decide_eq_true_eq, Bool.not_eq_true', decide_eq_false_iff_not, ne_eq, not_true_eq_false, not_false_eq_true, ofString_inj]
        refine ⟨rfl, ?_⟩
        show forD _ _ _ (waysL.map D.str) _ _
        have hW : waysL.map D.str = everyWay.map fun w => D.str w.s := rfl
        rw [hW]
        refine forD_inv (fun xs env S' => ∃ (ws rw : List Way) (kvs : List (Key × D)) (a3 : Option Va), ws ++ rw = everyWay ∧ xs = rw.map (fun w => D.str w.s) ∧ env = [some (.d (.str z)), some (.d (.loc S.length)), a2, a3, some (.d (.int u)), none, none] ∧ S' = S ++ [.dct kvs] ∧ EvOk kvs (done2 us ++ ws.map (St1.steps u))) ?_ ?_ _ _ _ ⟨[], everyWay, _, _, rfl, rfl, rfl, rfl, by simpa using ev⟩
        · rintro env S' ⟨ws, rw, kvs, a3, g1, g2, rfl, rfl, ev⟩
          obtain rfl : rw = [] := by simpa using g2.symm
          rw [List.append_nil] at g1
          subst g1
          exact hK _ _ ⟨us ++ [u], rest, kvs, _, _, by simp [h1], rfl, rfl, rfl, by unfold done2 at ev ⊢; simpa using ev⟩
        · rintro x xs env S' K2 hK2 ⟨ws, rw, kvs, a3, g1, g2, rfl, rfl, ev⟩
          cases rw with
          | nil => cases g2
          | cons w rw =>
            injection g2 with g2 g3
            subst g2 g3
            have hn := nameS u hu w
            have hlt := tx_len (s := .steps u w) hu
            rw [← hn, len_app, len_app, len_app] at hlt
            simp only [s_seq, s_next, s_ret, s_retN, s_drop, s_ifS, s_asg, s_par, s_raise, s_for, rt_nx, rt_rt, rt_ex, s_gN, s_gT, s_gTl, setAll_nil, setAll_cons, wipe_nil, wipe_cons, s_start, s_var, s_c, s_bin, s_test, s_chain, s_tru, s_and, s_or, s_not, s_andV, s_orV, s_notV, s_if, s_nil, s_cons, s_tup, s_lst, s_neg, s_cb, s_itS, s_rng1, s_rng2, s_lc, s_yes, s_newL, s_part, s_nop, s_slice, s_rev, s_m1, s_call, s_app, s_setIx, s_dnew, s_done, s_dput, s_dget2, key_s, key_i, cellK_, tru_str, in_s, mul_ti, mul_li, s_onB, s_condB, tru_bl, tru_int, tru_non, tru_tup, tru_lst, add_ii, add_ss, add_tt, add_ll, sub_ii, mul_ii, mul_si, fdiv_ii, mod_ii, pow_ii, cmp_ii, eq_ii, eq_ss, ne_ii, ne_ss, is_nn, is_bb, is_in, is_sn, is_tn, is_ln, ix_t, ix_l, ix_loc, at_, len_t, len_l, len_scr, len_s, abs_i, int_i, int_b, int_s, str_i, str_s, bool_b, list_t, list_l, tuple_t, tuple_l, tuple_loc, list_loc, isi_, sum_l, max_ii, min_ii, slice_t, slice_l, slice_s, tn_int, tn_bl, tn_str, tn_non, tn_tup, tn_lst, cell_, strOk_of, atI_0, atI_1, atI_2, List.map_cons, List.map_nil, List.length_cons, List.length_nil, List.replicate_succ, List.replicate_zero, List.nil_append, List.cons_append, List.append_nil, List.getElem?_cons_zero, List.getElem?_cons_succ, List.set_cons_zero, List.set_cons_succ, Nat.reduceAdd, Nat.reduceSub, Nat.sub_self, Bool.not_true, Bool.not_false, if_true, if_false, reduceIte, Bool.false_eq_true, Bool.true_eq_false, true_and, and_true, decide_eq_true_eq, Bool.not_eq_true', decide_eq_false_iff_not, ne_eq, not_true_eq_false, not_false_eq_true, ofString_inj, st_get, st_set, log_small (Nat.le_trans (size_b hu).2 (by decide))]
            refine ⟨by omega, by omega, by rw [len_app]; omega, by rw [len_app, len_app]; omega, ?_⟩
            have hle := ev.len
            have : (done2 us ++ ws.map (St1.steps u)).length ≤ 2000 := by
              have hus : us.length ≤ 19 := by
                have := congrArg List.length h1
                simp [sizesN] at this; omega
              have hws : ws.length ≤ 6 := by
                have := congrArg List.length g1
                simp [everyWay] at this; omega
              have : ∀ us : List Nat, (us.flatMap fun u => everyWay.map (St1.steps u)).length = 6 * us.length := by
                intro us
                induction us with
                | nil => rfl
                | cons a r ih => rw [List.flatMap_cons, List.length_append, ih]; simp [everyWay]; omega
              unfold done2
              rw [List.length_append, List.length_append, this, List.length_map]
              have : (done1 [1, 2, 3]).length = 22 := by decide
              omega
            refine ⟨by omega, ?_⟩
            rw [hn]
            exact hK2 _ _ ⟨ws ++ [w], rw, _, _, by simp [g1], rfl, rfl, rfl, by
              have := ev.put (s := .steps u w) hu
              simpa [St1.d] using this⟩
  · rintro x xs env S' K hK ⟨ms, rest, kvs, a2, a3, h1, h2, rfl, rfl, ev⟩
    cases rest with
    | nil => cases h2
    | cons m rest =>
      injection h2 with h2 h3
      subst h2 h3
      have hm : m ∈ [1, 2, 3] := by rw [← h1]; simp
      have hm2 : 1 ≤ m ∧ m ≤ 3 := by simp at hm; omega
      have hn := nameT m hm
      have hlt := tx_len (s := .tens m) hm2
      rw [← hn, len_app] at hlt
      have hms : ms.length ≤ 3 := by
        have := congrArg List.length h1
        simp at this; omega
      have d1 : ∀ ms : List Nat, (done1 ms).length = 1 + 7 * ms.length := by
        intro ms
        unfold done1
        induction ms with
        | nil => rfl
        | cons a r ih => rw [List.flatMap_cons]; simp [everyWay] at ih ⊢; omega
      have hle := ev.len
      rw [d1] at hle
      simp only [s_seq, s_next, s_ret, s_retN, s_drop, s_ifS, s_asg, s_par, s_raise, s_for, rt_nx, rt_rt, rt_ex, s_gN, s_gT, s_gTl, setAll_nil, setAll_cons, wipe_nil, wipe_cons, s_start, s_var, s_c, s_bin, s_test, s_chain, s_tru, s_and, s_or, s_not, s_andV, s_orV, s_notV, s_if, s_nil, s_cons, s_tup, s_lst, s_neg, s_cb, s_itS, s_rng1, s_rng2, s_lc, s_yes, s_newL, s_part, s_nop, s_slice, s_rev, s_m1, s_call, s_app, s_setIx, s_dnew, s_done, s_dput, s_dget2, key_s, key_i, cellK_, tru_str, in_s, mul_ti, mul_li, s_onB, s_condB, tru_bl, tru_int, tru_non, tru_tup, tru_lst, add_ii, add_ss, add_tt, add_ll, sub_ii, mul_ii, mul_si, fdiv_ii, mod_ii, pow_ii, cmp_ii, eq_ii, eq_ss, ne_ii, ne_ss, is_nn, is_bb, is_in, is_sn, is_tn, is_ln, ix_t, ix_l, ix_loc, at_, len_t, len_l, len_scr, len_s, abs_i, int_i, int_b, int_s, str_i, str_s, bool_b, list_t, list_l, tuple_t, tuple_l, tuple_loc, list_loc, isi_, sum_l, max_ii, min_ii, slice_t, slice_l, slice_s, tn_int, tn_bl, tn_str, tn_non, tn_tup, tn_lst, cell_, strOk_of, atI_0, atI_1, atI_2, List.map_cons, List.map_nil, List.length_cons, List.length_nil, List.replicate_succ, List.replicate_zero, List.nil_append, List.cons_append, List.append_nil, List.getElem?_cons_zero, List.getElem?_cons_succ, List.set_cons_zero, List.set_cons_succ, Nat.reduceAdd, Nat.reduceSub, Nat.sub_self, Bool.not_true, Bool.not_false, if_true, if_false, reduceIte, Bool.false_eq_true, Bool.true_eq_false, true_and, and_true, decide_eq_true_eq, Bool.not_eq_true', decide_eq_false_iff_not, ne_eq, not_true_eq_false, not_false_eq_true, ofString_inj, st_get, st_set, log_small (show m ≤ 10000000 by omega)]
      refine ⟨by omega, by omega, by omega, ?_⟩
      rw [hn]
      have hW : waysL.map D.str = everyWay.map fun w => D.str w.s := rfl
      refine ⟨rfl, ?_⟩
      show forD _ _ _ (waysL.map D.str) _ _
      rw [hW]
      refine forD_inv (fun xs env S' => ∃ (ws rw : List Way) (kvs : List (Key × D)) (a3 : Option Va), ws ++ rw = everyWay ∧ xs = rw.map (fun w => D.str w.s) ∧ env = [some (.d (.str z)), some (.d (.loc S.length)), some (.d (.int m)), a3, none, none, none] ∧ S' = S ++ [.dct kvs] ∧ EvOk kvs (done1 ms ++ (St1.tens m :: ws.map (St1.figs m)))) ?_ ?_ _ _ _ ⟨[], everyWay, _, _, rfl, rfl, rfl, rfl, by simpa [St1.d] using ev.put (s := .tens m) hm2⟩
      · rintro env S' ⟨ws, rw, kvs, a3, g1, g2, rfl, rfl, ev⟩
        obtain rfl : rw = [] := by simpa using g2.symm
        rw [List.append_nil] at g1
        subst g1
        exact hK _ _ ⟨ms ++ [m], rest, kvs, _, _, by simp [h1], rfl, rfl, rfl, by unfold done1 at ev ⊢; simpa using ev⟩
      · rintro x xs env S' K2 hK2 ⟨ws, rw, kvs, a3, g1, g2, rfl, rfl, ev⟩
        cases rw with
        | nil => cases g2
        | cons w rw =>
          injection g2 with g2 g3
          subst g2 g3
          have hn := nameF m hm w
          have hlt := tx_len (s := .figs m w) hm2
          rw [← hn, len_app, len_app, len_app] at hlt
          have hle := ev.len
          have hws : ws.length ≤ 6 := by
            have := congrArg List.length g1
            simp [everyWay] at this; omega
          rw [List.length_append, d1, List.length_cons, List.length_map] at hle
          simp only [s_seq, s_next, s_ret, s_retN, s_drop, s_ifS, s_asg, s_par, s_raise, s_for, rt_nx, rt_rt, rt_ex, s_gN, s_gT, s_gTl, setAll_nil, setAll_cons, wipe_nil, wipe_cons, s_start, s_var, s_c, s_bin, s_test, s_chain, s_tru, s_and, s_or, s_not, s_andV, s_orV, s_notV, s_if, s_nil, s_cons, s_tup, s_lst, s_neg, s_cb, s_itS, s_rng1, s_rng2, s_lc, s_yes, s_newL, s_part, s_nop, s_slice, s_rev, s_m1, s_call, s_app, s_setIx, s_dnew, s_done, s_dput, s_dget2, key_s, key_i, cellK_, tru_str, in_s, mul_ti, mul_li, s_onB, s_condB, tru_bl, tru_int, tru_non, tru_tup, tru_lst, add_ii, add_ss, add_tt, add_ll, sub_ii, mul_ii, mul_si, fdiv_ii, mod_ii, pow_ii, cmp_ii, eq_ii, eq_ss, ne_ii, ne_ss, is_nn, is_bb, is_in, is_sn, is_tn, is_ln, ix_t, ix_l, ix_loc, at_, len_t, len_l, len_scr, len_s, abs_i, int_i, int_b, int_s, str_i, str_s, bool_b, list_t, list_l, tuple_t, tuple_l, tuple_loc, list_loc, isi_, sum_l, max_ii, min_ii, slice_t, slice_l, slice_s, tn_int, tn_bl, tn_str, tn_non, tn_tup, tn_lst, cell_, strOk_of, atI_0, atI_1, atI_2, List.map_cons, List.map_nil, List.length_cons, List.length_nil, List.replicate_succ, List.replicate_zero, List.nil_append, List.cons_append, List.append_nil, List.getElem?_cons_zero, List.getElem?_cons_succ, List.set_cons_zero, List.set_cons_succ, Nat.reduceAdd, Nat.reduceSub, Nat.sub_self, Bool.not_true, Bool.not_false, if_true, if_false, reduceIte, Bool.false_eq_true, Bool.true_eq_false, true_and, and_true, decide_eq_true_eq, Bool.not_eq_true', decide_eq_false_iff_not, ne_eq, not_true_eq_false, not_false_eq_true, ofString_inj, st_get, st_set, log_small (show m ≤ 10000000 by omega)]
          refine ⟨by omega, by omega, by rw [len_app]; omega, by rw [len_app, len_app]; omega, by omega, ?_⟩
          rw [hn]
          exact hK2 _ _ ⟨ws ++ [w], rw, _, _, by simp [g1], rfl, rfl, rfl, by
            have := ev.put (s := .figs m w) hm2
            simpa [St1.d] using this⟩
end Fs
end
section
set_option Elab.async false
set_option linter.all false
set_option maxRecDepth 100000
set_option maxHeartbeats 4000000
namespace Fs
open PySem PySem.Spec PyProof.Rows L2 LamX

/-! ### what is no text of a chain -/
theorem rdOf_text {z : Str} {c : List St1} (h : rdOf z = some c) : z = chTx c := by
  unfold rdOf at h
  split at h
  · rename_i e
    cases h
    rw [e]; rfl
  · split at h
    · rename_i e
      split at h
      · cases h
        obtain ⟨_, h2⟩ := rdLines_ok e
        have j := join_split' z 10
        rw [← nl_sg, h2] at j
        unfold chTx
        rw [if_neg (fun z => by
          rw [z] at h2
          exact split_ne _ _ h2)]
        exact j.symm
      · cases h
    · cases h
def edgeB (x : Str) : Bool := match x.cps.toList.head?, x.cps.toList.getLast? with
  | some a, some b => a != 32 && b != 32 && b != 10
  | _, _ => false
theorem edge_all : ∀ s ∈ allSt, edgeB s.tx = true := by decide +kernel
theorem edge_glue {c : Nat} : ∀ {ps : List Str}, ps ≠ [] → (∀ p ∈ ps, edgeB p = true) → ∃ a b, (glue c ps).head? = some a ∧ (glue c ps).getLast? = some b ∧ a ≠ 32 ∧ b ≠ 32 ∧ b ≠ 10
  | [], h, _ => absurd rfl h
  | [p], _, h => by
    have := h p (by simp)
    unfold edgeB at this
    split at this
    · rename_i a b e1 e2
      simp only [Bool.and_eq_true, bne_iff_ne] at this
      exact ⟨a, b, e1, e2, this.1.1, this.1.2, this.2⟩
    · cases this
  | p :: q :: r, _, h => by
    obtain ⟨a, b, h1, h2, h3, h4, h5⟩ := edge_glue (c := c) (ps := q :: r) (by simp) fun x hx => h x (List.mem_cons_of_mem _ hx)
    have := h p (by simp)
    unfold edgeB at this
    split at this
    · rename_i a' b' e1 e2
      simp only [Bool.and_eq_true, bne_iff_ne] at this
      refine ⟨a', b, ?_, ?_, this.1.1, h4, h5⟩
      · show (p.cps.toList ++ c :: glue c (q :: r)).head? = _
        rw [List.head?_append, e1]
        rfl
      · show (p.cps.toList ++ c :: glue c (q :: r)).getLast? = _
        rw [List.getLast?_append, List.getLast?_cons, h2]
        rfl
    · cases this
theorem chTx_edge {c : List St1} (h : ChOk c) : edgeB (chTx c) = true := by
  unfold chTx
  by_cases h0 : c = []
  · rw [if_pos h0]; decide +kernel
  · rw [if_neg h0]
    obtain ⟨a, b, h1, h2, h3, h4, h5⟩ := edge_glue (c := 10) (ps := c.map St1.tx) (by simpa using h0) fun p hp => by
      obtain ⟨s, hs, rfl⟩ := List.mem_map.mp hp
      exact edge_all s (ok_all (h.2 s hs))
    rw [← join_glue] at h1 h2
    unfold edgeB
    rw [nl_sg, txt_join, h1, h2]
    simp [h3, h4, h5]
theorem no_edge {z : Str} (h : edgeB z = false) : rdOf z = none := by
  cases e : rdOf z with
  | none => rfl
  | some c =>
    have := chTx_edge (rdOf_ok e)
    rw [← rdOf_text e, h] at this
    cases this
theorem edge_nl (x : Str) : edgeB (x ++ Str.ofString "\n") = false := by
  have : (x ++ Str.ofString "\n" : Str).cps.toList = x.cps.toList ++ [10] := by
    rw [Str.cps_append, Array.toList_append, nl_sg]; rfl
  unfold edgeB
  rw [this, List.getLast?_append]
  split
  · rename_i e1 e2
    cases e2
    simp
  · rfl
theorem edge_sp (x : Str) : edgeB (x ++ Str.ofString " ") = false := by
  have : (x ++ Str.ofString " " : Str).cps.toList = x.cps.toList ++ [32] := by
    rw [Str.cps_append, Array.toList_append, sp_sg]; rfl
  unfold edgeB
  rw [this, List.getLast?_append]
  split
  · rename_i e1 e2
    cases e2
    simp
  · rfl
theorem sp_edge (x : Str) : edgeB (Str.ofString " " ++ x) = false := by
  have : (Str.ofString " " ++ x : Str).cps.toList = 32 :: x.cps.toList := by
    rw [Str.cps_append, Array.toList_append, sp_sg]; rfl
  unfold edgeB
  rw [this]
  split
  · rename_i e1 e2
    cases e1
    simp
  · rfl
theorem chTx_len {c : List St1} (h : ChOk c) : (chTx c).length ≤ 200 := by
  unfold chTx
  split
  · decide +kernel
  · have h1 := join_len (Str.ofString "\n") (c.map St1.tx)
    have h2 := sum_len (n := 30) (ys := c.map St1.tx) fun y hy => by
      obtain ⟨s, hs, rfl⟩ := List.mem_map.mp hy
      exact tx_len (h.2 s hs)
    have e5 : (Str.ofString "\n").length = 1 := by decide +kernel
    rw [List.length_map] at h1 h2
    rw [e5] at h1
    have := h.1
    omega
theorem glue_ok {c : Nat} (hc : c < 0x110000) : ∀ {ps : List Str}, (∀ p ∈ ps, PyData.strOk p = true) → ∀ x ∈ glue c ps, x < 0x110000
  | [], _, x, hx => by cases hx
  | [p], h, x, hx => strOk_iff.mp (h p (by simp)) x hx
  | p :: q :: r, h, x, hx => by
    have hx : x ∈ p.cps.toList ++ c :: glue c (q :: r) := hx
    rcases List.mem_append.mp hx with hx | hx
    · exact strOk_iff.mp (h p (by simp)) x hx
    · rcases List.mem_cons.mp hx with e | hx
      · omega
      · exact glue_ok hc (fun y hy => h y (List.mem_cons_of_mem _ hy)) x hx
theorem chTx_ok {c : List St1} (h : ChOk c) : PyData.strOk (chTx c) = true := by
  unfold chTx
  split
  · exact strOk_of _
  · refine strOk_iff.mpr fun x hx => ?_
    rw [nl_sg, txt_join, join_glue] at hx
    refine glue_ok (by decide) (fun p hp => ?_) x hx
    obtain ⟨s, hs, rfl⟩ := List.mem_map.mp hp
    exact tx_ok (h.2 s hs)
theorem slice_sub (z : Str) (lo hi : Option Int) : (Txt.slice z lo hi).cps.toList.Sublist z.cps.toList := by
  rw [← C8.cutS_slice]
  unfold cutS
  simp only
  exact (List.take_sublist _ _).trans (List.drop_sublist _ _)
theorem slice_len (z : Str) (lo hi : Option Int) : (Txt.slice z lo hi).length ≤ z.length := by
  have := (slice_sub z lo hi).length_le
  simpa [Str.length] using this
theorem slice_ok {z : Str} (h : PyData.strOk z = true) (lo hi : Option Int) : PyData.strOk (Txt.slice z lo hi) = true := strOk_sub h fun c hc => (slice_sub z lo hi).subset hc
theorem app_ok {x y : Str} (h1 : PyData.strOk x = true) (h2 : PyData.strOk y = true) : PyData.strOk (x ++ y : Str) = true := by
  refine strOk_iff.mpr fun c hc => ?_
  rw [Str.cps_append, Array.toList_append] at hc
  rcases List.mem_append.mp hc with hc | hc
  · exact strOk_iff.mp h1 c hc
  · exact strOk_iff.mp h2 c hc
def toldD (z : Str) : D := match rdOf z with
  | some c => .tup [chD c, .str (Str.ofString "")]
  | none => .tup [.non, .str (Str.ofString "text")]
theorem told_at {er : Str → Addr} {nmT : Addr → Option D} (hT : nmT (er (Str.ofString "InvalidText")) = some (.tup [.non, .str (Str.ofString "text")])) {z : Str} {i : Nat} {env : En} {S : Store} {Q : QD} {E : EX} (hi : env[i]? = some (some (.d (.str z)))) (hl : z.length ≤ 1000000) (hk : PyData.strOk z = true) (hq : Q (toldD z) S) :
    dTold (fun d => .tup [d, .str (Str.ofString "")]) nmT (dCall 1 (sp_read_chain er) (dCons (dVar i) dNil)) env S Q E := by
  unfold dTold
  simp only [s_call, s_cons, s_var, hi, s_nil, List.length_cons, List.length_nil, List.map_cons, List.map_nil]
  refine ⟨trivial, .str z, rfl, hk, fun h => absurd rfl (h z), fun y e => ?_⟩
  injection e with e
  subst e
  refine ⟨hl, fun c e => ?_, fun e => ?_⟩
  · unfold toldD at hq
    rw [e] at hq
    exact hq
  · unfold toldD at hq
    rw [e] at hq
    simp only [hT]
    exact hq
theorem err_at {er : Str → Addr} {nm : Addr → Option D} (hT : nm (er (Str.ofString "InvalidText")) = some (.str (Str.ofString "text"))) {z : Str} {i : Nat} {env : En} {S : Store} {Q : QD} {E : EX} (hi : env[i]? = some (some (.d (.str z)))) (hl : z.length ≤ 1000000) (hk : PyData.strOk z = true) (hn : rdOf z = none) (hq : Q (.str (Str.ofString "text")) S) :
    dTold (fun _ => .str (Str.ofString "")) nm (dCall 1 (sp_read_chain er) (dCons (dVar i) dNil)) env S Q E := by
  unfold dTold
  simp only [s_call, s_cons, s_var, hi, s_nil, List.length_cons, List.length_nil, List.map_cons, List.map_nil]
  refine ⟨trivial, .str z, rfl, hk, fun h => absurd rfl (h z), fun y e => ?_⟩
  injection e with e
  subst e
  refine ⟨hl, fun c e => ?_, fun e => ?_⟩
  · rw [hn] at e; cases e
  · simp only [hT]
    exact hq
/-- a def that refuses what is no text -/
def RefT (rv : RV) (nm : Addr → Option D) (v : Va) : Prop := rv.ok v ∧ ∀ d S, d.pl 9 = true → ((∀ z, d ≠ .str z) ∨ ∃ z, d = .str z ∧ z.length ≤ 1000000 ∧ rdOf z = none) → Refuses rv nm v (Str.ofString "text") d S
def RefC (rv : RV) (nm : Addr → Option D) (v : Va) : Prop := rv.ok v ∧ ∀ d S, d.pl 9 = true → goodChain d = false → Refuses rv nm v (Str.ofString "chain") d S
def t_law (er : Str → Addr) (fa : Str → Addr) (rn__law_error : TED → TED) (rn__law_told : TED → TED) (sp__law_refused : SpD) : TSD :=
  (dSeq (dFor (dRng1 (dCons (dBin addD (dC (.int 1)) (dCB minD (dCons (dCB lenD (dCons (dVar 0) dNil)) (dCons (dC (.int 8)) dNil)))) dNil)) (gN 1)
    (dSeq (dAsg (dCall 2 sp__law_source (dCons (dVar 0) (dCons (dVar 1) dNil))) (gN 2))
    (dSeq (dAsg (dCall 2 sp__law_chain (dCons (dVar 2) (dCons (dC (.int 4)) dNil))) (gN 3))
    (dSeq (dAsg (dCall 1 sp__law_text (dCons (dVar 3) dNil)) (gN 4))
    (dSeq (dIfS (dOr (dTest (dBin neD (dCall 1 (sp_chain_text er) (dCons (dVar 3) dNil)) (dVar 4))) (dTest (dBin neD (dCall 1 (sp_read_chain er) (dCons (dVar 4) dNil)) (dVar 3))))
      (dRet (dC (.bl false)))
      dNext)
    (dSeq (dFor (dRng1 (dCons (dC (.int 14)) dNil)) (gN 5)
      (dSeq (dAsg (dCall 2 sp__law_draw (dCons (dVar 2) (dCons (dBin addD (dCB lenD (dCons (dVar 4) dNil)) (dC (.int 1))) dNil))) (gN 6))
      (dSeq (dAsg (dCall 2 sp__law_choice (dCons (dVar 2) (dCons (dLst (dCons (dC (.str "")) (dCons (dC (.str " ")) (dCons (dC (.str "0")) (dCons (dC (.str "1")) (dCons (dC (.str "\n")) (dCons (dC (.str "turn")) (dCons (dC (.str "\nturn")) (dCons (dC (.str "near")) (dCons (dC (.str "tens 2\n")) (dCons (dC (.str "x")) (dCons (dC (.str "-")) (dCons (dC (.str "none")) dNil))))))))))))) dNil))) (gN 7))
      (dSeq (dAsg (dBin addD (dBin addD (dSlice (dVar 4) dNoP (dPart (dVar 6))) (dVar 7)) (dSlice (dVar 4) (dPart (dBin addD (dVar 6) (dCall 2 sp__law_draw (dCons (dVar 2) (dCons (dC (.int 2)) dNil))))) dNoP)) (gN 8))
      (dSeq (dAsg (dCall 1 sp__law_reading (dCons (dVar 8) dNil)) (gN 9))
      (dIfS (dTest (dBin neD (rn__law_told (dCall 1 (sp_read_chain er) (dCons (dVar 8) dNil))) (dIf (dTest (dBin (isD true) (dVar 9) (dC .non))) (dTup (dCons (dVar 9) (dCons (dC (.str "")) dNil))) (dTup (dCons (dC .non) (dCons (dC (.str "text")) dNil))))))
        (dRet (dC (.bl false)))
        dNext))))))
    (dSeq (dAsg (dLst (dCons (dC .non) (dCons (dC (.int 5)) (dCons (dC (.bl true)) (dCons (dTup (dCons (dVar 4) dNil)) (dCons (dLst (dCons (dVar 4) dNil)) (dCons (dC (.str "")) (dCons (dBin addD (dVar 4) (dC (.str "\n"))) (dCons (dBin addD (dC (.str " ")) (dVar 4)) (dCons (dBin addD (dVar 4) (dC (.str " "))) (dCons (dC (.str "none\nturn")) (dCons (dM1 joinD (dC (.str "\n")) (dBin mulD (dLst (dCons (dC (.str "turn")) dNil)) (dC (.int 5)))) dNil)))))))))))) (gN 10))
    (dIfS (dOr (dNot (dTru (dCall 3 sp__law_refused (dCons (dC (.ref (fa "read_chain"))) (dCons (dVar 10) (dCons (dC (.str "text")) dNil)))))) (dNot (dTru (dCall 3 sp__law_refused (dCons (dC (.ref (fa "chain_text"))) (dCons (dCall 0 sp__law_bad_chains dNil) (dCons (dC (.str "chain")) dNil)))))))
      (dRet (dC (.bl false)))
      dNext))))))))
  (dSeq (dAsg (dTup (dCons (dTup (dCons (dTup (dCons (dC (.str "figures")) (dCons (dC (.int 2)) (dCons (dC (.str "near")) dNil)))) (dCons (dTup (dCons (dC (.str "figures")) (dCons (dC (.int 1)) (dCons (dC (.str "near")) dNil)))) dNil))) (dCons (dTup (dCons (dTup (dCons (dC (.str "tens")) (dCons (dC (.int 1)) dNil))) (dCons (dTup (dCons (dC (.str "steps")) (dCons (dC (.int 100)) (dCons (dC (.str "zero")) dNil)))) dNil))) dNil))) (gT [11, 12]))
  (dSeq (dIfS (dOr (dTest (dBin neD (dCall 1 (sp_chain_text er) (dCons (dVar 11) dNil)) (dC (.str "figures 2 near\nfigures 1 near")))) (dOr (dTest (dBin neD (dCall 1 (sp_chain_text er) (dCons (dTup dNil) dNil)) (dC (.str "none")))) (dTest (dBin neD (dCall 1 (sp_chain_text er) (dCons (dVar 12) dNil)) (dC (.str "tens 1\nsteps 100 zero"))))))
    (dRet (dC (.bl false)))
    dNext)
  (dSeq (dAsg (dLst (dCons (dC (.str "tens 01")) (dCons (dC (.str "tens 4")) (dCons (dC (.str "steps 3 near")) (dCons (dC (.str "figures 1")) (dCons (dC (.str "turn 1")) (dCons (dC (.str "figures 1 Near")) (dCons (dC (.str "steps +10 low")) (dCons (dC (.str "tens  1")) (dCons (dC (.str "tens -1")) dNil)))))))))) (gN 10))
  (dSeq (dAsg (dBin addD (dVar 10) (dLst (dCons (dC (.str "steps 1000000000 near")) (dCons (dC (.str "figures one near")) (dCons (dC (.str "steps 010 low")) (dCons (dC (.str "TURN")) dNil)))))) (gN 10))
  (dRet (dAndV (dBin eqD (dLc (dItS (dVar 10)) [13] (gN 13) (dTest (dBin neD (rn__law_error (dCall 1 (sp_read_chain er) (dCons (dVar 13) dNil))) (dC (.str "text")))) (dVar 13)) (dLst dNil)) (dBin eqD (dCall 1 (sp_read_chain er) (dCons (dC (.str "turn")) dNil)) (dTup (dCons (dTup (dCons (dC (.str "turn")) dNil)) dNil))))))))))
theorem ct_at {er : Str → Addr} {c : List St1} (hc : ChOk c) {S : Store} {Q : QD} {E : EX} (hq : Q (.str (chTx c)) S) : sp_chain_text er [.d (chD c)] S Q E := by
  have g : goodChain (chD c) = true := goodChain_iff.mpr ⟨c, hc, rfl⟩
  refine ⟨_, rfl, pl_mono (m := 2) (n := 9) (by decide) _ ChOk.pl, (fun z => by rw [g] at z; cases z), fun c' h' e => ?_⟩
  rw [← chD_inj e]; exact hq
theorem rc_at {er : Str → Addr} {z : Str} {c : List St1} (hr : rdOf z = some c) (hl : z.length ≤ 1000000) (hk : PyData.strOk z = true) {S : Store} {Q : QD} {E : EX} (hq : Q (chD c) S) : sp_read_chain er [.d (.str z)] S Q E := by
  refine ⟨_, rfl, hk, fun h => absurd rfl (h z), fun y e => ?_⟩
  injection e with e
  subst e
  refine ⟨hl, fun c' e => ?_, fun e => ?_⟩
  · rw [hr] at e; cases e; exact hq
  · rw [hr] at e; cases e
theorem toldD_pl {z : Str} : (toldD z).pl 9 = true := by
  unfold toldD
  cases e : rdOf z with
  | none => decide +kernel
  | some c =>
    have := pl_mono (m := 2) (n := 8) (by decide) _ (ChOk.pl (c := c))
    have h2 : D.pl 8 (.str (Str.ofString "")) = true := by decide +kernel
    show D.pls 8 [chD c, .str (Str.ofString "")] = true
    simp only [D.pls, this, h2, Bool.and_true]
def odds1 : List Str := ["tens 01", "tens 4", "steps 3 near", "figures 1", "turn 1", "figures 1 Near", "steps +10 low", "tens  1", "tens -1", "steps 1000000000 near", "figures one near", "steps 010 low", "TURN"].map Str.ofString
theorem odds1_no : ∀ z ∈ odds1, rdOf z = none ∧ z.length ≤ 100 := by decide +kernel
theorem no_1 : rdOf (Str.ofString "") = none := by decide +kernel
theorem no_2 : rdOf (Str.ofString "none\nturn") = none := by decide +kernel
theorem no_3 : rdOf (Txt.join (Str.ofString "\n") [Str.ofString "turn", Str.ofString "turn", Str.ofString "turn", Str.ofString "turn", Str.ofString "turn"]) = none := by decide +kernel
theorem len_3 : (Txt.join (Str.ofString "\n") [Str.ofString "turn", Str.ofString "turn", Str.ofString "turn", Str.ofString "turn", Str.ofString "turn"]).length ≤ 100 ∧ PyData.strOk (Txt.join (Str.ofString "\n") [Str.ofString "turn", Str.ofString "turn", Str.ofString "turn", Str.ofString "turn", Str.ofString "turn"]) = true := by decide +kernel
theorem signs_len : ∀ z ∈ (["", " ", "0", "1", "\n", "turn", "\nturn", "near", "tens 2\n", "x", "-", "none"].map Str.ofString), z.length ≤ 10 := by decide +kernel
theorem p_law_k11 {er fa : Str → Addr} {rv : RV} {nm nmT : Addr → Option D} (hT : nm (er (Str.ofString "InvalidText")) = some (.str (Str.ofString "text"))) (hTT : nmT (er (Str.ofString "InvalidText")) = some (.tup [.non, .str (Str.ofString "text")]))
    (h1 : RefT rv nm (.d (.ref (fa (Str.ofString "read_chain"))))) (h2 : RefC rv nm (.d (.ref (fa (Str.ofString "chain_text")))))
    (as : List Va) (S : Store) (Q : QD) (E : EX) (h : spLaw as S Q E) : t_law er fa (dTold (fun _ => .str (Str.ofString "")) nm) (dTold (fun d => .tup [d, .str (Str.ofString "")]) nmT) (sp__law_refused rv nm) (rtE Q E) (startD 14 as) S := by
  obtain ⟨ns, rfl, hn, hb, rfl, hq⟩ := h
  simp only [t_law, s_seq, s_next, s_ret, s_retN, s_drop, s_ifS, s_asg, s_par, s_raise, s_for, rt_nx, rt_rt, rt_ex, s_gN, s_gT, s_gTl, setAll_nil, setAll_cons, wipe_nil, wipe_cons, s_start, s_var, s_c, s_bin, s_test, s_chain, s_tru, s_and, s_or, s_not, s_andV, s_orV, s_notV, s_if, s_nil, s_cons, s_tup, s_lst, s_neg, s_cb, s_itS, s_rng1, s_rng2, s_lc, s_yes, s_newL, s_part, s_nop, s_slice, s_rev, s_m1, s_call, s_app, s_setIx, s_dnew, s_done, s_dput, s_dget2, key_s, key_i, cellK_, tru_str, in_s, mul_ti, mul_li, s_onB, s_condB, tru_bl, tru_int, tru_non, tru_tup, tru_lst, add_ii, add_ss, add_tt, add_ll, sub_ii, mul_ii, mul_si, fdiv_ii, mod_ii, pow_ii, cmp_ii, eq_ii, eq_ss, ne_ii, ne_ss, is_nn, is_bb, is_in, is_sn, is_tn, is_ln, ix_t, ix_l, ix_loc, at_, len_t, len_l, len_scr, len_s, abs_i, int_i, int_b, int_s, str_i, str_s, bool_b, list_t, list_l, tuple_t, tuple_l, tuple_loc, list_loc, isi_, sum_l, max_ii, min_ii, slice_t, slice_l, slice_s, tn_int, tn_bl, tn_str, tn_non, tn_tup, tn_lst, cell_, strOk_of, atI_0, atI_1, atI_2, List.map_cons, List.map_nil, List.length_cons, List.length_nil, List.replicate_succ, List.replicate_zero, List.nil_append, List.cons_append, List.append_nil, List.getElem?_cons_zero, List.getElem?_cons_succ, List.set_cons_zero, List.set_cons_succ, Nat.reduceAdd, Nat.reduceSub, Nat.sub_self, Bool.not_true, Bool.not_false, if_true, if_false, reduceIte, Bool.false_eq_true, Bool.true_eq_false, true_and, and_true, decide_eq_true_eq, Bool.not_eq_true', decide_eq_false_iff_not, ne_eq, not_true_eq_false, not_false_eq_true, ofString_inj]
  refine ⟨⟨by omega, by omega⟩, ?_⟩
  refine forD_inv (fun xs env S => (∃ a1 a2 a3 a4 a5 a6 a7 a8 a9 a10, env = [some (.d (.scr ns)), a1, a2, a3, a4, a5, a6, a7, a8, a9, a10, none, none, none]) ∧ ∀ x ∈ xs, ∃ k : Nat, x = .int k ∧ k ≤ 8) ?_ ?_ _ _ _ ⟨⟨_, _, _, _, _, _, _, _, _, _, rfl⟩, fun x hx => ?_⟩
  · -- behind the loop
    rintro env S ⟨⟨a1, a2, a3, a4, a5, a6, a7, a8, a9, a10, rfl⟩, _⟩
    simp only [s_seq, s_next, s_ret, s_retN, s_drop, s_ifS, s_asg, s_par, s_raise, s_for, rt_nx, rt_rt, rt_ex, s_gN, s_gT, s_gTl, setAll_nil, setAll_cons, wipe_nil, wipe_cons, s_start, s_var, s_c, s_bin, s_test, s_chain, s_tru, s_and, s_or, s_not, s_andV, s_orV, s_notV, s_if, s_nil, s_cons, s_tup, s_lst, s_neg, s_cb, s_itS, s_rng1, s_rng2, s_lc, s_yes, s_newL, s_part, s_nop, s_slice, s_rev, s_m1, s_call, s_app, s_setIx, s_dnew, s_done, s_dput, s_dget2, key_s, key_i, cellK_, tru_str, in_s, mul_ti, mul_li, s_onB, s_condB, tru_bl, tru_int, tru_non, tru_tup, tru_lst, add_ii, add_ss, add_tt, add_ll, sub_ii, mul_ii, mul_si, fdiv_ii, mod_ii, pow_ii, cmp_ii, eq_ii, eq_ss, ne_ii, ne_ss, is_nn, is_bb, is_in, is_sn, is_tn, is_ln, ix_t, ix_l, ix_loc, at_, len_t, len_l, len_scr, len_s, abs_i, int_i, int_b, int_s, str_i, str_s, bool_b, list_t, list_l, tuple_t, tuple_l, tuple_loc, list_loc, isi_, sum_l, max_ii, min_ii, slice_t, slice_l, slice_s, tn_int, tn_bl, tn_str, tn_non, tn_tup, tn_lst, cell_, strOk_of, atI_0, atI_1, atI_2, List.map_cons, List.map_nil, List.length_cons, List.length_nil, List.replicate_succ, List.replicate_zero, List.nil_append, List.cons_append, List.append_nil, List.getElem?_cons_zero, List.getElem?_cons_succ, List.set_cons_zero, List.set_cons_succ, Nat.reduceAdd, Nat.reduceSub, Nat.sub_self, Bool.not_true, Bool.not_false, if_true, if_false, reduceIte, Bool.false_eq_true, Bool.true_eq_false, true_and, and_true, decide_eq_true_eq, Bool.not_eq_true', decide_eq_false_iff_not, ne_eq, not_true_eq_false, not_false_eq_true, ofString_inj, sizeLine_eq, Nat.reduceLeDiff, Int.reduceToNat, Int.reducePow, Int.reduceAdd, Int.reduceSub, Int.reduceNeg, Int.reduceMul]
    refine ct_at (c := [.figs 2 .near, .figs 1 .near]) ⟨by decide, by simp [St1.ok]⟩ ?_
    have e1 : chTx [.figs 2 .near, .figs 1 .near] = Str.ofString "figures 2 near\nfigures 1 near" := by decide +kernel
    rw [e1]
    refine ne_self (strOk_of _) ?_
    simp only [s_onB, Bool.false_eq_true, if_false]
    refine ct_at (c := []) ⟨by decide, by simp⟩ ?_
    refine ne_self (strOk_of _) ?_
    simp only [s_onB, Bool.false_eq_true, if_false]
    refine ct_at (c := [.tens 1, .steps 100 .zero]) ⟨by decide, by simp [St1.ok, sizesN]⟩ ?_
    have e2 : chTx [.tens 1, .steps 100 .zero] = Str.ofString "tens 1\nsteps 100 zero" := by decide +kernel
    rw [e2]
    refine ne_self (strOk_of _) ?_
    simp only [s_onB, Bool.false_eq_true, if_false]
    refine lcD_inv (fun xs acc S' => acc = [] ∧ S' = S ∧ ∀ x ∈ xs, x ∈ odds1.map D.str) ?_ ?_ (odds1.map D.str) _ _ ⟨rfl, rfl, fun x h => h⟩
    · rintro acc S' ⟨rfl, rfl, _⟩
      refine eq_self' (by decide +kernel) ?_
      simp only [s_condB, if_true]
      refine rc_at (c := [.turn]) (by decide +kernel) (by decide +kernel) (strOk_of _) ?_
      exact eq_self' (by decide +kernel) (hq S')
    · rintro x xs acc S' K hK ⟨rfl, rfl, hx⟩
      obtain ⟨z, hz, rfl⟩ := List.mem_map.mp (hx x List.mem_cons_self)
      obtain ⟨n1, n2⟩ := odds1_no z hz
      have zk : PyData.strOk z = true := by
        obtain ⟨y, _, rfl⟩ := List.mem_map.mp hz
        exact strOk_of _
      simp only [s_seq, s_next, s_ret, s_retN, s_drop, s_ifS, s_asg, s_par, s_raise, s_for, rt_nx, rt_rt, rt_ex, s_gN, s_gT, s_gTl, setAll_nil, setAll_cons, wipe_nil, wipe_cons, s_start, s_var, s_c, s_bin, s_test, s_chain, s_tru, s_and, s_or, s_not, s_andV, s_orV, s_notV, s_if, s_nil, s_cons, s_tup, s_lst, s_neg, s_cb, s_itS, s_rng1, s_rng2, s_lc, s_yes, s_newL, s_part, s_nop, s_slice, s_rev, s_m1, s_call, s_app, s_setIx, s_dnew, s_done, s_dput, s_dget2, key_s, key_i, cellK_, tru_str, in_s, mul_ti, mul_li, s_onB, s_condB, tru_bl, tru_int, tru_non, tru_tup, tru_lst, add_ii, add_ss, add_tt, add_ll, sub_ii, mul_ii, mul_si, fdiv_ii, mod_ii, pow_ii, cmp_ii, eq_ii, eq_ss, ne_ii, ne_ss, is_nn, is_bb, is_in, is_sn, is_tn, is_ln, ix_t, ix_l, ix_loc, at_, len_t, len_l, len_scr, len_s, abs_i, int_i, int_b, int_s, str_i, str_s, bool_b, list_t, list_l, tuple_t, tuple_l, tuple_loc, list_loc, isi_, sum_l, max_ii, min_ii, slice_t, slice_l, slice_s, tn_int, tn_bl, tn_str, tn_non, tn_tup, tn_lst, cell_, strOk_of, atI_0, atI_1, atI_2, List.map_cons, List.map_nil, List.length_cons, List.length_nil, List.replicate_succ, List.replicate_zero, List.nil_append, List.cons_append, List.append_nil, List.getElem?_cons_zero, List.getElem?_cons_succ, List.set_cons_zero, List.set_cons_succ, Nat.reduceAdd, Nat.reduceSub, Nat.sub_self, Bool.not_true, Bool.not_false, if_true, if_false, reduceIte, Bool.false_eq_true, Bool.true_eq_false, true_and, and_true, decide_eq_true_eq, Bool.not_eq_true', decide_eq_false_iff_not, ne_eq, not_true_eq_false, not_false_eq_true, ofString_inj]
      refine err_at hT rfl (by omega) zk n1 ?_
      refine ne_self (strOk_of _) ?_
      simp only [s_onB, Bool.false_eq_true, if_false]
      exact hK _ _ ⟨rfl, rfl, fun y hy => hx y (List.mem_cons_of_mem _ hy)⟩
  · rintro x xs env S K hK ⟨⟨a1, a2, a3, a4, a5, a6, a7, a8, a9, a10, rfl⟩, hx⟩
    obtain ⟨k, rfl, hk⟩ := hx x List.mem_cons_self
    simp only [s_seq, s_next, s_ret, s_retN, s_drop, s_ifS, s_asg, s_par, s_raise, s_for, rt_nx, rt_rt, rt_ex, s_gN, s_gT, s_gTl, setAll_nil, setAll_cons, wipe_nil, wipe_cons, s_start, s_var, s_c, s_bin, s_test, s_chain, s_tru, s_and, s_or, s_not, s_andV, s_orV, s_notV, s_if, s_nil, s_cons, s_tup, s_lst, s_neg, s_cb, s_itS, s_rng1, s_rng2, s_lc, s_yes, s_newL, s_part, s_nop, s_slice, s_rev, s_m1, s_call, s_app, s_setIx, s_dnew, s_done, s_dput, s_dget2, key_s, key_i, cellK_, tru_str, in_s, mul_ti, mul_li, s_onB, s_condB, tru_bl, tru_int, tru_non, tru_tup, tru_lst, add_ii, add_ss, add_tt, add_ll, sub_ii, mul_ii, mul_si, fdiv_ii, mod_ii, pow_ii, cmp_ii, eq_ii, eq_ss, ne_ii, ne_ss, is_nn, is_bb, is_in, is_sn, is_tn, is_ln, ix_t, ix_l, ix_loc, at_, len_t, len_l, len_scr, len_s, abs_i, int_i, int_b, int_s, str_i, str_s, bool_b, list_t, list_l, tuple_t, tuple_l, tuple_loc, list_loc, isi_, sum_l, max_ii, min_ii, slice_t, slice_l, slice_s, tn_int, tn_bl, tn_str, tn_non, tn_tup, tn_lst, cell_, strOk_of, atI_0, atI_1, atI_2, List.map_cons, List.map_nil, List.length_cons, List.length_nil, List.replicate_succ, List.replicate_zero, List.nil_append, List.cons_append, List.append_nil, List.getElem?_cons_zero, List.getElem?_cons_succ, List.set_cons_zero, List.set_cons_succ, Nat.reduceAdd, Nat.reduceSub, Nat.sub_self, Bool.not_true, Bool.not_false, if_true, if_false, reduceIte, Bool.false_eq_true, Bool.true_eq_false, true_and, and_true, decide_eq_true_eq, Bool.not_eq_true', decide_eq_false_iff_not, ne_eq, not_true_eq_false, not_false_eq_true, ofString_inj]
    refine ⟨ns, k, rfl, by omega, fun S1 ok1 _ => ?_⟩
    refine ⟨_, 4, rfl, by decide, ok1, fun c S2 hc hs t2 => ?_⟩
    have ok2 := ok1.to t2
    have hch : ChOk c := ⟨hc, hs⟩
    have tl := chTx_len hch
    have tk := chTx_ok hch
    refine ⟨c, rfl, hch, ct_at hch (ne_self tk ?_)⟩
    simp only [s_seq, s_next, s_ret, s_retN, s_drop, s_ifS, s_asg, s_par, s_raise, s_for, rt_nx, rt_rt, rt_ex, s_gN, s_gT, s_gTl, setAll_nil, setAll_cons, wipe_nil, wipe_cons, s_start, s_var, s_c, s_bin, s_test, s_chain, s_tru, s_and, s_or, s_not, s_andV, s_orV, s_notV, s_if, s_nil, s_cons, s_tup, s_lst, s_neg, s_cb, s_itS, s_rng1, s_rng2, s_lc, s_yes, s_newL, s_part, s_nop, s_slice, s_rev, s_m1, s_call, s_app, s_setIx, s_dnew, s_done, s_dput, s_dget2, key_s, key_i, cellK_, tru_str, in_s, mul_ti, mul_li, s_onB, s_condB, tru_bl, tru_int, tru_non, tru_tup, tru_lst, add_ii, add_ss, add_tt, add_ll, sub_ii, mul_ii, mul_si, fdiv_ii, mod_ii, pow_ii, cmp_ii, eq_ii, eq_ss, ne_ii, ne_ss, is_nn, is_bb, is_in, is_sn, is_tn, is_ln, ix_t, ix_l, ix_loc, at_, len_t, len_l, len_scr, len_s, abs_i, int_i, int_b, int_s, str_i, str_s, bool_b, list_t, list_l, tuple_t, tuple_l, tuple_loc, list_loc, isi_, sum_l, max_ii, min_ii, slice_t, slice_l, slice_s, tn_int, tn_bl, tn_str, tn_non, tn_tup, tn_lst, cell_, strOk_of, atI_0, atI_1, atI_2, List.map_cons, List.map_nil, List.length_cons, List.length_nil, List.replicate_succ, List.replicate_zero, List.nil_append, List.cons_append, List.append_nil, List.getElem?_cons_zero, List.getElem?_cons_succ, List.set_cons_zero, List.set_cons_succ, Nat.reduceAdd, Nat.reduceSub, Nat.sub_self, Bool.not_true, Bool.not_false, if_true, if_false, reduceIte, Bool.false_eq_true, Bool.true_eq_false, true_and, and_true, decide_eq_true_eq, Bool.not_eq_true', decide_eq_false_iff_not, ne_eq, not_true_eq_false, not_false_eq_true, ofString_inj]
    refine rc_at (rd_chTx hch) (by omega) tk (ne_self (pl_mono (m := 2) (n := 9) (by decide) _ ChOk.pl) ?_)
    refine ⟨⟨by omega, by omega⟩, ?_⟩
    refine forD_inv (fun xs env S' => (∃ b5 b6 b7 b8 b9, env = [some (.d (.scr ns)), some (.d (.int k)), some (.d (.loc S.length)), some (.d (chD c)), some (.d (.str (chTx c))), b5, b6, b7, b8, b9, a10, none, none, none]) ∧ SrcOk S' S.length) ?_ ?_ _ _ _ ⟨⟨_, _, _, _, _, rfl⟩, ok2⟩
    · rintro env S3 ⟨⟨b5, b6, b7, b8, b9, rfl⟩, ok3⟩
      have e1 : (Str.ofString "\n").length = 1 := by decide +kernel
      have e2 : (Str.ofString " ").length = 1 := by decide +kernel
      have er5 : repsD 5 [D.str (Str.ofString "turn")] = [Str.ofString "turn", Str.ofString "turn", Str.ofString "turn", Str.ofString "turn", Str.ofString "turn"].map D.str := rfl
      simp only [s_seq, s_next, s_ret, s_retN, s_drop, s_ifS, s_asg, s_par, s_raise, s_for, rt_nx, rt_rt, rt_ex, s_gN, s_gT, s_gTl, setAll_nil, setAll_cons, wipe_nil, wipe_cons, s_start, s_var, s_c, s_bin, s_test, s_chain, s_tru, s_and, s_or, s_not, s_andV, s_orV, s_notV, s_if, s_nil, s_cons, s_tup, s_lst, s_neg, s_cb, s_itS, s_rng1, s_rng2, s_lc, s_yes, s_newL, s_part, s_nop, s_slice, s_rev, s_m1, s_call, s_app, s_setIx, s_dnew, s_done, s_dput, s_dget2, key_s, key_i, cellK_, tru_str, in_s, mul_ti, mul_li, s_onB, s_condB, tru_bl, tru_int, tru_non, tru_tup, tru_lst, add_ii, add_ss, add_tt, add_ll, sub_ii, mul_ii, mul_si, fdiv_ii, mod_ii, pow_ii, cmp_ii, eq_ii, eq_ss, ne_ii, ne_ss, is_nn, is_bb, is_in, is_sn, is_tn, is_ln, ix_t, ix_l, ix_loc, at_, len_t, len_l, len_scr, len_s, abs_i, int_i, int_b, int_s, str_i, str_s, bool_b, list_t, list_l, tuple_t, tuple_l, tuple_loc, list_loc, isi_, sum_l, max_ii, min_ii, slice_t, slice_l, slice_s, tn_int, tn_bl, tn_str, tn_non, tn_tup, tn_lst, cell_, strOk_of, atI_0, atI_1, atI_2, List.map_cons, List.map_nil, List.length_cons, List.length_nil, List.replicate_succ, List.replicate_zero, List.nil_append, List.cons_append, List.append_nil, List.getElem?_cons_zero, List.getElem?_cons_succ, List.set_cons_zero, List.set_cons_succ, Nat.reduceAdd, Nat.reduceSub, Nat.sub_self, Bool.not_true, Bool.not_false, if_true, if_false, reduceIte, Bool.false_eq_true, Bool.true_eq_false, true_and, and_true, decide_eq_true_eq, Bool.not_eq_true', decide_eq_false_iff_not, ne_eq, not_true_eq_false, not_false_eq_true, ofString_inj, sizeLine_eq, Nat.reduceLeDiff, Int.reduceToNat, Int.reducePow, Int.reduceAdd, Int.reduceSub, Int.reduceNeg, Int.reduceMul, e1, e2]
      refine ⟨by omega, by omega, by omega, ⟨_, rfl⟩, ⟨by decide, by decide⟩, ?_⟩
      rw [er5]
      unfold joinD
      simp only [strsOf_map]
      have l5 := len_3
      refine ⟨by simp only [List.map_cons, List.map_nil, List.sum_cons, List.sum_nil, List.length_cons, List.length_nil]; have : (Str.ofString "turn").length = 4 := by decide +kernel
                 omega, ?_⟩
      generalize hj : Txt.join (Str.ofString "\n") [Str.ofString "turn", Str.ofString "turn", Str.ofString "turn", Str.ofString "turn", Str.ofString "turn"] = jt at l5
      have j3 : rdOf jt = none := by rw [← hj]; exact no_3
      refine ⟨_, _, _, rfl, by simp, by simp, h1.1, fun d hd => ?_, ?_⟩
      · have tl2 : PyData.strOk (chTx c) = true := tk
        simp only [List.mem_cons, List.not_mem_nil, or_false] at hd
        have str : ∀ z : Str, PyData.strOk z = true → z.length ≤ 1000000 → rdOf z = none → Refuses rv nm (.d (.ref (fa (Str.ofString "read_chain")))) (Str.ofString "text") (.str z) S3 := fun z h1' h2' h3' => h1.2 _ _ h1' (.inr ⟨z, rfl, h2', h3'⟩)
        rcases hd with rfl | rfl | rfl | rfl | rfl | rfl | rfl | rfl | rfl | rfl | rfl
        · exact h1.2 _ _ rfl (.inl fun z e => by cases e)
        · exact h1.2 _ _ rfl (.inl fun z e => by cases e)
        · exact h1.2 _ _ rfl (.inl fun z e => by cases e)
        · exact h1.2 _ _ (by simp only [D.pl, D.pls, tl2, Bool.and_true]) (.inl fun z e => by cases e)
        · exact h1.2 _ _ (by simp only [D.pl, D.pls, tl2, Bool.and_true]) (.inl fun z e => by cases e)
        · exact str _ (strOk_of _) (by decide +kernel) no_1
        · exact str _ (app_ok tl2 (strOk_of _)) (by rw [len_app]; omega) (no_edge (edge_nl _))
        · exact str _ (app_ok (strOk_of _) tl2) (by rw [len_app]; omega) (no_edge (sp_edge _))
        · exact str _ (app_ok tl2 (strOk_of _)) (by rw [len_app]; omega) (no_edge (edge_sp _))
        · exact str _ (strOk_of _) (by decide +kernel) no_2
        · exact str _ l5.2 (by omega) j3
      · simp only [s_seq, s_next, s_ret, s_retN, s_drop, s_ifS, s_asg, s_par, s_raise, s_for, rt_nx, rt_rt, rt_ex, s_gN, s_gT, s_gTl, setAll_nil, setAll_cons, wipe_nil, wipe_cons, s_start, s_var, s_c, s_bin, s_test, s_chain, s_tru, s_and, s_or, s_not, s_andV, s_orV, s_notV, s_if, s_nil, s_cons, s_tup, s_lst, s_neg, s_cb, s_itS, s_rng1, s_rng2, s_lc, s_yes, s_newL, s_part, s_nop, s_slice, s_rev, s_m1, s_call, s_app, s_setIx, s_dnew, s_done, s_dput, s_dget2, key_s, key_i, cellK_, tru_str, in_s, mul_ti, mul_li, s_onB, s_condB, tru_bl, tru_int, tru_non, tru_tup, tru_lst, add_ii, add_ss, add_tt, add_ll, sub_ii, mul_ii, mul_si, fdiv_ii, mod_ii, pow_ii, cmp_ii, eq_ii, eq_ss, ne_ii, ne_ss, is_nn, is_bb, is_in, is_sn, is_tn, is_ln, ix_t, ix_l, ix_loc, at_, len_t, len_l, len_scr, len_s, abs_i, int_i, int_b, int_s, str_i, str_s, bool_b, list_t, list_l, tuple_t, tuple_l, tuple_loc, list_loc, isi_, sum_l, max_ii, min_ii, slice_t, slice_l, slice_s, tn_int, tn_bl, tn_str, tn_non, tn_tup, tn_lst, cell_, strOk_of, atI_0, atI_1, atI_2, List.map_cons, List.map_nil, List.length_cons, List.length_nil, List.replicate_succ, List.replicate_zero, List.nil_append, List.cons_append, List.append_nil, List.getElem?_cons_zero, List.getElem?_cons_succ, List.set_cons_zero, List.set_cons_succ, Nat.reduceAdd, Nat.reduceSub, Nat.sub_self, Bool.not_true, Bool.not_false, if_true, if_false, reduceIte, Bool.false_eq_true, Bool.true_eq_false, true_and, and_true, decide_eq_true_eq, Bool.not_eq_true', decide_eq_false_iff_not, ne_eq, not_true_eq_false, not_false_eq_true, ofString_inj]
        refine ⟨rfl, ?_⟩
        refine ⟨_, _, _, rfl, by simp, by simp, h2.1, fun d hd => h2.2 d S3 (pl_mono (by decide) _ (bad_of hd).2) (bad_of hd).1, ?_⟩
        simp only [s_seq, s_next, s_ret, s_retN, s_drop, s_ifS, s_asg, s_par, s_raise, s_for, rt_nx, rt_rt, rt_ex, s_gN, s_gT, s_gTl, setAll_nil, setAll_cons, wipe_nil, wipe_cons, s_start, s_var, s_c, s_bin, s_test, s_chain, s_tru, s_and, s_or, s_not, s_andV, s_orV, s_notV, s_if, s_nil, s_cons, s_tup, s_lst, s_neg, s_cb, s_itS, s_rng1, s_rng2, s_lc, s_yes, s_newL, s_part, s_nop, s_slice, s_rev, s_m1, s_call, s_app, s_setIx, s_dnew, s_done, s_dput, s_dget2, key_s, key_i, cellK_, tru_str, in_s, mul_ti, mul_li, s_onB, s_condB, tru_bl, tru_int, tru_non, tru_tup, tru_lst, add_ii, add_ss, add_tt, add_ll, sub_ii, mul_ii, mul_si, fdiv_ii, mod_ii, pow_ii, cmp_ii, eq_ii, eq_ss, ne_ii, ne_ss, is_nn, is_bb, is_in, is_sn, is_tn, is_ln, ix_t, ix_l, ix_loc, at_, len_t, len_l, len_scr, len_s, abs_i, int_i, int_b, int_s, str_i, str_s, bool_b, list_t, list_l, tuple_t, tuple_l, tuple_loc, list_loc, isi_, sum_l, max_ii, min_ii, slice_t, slice_l, slice_s, tn_int, tn_bl, tn_str, tn_non, tn_tup, tn_lst, cell_, strOk_of, atI_0, atI_1, atI_2, List.map_cons, List.map_nil, List.length_cons, List.length_nil, List.replicate_succ, List.replicate_zero, List.nil_append, List.cons_append, List.append_nil, List.getElem?_cons_zero, List.getElem?_cons_succ, List.set_cons_zero, List.set_cons_succ, Nat.reduceAdd, Nat.reduceSub, Nat.sub_self, Bool.not_true, Bool.not_false, if_true, if_false, reduceIte, Bool.false_eq_true, Bool.true_eq_false, true_and, and_true, decide_eq_true_eq, Bool.not_eq_true', decide_eq_false_iff_not, ne_eq, not_true_eq_false, not_false_eq_true, ofString_inj]
        exact hK _ _ ⟨⟨_, _, _, _, _, _, _, _, _, _, rfl⟩, fun x h => hx x (List.mem_cons_of_mem _ h)⟩
    · rintro x ys env S3 K2 hK2 ⟨⟨b5, b6, b7, b8, b9, rfl⟩, ok3⟩
      simp only [s_seq, s_next, s_ret, s_retN, s_drop, s_ifS, s_asg, s_par, s_raise, s_for, rt_nx, rt_rt, rt_ex, s_gN, s_gT, s_gTl, setAll_nil, setAll_cons, wipe_nil, wipe_cons, s_start, s_var, s_c, s_bin, s_test, s_chain, s_tru, s_and, s_or, s_not, s_andV, s_orV, s_notV, s_if, s_nil, s_cons, s_tup, s_lst, s_neg, s_cb, s_itS, s_rng1, s_rng2, s_lc, s_yes, s_newL, s_part, s_nop, s_slice, s_rev, s_m1, s_call, s_app, s_setIx, s_dnew, s_done, s_dput, s_dget2, key_s, key_i, cellK_, tru_str, in_s, mul_ti, mul_li, s_onB, s_condB, tru_bl, tru_int, tru_non, tru_tup, tru_lst, add_ii, add_ss, add_tt, add_ll, sub_ii, mul_ii, mul_si, fdiv_ii, mod_ii, pow_ii, cmp_ii, eq_ii, eq_ss, ne_ii, ne_ss, is_nn, is_bb, is_in, is_sn, is_tn, is_ln, ix_t, ix_l, ix_loc, at_, len_t, len_l, len_scr, len_s, abs_i, int_i, int_b, int_s, str_i, str_s, bool_b, list_t, list_l, tuple_t, tuple_l, tuple_loc, list_loc, isi_, sum_l, max_ii, min_ii, slice_t, slice_l, slice_s, tn_int, tn_bl, tn_str, tn_non, tn_tup, tn_lst, cell_, strOk_of, atI_0, atI_1, atI_2, List.map_cons, List.map_nil, List.length_cons, List.length_nil, List.replicate_succ, List.replicate_zero, List.nil_append, List.cons_append, List.append_nil, List.getElem?_cons_zero, List.getElem?_cons_succ, List.set_cons_zero, List.set_cons_succ, Nat.reduceAdd, Nat.reduceSub, Nat.sub_self, Bool.not_true, Bool.not_false, if_true, if_false, reduceIte, Bool.false_eq_true, Bool.true_eq_false, true_and, and_true, decide_eq_true_eq, Bool.not_eq_true', decide_eq_false_iff_not, ne_eq, not_true_eq_false, not_false_eq_true, ofString_inj]
      refine ⟨by rw [sizeLine_eq]; omega, _, (chTx c).length + 1, rfl, by omega, by omega, ok3, fun r S4 hr t4 => ?_⟩
      have ok4 := ok3.to t4
      refine ⟨by simp [sizeLine_eq], _, _, rfl, by simp, by simp, ok4, fun y S5 hy t5 => ?_⟩
      have ok5 := ok4.to t5
      obtain ⟨sgn, hs1, rfl⟩ : ∃ sgn ∈ (["", " ", "0", "1", "\n", "turn", "\nturn", "near", "tens 2\n", "x", "-", "none"].map Str.ofString), y = .str sgn := by
        simp only [List.mem_cons, List.not_mem_nil, or_false] at hy
        rcases hy with e | e | e | e | e | e | e | e | e | e | e | e <;> exact ⟨_, by simp, e⟩
      have sl := signs_len sgn hs1
      have sk : PyData.strOk sgn = true := by
        obtain ⟨y, _, rfl⟩ := List.mem_map.mp hs1
        exact strOk_of _
      have hsz := sizeLine_eq
      have l1 := slice_len (chTx c) none (some (r : Int))
      simp only [s_seq, s_next, s_ret, s_retN, s_drop, s_ifS, s_asg, s_par, s_raise, s_for, rt_nx, rt_rt, rt_ex, s_gN, s_gT, s_gTl, setAll_nil, setAll_cons, wipe_nil, wipe_cons, s_start, s_var, s_c, s_bin, s_test, s_chain, s_tru, s_and, s_or, s_not, s_andV, s_orV, s_notV, s_if, s_nil, s_cons, s_tup, s_lst, s_neg, s_cb, s_itS, s_rng1, s_rng2, s_lc, s_yes, s_newL, s_part, s_nop, s_slice, s_rev, s_m1, s_call, s_app, s_setIx, s_dnew, s_done, s_dput, s_dget2, key_s, key_i, cellK_, tru_str, in_s, mul_ti, mul_li, s_onB, s_condB, tru_bl, tru_int, tru_non, tru_tup, tru_lst, add_ii, add_ss, add_tt, add_ll, sub_ii, mul_ii, mul_si, fdiv_ii, mod_ii, pow_ii, cmp_ii, eq_ii, eq_ss, ne_ii, ne_ss, is_nn, is_bb, is_in, is_sn, is_tn, is_ln, ix_t, ix_l, ix_loc, at_, len_t, len_l, len_scr, len_s, abs_i, int_i, int_b, int_s, str_i, str_s, bool_b, list_t, list_l, tuple_t, tuple_l, tuple_loc, list_loc, isi_, sum_l, max_ii, min_ii, slice_t, slice_l, slice_s, tn_int, tn_bl, tn_str, tn_non, tn_tup, tn_lst, cell_, strOk_of, atI_0, atI_1, atI_2, List.map_cons, List.map_nil, List.length_cons, List.length_nil, List.replicate_succ, List.replicate_zero, List.nil_append, List.cons_append, List.append_nil, List.getElem?_cons_zero, List.getElem?_cons_succ, List.set_cons_zero, List.set_cons_succ, Nat.reduceAdd, Nat.reduceSub, Nat.sub_self, Bool.not_true, Bool.not_false, if_true, if_false, reduceIte, Bool.false_eq_true, Bool.true_eq_false, true_and, and_true, decide_eq_true_eq, Bool.not_eq_true', decide_eq_false_iff_not, ne_eq, not_true_eq_false, not_false_eq_true, ofString_inj]
      refine ⟨by omega, by omega, ?_⟩
      refine ⟨_, 2, rfl, by omega, by omega, ok5, fun r2 S6 hr2 t6 => ?_⟩
      have ok6 := ok5.to t6
      have l2 := slice_len (chTx c) (some ((r : Int) + (r2 : Int))) none
      simp only [s_seq, s_next, s_ret, s_retN, s_drop, s_ifS, s_asg, s_par, s_raise, s_for, rt_nx, rt_rt, rt_ex, s_gN, s_gT, s_gTl, setAll_nil, setAll_cons, wipe_nil, wipe_cons, s_start, s_var, s_c, s_bin, s_test, s_chain, s_tru, s_and, s_or, s_not, s_andV, s_orV, s_notV, s_if, s_nil, s_cons, s_tup, s_lst, s_neg, s_cb, s_itS, s_rng1, s_rng2, s_lc, s_yes, s_newL, s_part, s_nop, s_slice, s_rev, s_m1, s_call, s_app, s_setIx, s_dnew, s_done, s_dput, s_dget2, key_s, key_i, cellK_, tru_str, in_s, mul_ti, mul_li, s_onB, s_condB, tru_bl, tru_int, tru_non, tru_tup, tru_lst, add_ii, add_ss, add_tt, add_ll, sub_ii, mul_ii, mul_si, fdiv_ii, mod_ii, pow_ii, cmp_ii, eq_ii, eq_ss, ne_ii, ne_ss, is_nn, is_bb, is_in, is_sn, is_tn, is_ln, ix_t, ix_l, ix_loc, at_, len_t, len_l, len_scr, len_s, abs_i, int_i, int_b, int_s, str_i, str_s, bool_b, list_t, list_l, tuple_t, tuple_l, tuple_loc, list_loc, isi_, sum_l, max_ii, min_ii, slice_t, slice_l, slice_s, tn_int, tn_bl, tn_str, tn_non, tn_tup, tn_lst, cell_, strOk_of, atI_0, atI_1, atI_2, List.map_cons, List.map_nil, List.length_cons, List.length_nil, List.replicate_succ, List.replicate_zero, List.nil_append, List.cons_append, List.append_nil, List.getElem?_cons_zero, List.getElem?_cons_succ, List.set_cons_zero, List.set_cons_succ, Nat.reduceAdd, Nat.reduceSub, Nat.sub_self, Bool.not_true, Bool.not_false, if_true, if_false, reduceIte, Bool.false_eq_true, Bool.true_eq_false, true_and, and_true, decide_eq_true_eq, Bool.not_eq_true', decide_eq_false_iff_not, ne_eq, not_true_eq_false, not_false_eq_true, ofString_inj]
      refine ⟨by omega, by rw [len_app]; omega, ?_⟩
      have ks : PyData.strOk (Txt.slice (chTx c) none (some (r : Int)) ++ sgn ++ Txt.slice (chTx c) (some ((r : Int) + (r2 : Int))) none : Str) = true := app_ok (app_ok (slice_ok tk _ _) sk) (slice_ok tk _ _)
      have ls : (Txt.slice (chTx c) none (some (r : Int)) ++ sgn ++ Txt.slice (chTx c) (some ((r : Int) + (r2 : Int))) none : Str).length ≤ 1000000 := by rw [len_app, len_app]; omega
      generalize (Txt.slice (chTx c) none (some (r : Int)) ++ sgn ++ Txt.slice (chTx c) (some ((r : Int) + (r2 : Int))) none : Str) = z at ks ls
      refine ⟨z, rfl, ls, ks, told_at hTT rfl ls ks ?_⟩
      have kk := hK2 [some (.d (.scr ns)), some (.d (.int k)), some (.d (.loc S.length)), some (.d (chD c)), some (.d (.str (chTx c))), some (.d x), some (.d (.int r)), some (.d (.str sgn)), some (.d (.str z)), some (.d (rdD z)), a10, none, none, none] S6 ⟨⟨_, _, _, _, _, rfl⟩, ok6⟩
      have tp := toldD_pl (z := z)
      unfold toldD at tp ⊢
      unfold rdD at kk ⊢
      cases e : rdOf z with
      | none =>
        rw [e] at tp kk
        simp only [s_seq, s_next, s_ret, s_retN, s_drop, s_ifS, s_asg, s_par, s_raise, s_for, rt_nx, rt_rt, rt_ex, s_gN, s_gT, s_gTl, setAll_nil, setAll_cons, wipe_nil, wipe_cons, s_start, s_var, s_c, s_bin, s_test, s_chain, s_tru, s_and, s_or, s_not, s_andV, s_orV, s_notV, s_if, s_nil, s_cons, s_tup, s_lst, s_neg, s_cb, s_itS, s_rng1, s_rng2, s_lc, s_yes, s_newL, s_part, s_nop, s_slice, s_rev, s_m1, s_call, s_app, s_setIx, s_dnew, s_done, s_dput, s_dget2, key_s, key_i, cellK_, tru_str, in_s, mul_ti, mul_li, s_onB, s_condB, tru_bl, tru_int, tru_non, tru_tup, tru_lst, add_ii, add_ss, add_tt, add_ll, sub_ii, mul_ii, mul_si, fdiv_ii, mod_ii, pow_ii, cmp_ii, eq_ii, eq_ss, ne_ii, ne_ss, is_nn, is_bb, is_in, is_sn, is_tn, is_ln, ix_t, ix_l, ix_loc, at_, len_t, len_l, len_scr, len_s, abs_i, int_i, int_b, int_s, str_i, str_s, bool_b, list_t, list_l, tuple_t, tuple_l, tuple_loc, list_loc, isi_, sum_l, max_ii, min_ii, slice_t, slice_l, slice_s, tn_int, tn_bl, tn_str, tn_non, tn_tup, tn_lst, cell_, strOk_of, atI_0, atI_1, atI_2, List.map_cons, List.map_nil, List.length_cons, List.length_nil, List.replicate_succ, List.replicate_zero, List.nil_append, List.cons_append, List.append_nil, List.getElem?_cons_zero, List.getElem?_cons_succ, List.set_cons_zero, List.set_cons_succ, Nat.reduceAdd, Nat.reduceSub, Nat.sub_self, Bool.not_true, Bool.not_false, if_true, if_false, reduceIte, Bool.false_eq_true, Bool.true_eq_false, true_and, and_true, decide_eq_true_eq, Bool.not_eq_true', decide_eq_false_iff_not, ne_eq, not_true_eq_false, not_false_eq_true, ofString_inj]
        refine ⟨by omega, ne_self tp ?_⟩
        simp only [s_onB, Bool.false_eq_true, if_false]
        exact kk
      | some c' =>
        rw [e] at tp kk
        have e3 : chD c' = .tup (c'.map St1.d) := rfl
        simp only [e3, s_seq, s_next, s_ret, s_retN, s_drop, s_ifS, s_asg, s_par, s_raise, s_for, rt_nx, rt_rt, rt_ex, s_gN, s_gT, s_gTl, setAll_nil, setAll_cons, wipe_nil, wipe_cons, s_start, s_var, s_c, s_bin, s_test, s_chain, s_tru, s_and, s_or, s_not, s_andV, s_orV, s_notV, s_if, s_nil, s_cons, s_tup, s_lst, s_neg, s_cb, s_itS, s_rng1, s_rng2, s_lc, s_yes, s_newL, s_part, s_nop, s_slice, s_rev, s_m1, s_call, s_app, s_setIx, s_dnew, s_done, s_dput, s_dget2, key_s, key_i, cellK_, tru_str, in_s, mul_ti, mul_li, s_onB, s_condB, tru_bl, tru_int, tru_non, tru_tup, tru_lst, add_ii, add_ss, add_tt, add_ll, sub_ii, mul_ii, mul_si, fdiv_ii, mod_ii, pow_ii, cmp_ii, eq_ii, eq_ss, ne_ii, ne_ss, is_nn, is_bb, is_in, is_sn, is_tn, is_ln, ix_t, ix_l, ix_loc, at_, len_t, len_l, len_scr, len_s, abs_i, int_i, int_b, int_s, str_i, str_s, bool_b, list_t, list_l, tuple_t, tuple_l, tuple_loc, list_loc, isi_, sum_l, max_ii, min_ii, slice_t, slice_l, slice_s, tn_int, tn_bl, tn_str, tn_non, tn_tup, tn_lst, cell_, strOk_of, atI_0, atI_1, atI_2, List.map_cons, List.map_nil, List.length_cons, List.length_nil, List.replicate_succ, List.replicate_zero, List.nil_append, List.cons_append, List.append_nil, List.getElem?_cons_zero, List.getElem?_cons_succ, List.set_cons_zero, List.set_cons_succ, Nat.reduceAdd, Nat.reduceSub, Nat.sub_self, Bool.not_true, Bool.not_false, if_true, if_false, reduceIte, Bool.false_eq_true, Bool.true_eq_false, true_and, and_true, decide_eq_true_eq, Bool.not_eq_true', decide_eq_false_iff_not, ne_eq, not_true_eq_false, not_false_eq_true, ofString_inj] at tp kk ⊢
        refine ⟨by omega, ne_self tp ?_⟩
        simp only [s_onB, Bool.false_eq_true, if_false]
        exact kk
  · obtain ⟨t, ht, rfl⟩ := rngD_mem hx
    exact ⟨t, by simp, by omega⟩
end Fs
end
set_option Elab.async false
set_option linter.all false
set_option maxRecDepth 100000
set_option maxHeartbeats 0
namespace Hd
open PySem PySem.Spec PyProof.Rows L2 LamX HotX L2H Fs
def top (i : Nat) : Stmt := PySem.Challenge.pw_figuresteps_k11_texts_of_chains.main.body.getD i (.Pass ⟨0, 0, 0, 0⟩)
abbrev R : PySem.W.OpenRow := PySem.W.OpenLaw.row PySem.Challenge.rw_figuresteps_k11_texts_of_chains
def df (x : Str) (i : Nat) : He.DefD := ⟨(x, none), x, x, defArgs (top i), defBody (top i), defScope (top i), [], []⟩
def fn : List He.DefD := ([df "_law_source" 34, df "_law_draw" 35, df "_law_choice" 36, df "_law_ways" 38, df "_law_step" 40, df "_law_chain" 41, df "_law_text" 47, df "is_whole" 20, df "is_good_step" 21, df "is_good_chain" 22, df "need_chain" 23, df "text_of" 28, df "chain_text" 31, df "number_of" 29, df "read_line" 30, df "read_chain" 32, df "_law_ten" 37, df "_law_sizes" 39, df "_law_reading" 48, df "_law_names" 42] : List He.DefD) ++ ([df "_law_told" 44, df "_law_error" 43, df "_law_refused" 46, df "_law_bad_chains" 45, df "law" 49] : List He.DefD)
def fa : List He.Fa := ([.glo "_law_source", .glo "_law_draw", .glo "_law_choice", .glo "_law_ways", .glo "_law_step", .glo "_law_chain", .glo "_law_text", .glo "is_whole", .glo "is_good_step", .glo "is_good_chain", .glo "need_chain", .glo "text_of", .glo "chain_text", .glo "number_of", .glo "read_line", .glo "read_chain", .glo "_law_ten", .glo "_law_sizes", .glo "_law_reading", .glo "_law_names"] : List He.Fa) ++ ([.glo "_law_told", .glo "_law_error", .glo "_law_refused", .glo "_law_bad_chains", .glo "law", .free "len", .free "abs", .free "int", .free "tuple", .free "range", .free "str", .free "isinstance", .free "bool", .free "zip", .free "ValueError", .free "min", .int "LIFT" 3, .int "FIGURES" 3, .int "MOST" 4, .int "LONGEST" 7] : List He.Fa) ++ ([.str "NONE" "none", .str "SIGNS" "0123456789", .glo "WAYS", .glo "SIZES", .glo "FigureError", .glo "InvalidStep", .glo "InvalidChain", .glo "InvalidNumber", .glo "InvalidPairs", .glo "InvalidIndex", .glo "InvalidNumbers", .glo "InvalidText", .glo "OutOfReach", .glo "Impossible", .glo "Unlike", .glo "NothingToUndo", .glo "TooMany", .exc "FigureError", .exc "InvalidStep", .exc "InvalidChain"] : List He.Fa) ++ ([.exc "InvalidNumber", .exc "InvalidPairs", .exc "InvalidIndex", .exc "InvalidNumbers", .exc "InvalidText", .exc "OutOfReach", .exc "Impossible", .exc "Unlike", .exc "NothingToUndo"] : List He.Fa)
def tf : List He.Defn := [("_law_refused", none), ("law", none)]
def tl_WAYS : List He.Dv := [.str "away", .str "even", .str "high", .str "low", .str "near", .str "zero"]
def tl_SIZES : List He.Dv := [.int 1, .int 2, .int 5, .int 10, .int 20, .int 50, .int 100, .int 200, .int 500, .int 1000, .int 2000, .int 5000, .int 10000, .int 20000, .int 50000, .int 100000, .int 200000, .int 500000, .int 1000000]
def ex (K : PySem.W.Frag) : Bool := (errB K) && (uniqB tf K) && (He.tupB K "WAYS" tl_WAYS) && (He.tupB K "SIZES" tl_SIZES)
abbrev hk : PySem.W.Hook := He.hookX 4 fa fn [] tf ex
def ob (s : PySem.W.SharedT) : He.AlX := He.obsX 4 fa fn [] tf ex (HandSHeadRun.getT s)
theorem ob_eq (s : PySem.W.SharedT) : ob s = hk.obs s.abs := He.obsX_eq (HandSHeadRun.getT_eq s)
def loose : List Str := (["__name__", "FigureError", "InvalidStep", "InvalidChain", "InvalidNumber", "InvalidPairs", "InvalidIndex", "InvalidNumbers", "InvalidText", "OutOfReach", "Impossible", "Unlike", "NothingToUndo", "TooMany", "WAYS", "MOST", "FIGURES", "LIFT", "SIZES", "is_whole"] : List Str) ++ (["is_good_step", "is_good_chain", "need_chain", "SIGNS", "LONGEST", "NONE", "text_of", "number_of", "read_line", "chain_text", "read_chain", "_law_source", "_law_draw", "_law_choice", "_law_ten", "_law_ways", "_law_sizes", "_law_step", "_law_chain", "_law_names"] : List Str) ++ (["_law_error", "_law_told", "_law_bad_chains", "_law_refused", "_law_text", "_law_reading"] : List Str)
theorem run (w : World) : HandSHeadRun.RunEq R (PySem.W.view R.prog [49]) hk ob 40000 loose w := by
  intro os
  kernel_rfl
section
variable {w : World} {h : Heap} {K : PySem.W.Frag} {mg : Str → Option Value} {base : Heap}
abbrev LL (w : World) (h : Heap) (K : PySem.W.Frag) (mg : Str → Option Value) (base : Heap) : Prop := LW fa fn tf ex w h K mg base
abbrev GG (w : World) (K : PySem.W.Frag) (mg : Str → Option Value) (base : Heap) : Wd := ⟨PySem.W.OpenLaw.prog PySem.Challenge.rw_figuresteps_k11_texts_of_chains, w, K, mg, base, tabsOf K tf⟩
theorem exs (L : LL w h K mg base) : (errB K) = true ∧ (uniqB tf K) = true ∧ (He.tupB K "WAYS" tl_WAYS) = true ∧ (He.tupB K "SIZES" tl_SIZES) = true := by
  have hx : ex K = true := L.c.more
  unfold ex at hx
  simp only [Bool.and_eq_true, and_assoc] at hx
  exact hx
theorem f__law_source (L : LL w h K mg base) : DefF K mg "_law_source" (defArgs (top 34)) (defBody (top 34)) (defScope (top 34)) := L.def_ 0 0 rfl rfl
theorem b__law_source (kV doc pm : Value) (an : Option Addr) (cdv ct : Value) (us : List Value) (h : us.length = ([("_law_script" : Str), ("_law_k" : Str)] : List Str).length) : bindArgs (PySem.W.fnOf "_law_source" "_law_source" (defArgs (top 34)) (defBody (top 34)) (defScope (top 34)) .none kV doc pm an cdv ct) ⟨us, []⟩ = pure ((["_law_script", "_law_k"] : List Str).zip us) := by
  match us, h with
  | [u0, u1], _ => kernel_rfl
theorem c__law_source : cSs { N := ["_law_script", "_law_k", "_law_cell"], sc := defScope (top 34), gl := [("len", .blt), ("abs", .blt), ("int", .blt)], mu := ["return"] } 30 (defBody (top 34)) = some (t__law_source) := by kernel_rfl
theorem k1 (L : LL w h K mg base) : GOk (GG w K mg base) 0 ([("len", .blt), ("abs", .blt), ("int", .blt)] : List (Str × GE)) := (gok_cons (eok_blt (He.free_ok L.kb L.nb (L.c.t.d.fact 25 rfl))) (gok_cons (eok_blt (He.free_ok L.kb L.nb (L.c.t.d.fact 26 rfl))) (gok_cons (eok_blt (He.free_ok L.kb L.nb (L.c.t.d.fact 27 rfl))) gok_nil)))
theorem g__law_source (L : LL w h K mg base) : GFn (GG w K mg base) 1 2 "_law_source" sp__law_source := gfn_by (f__law_source L) (N := ["_law_script", "_law_k", "_law_cell"]) (by kernel_rfl) rfl b__law_source (k1 L) c__law_source sp__law_source_mono p__law_source
theorem f__law_draw (L : LL w h K mg base) : DefF K mg "_law_draw" (defArgs (top 35)) (defBody (top 35)) (defScope (top 35)) := L.def_ 1 1 rfl rfl
theorem b__law_draw (kV doc pm : Value) (an : Option Addr) (cdv ct : Value) (us : List Value) (h : us.length = ([("_law_source_here" : Str), ("_law_many" : Str)] : List Str).length) : bindArgs (PySem.W.fnOf "_law_draw" "_law_draw" (defArgs (top 35)) (defBody (top 35)) (defScope (top 35)) .none kV doc pm an cdv ct) ⟨us, []⟩ = pure ((["_law_source_here", "_law_many"] : List Str).zip us) := by
  match us, h with
  | [u0, u1], _ => kernel_rfl
theorem c__law_draw : cSs { N := ["_law_source_here", "_law_many", "_law_rest", "_law_wide"], sc := defScope (top 35), gl := [("int", .blt)] } 30 (defBody (top 35)) = some (t__law_draw) := by kernel_rfl
theorem k2 (L : LL w h K mg base) : GOk (GG w K mg base) 0 ([("int", .blt)] : List (Str × GE)) := (gok_cons (eok_blt (He.free_ok L.kb L.nb (L.c.t.d.fact 27 rfl))) gok_nil)
theorem g__law_draw (L : LL w h K mg base) : GFn (GG w K mg base) 1 2 "_law_draw" sp__law_draw := gfn_by (f__law_draw L) (N := ["_law_source_here", "_law_many", "_law_rest", "_law_wide"]) (by kernel_rfl) rfl b__law_draw (k2 L) c__law_draw sp__law_draw_mono p__law_draw
theorem f__law_choice (L : LL w h K mg base) : DefF K mg "_law_choice" (defArgs (top 36)) (defBody (top 36)) (defScope (top 36)) := L.def_ 2 2 rfl rfl
theorem b__law_choice (kV doc pm : Value) (an : Option Addr) (cdv ct : Value) (us : List Value) (h : us.length = ([("_law_source_here" : Str), ("_law_some" : Str)] : List Str).length) : bindArgs (PySem.W.fnOf "_law_choice" "_law_choice" (defArgs (top 36)) (defBody (top 36)) (defScope (top 36)) .none kV doc pm an cdv ct) ⟨us, []⟩ = pure ((["_law_source_here", "_law_some"] : List Str).zip us) := by
  match us, h with
  | [u0, u1], _ => kernel_rfl
theorem c__law_choice : cSs { N := ["_law_source_here", "_law_some"], sc := defScope (top 36), gl := [("_law_draw", .fn 2 sp__law_draw), ("len", .blt)] } 30 (defBody (top 36)) = some (t__law_choice) := by kernel_rfl
theorem k3 (L : LL w h K mg base) : GOk (GG w K mg base) 1 ([("_law_draw", .fn 2 sp__law_draw), ("len", .blt)] : List (Str × GE)) := (gok_cons (eok_fn (g__law_draw L) (by decide)) (gok_cons (eok_blt (He.free_ok L.kb L.nb (L.c.t.d.fact 25 rfl))) gok_nil))
theorem g__law_choice (L : LL w h K mg base) : GFn (GG w K mg base) 2 2 "_law_choice" sp__law_choice := gfn_by (f__law_choice L) (N := ["_law_source_here", "_law_some"]) (by kernel_rfl) rfl b__law_choice (k3 L) c__law_choice sp__law_choice_mono p__law_choice
theorem f__law_ways (L : LL w h K mg base) : DefF K mg "_law_ways" (defArgs (top 38)) (defBody (top 38)) (defScope (top 38)) := L.def_ 3 3 rfl rfl
theorem b__law_ways (kV doc pm : Value) (an : Option Addr) (cdv ct : Value) (us : List Value) (h : us.length = ([] : List Str).length) : bindArgs (PySem.W.fnOf "_law_ways" "_law_ways" (defArgs (top 38)) (defBody (top 38)) (defScope (top 38)) .none kV doc pm an cdv ct) ⟨us, []⟩ = pure (([] : List Str).zip us) := by
  match us, h with
  | [], _ => kernel_rfl
theorem c__law_ways : cSs { N := [], sc := defScope (top 38), gl := [] } 30 (defBody (top 38)) = some (t__law_ways) := by kernel_rfl
theorem k4 (L : LL w h K mg base) : GOk (GG w K mg base) 0 ([] : List (Str × GE)) := gok_nil
theorem g__law_ways (L : LL w h K mg base) : GFn (GG w K mg base) 1 0 "_law_ways" sp__law_ways := gfn_by (f__law_ways L) (N := []) (by kernel_rfl) rfl b__law_ways (k4 L) c__law_ways sp__law_ways_mono p__law_ways
theorem f__law_step (L : LL w h K mg base) : DefF K mg "_law_step" (defArgs (top 40)) (defBody (top 40)) (defScope (top 40)) := L.def_ 4 4 rfl rfl
theorem b__law_step (kV doc pm : Value) (an : Option Addr) (cdv ct : Value) (us : List Value) (h : us.length = ([("_law_source_here" : Str)] : List Str).length) : bindArgs (PySem.W.fnOf "_law_step" "_law_step" (defArgs (top 40)) (defBody (top 40)) (defScope (top 40)) .none kV doc pm an cdv ct) ⟨us, []⟩ = pure ((["_law_source_here"] : List Str).zip us) := by
  match us, h with
  | [u0], _ => kernel_rfl
theorem c__law_step : cSs { N := ["_law_source_here", "_law_word", "_law_way"], sc := defScope (top 40), gl := [("_law_choice", .fn 2 sp__law_choice), ("_law_draw", .fn 2 sp__law_draw), ("_law_ways", .fn 0 sp__law_ways)] } 30 (defBody (top 40)) = some (t__law_step) := by kernel_rfl
theorem k5 (L : LL w h K mg base) : GOk (GG w K mg base) 2 ([("_law_choice", .fn 2 sp__law_choice), ("_law_draw", .fn 2 sp__law_draw), ("_law_ways", .fn 0 sp__law_ways)] : List (Str × GE)) := (gok_cons (eok_fn (g__law_choice L) (by decide)) (gok_cons (eok_fn (g__law_draw L) (by decide)) (gok_cons (eok_fn (g__law_ways L) (by decide)) gok_nil)))
theorem g__law_step (L : LL w h K mg base) : GFn (GG w K mg base) 3 1 "_law_step" sp__law_step := gfn_by (f__law_step L) (N := ["_law_source_here", "_law_word", "_law_way"]) (by kernel_rfl) rfl b__law_step (k5 L) c__law_step sp__law_step_mono p__law_step
theorem f__law_chain (L : LL w h K mg base) : DefF K mg "_law_chain" (defArgs (top 41)) (defBody (top 41)) (defScope (top 41)) := L.def_ 5 5 rfl rfl
theorem b__law_chain (kV doc pm : Value) (an : Option Addr) (cdv ct : Value) (us : List Value) (h : us.length = ([("_law_source_here" : Str), ("_law_most" : Str)] : List Str).length) : bindArgs (PySem.W.fnOf "_law_chain" "_law_chain" (defArgs (top 41)) (defBody (top 41)) (defScope (top 41)) .none kV doc pm an cdv ct) ⟨us, []⟩ = pure ((["_law_source_here", "_law_most"] : List Str).zip us) := by
  match us, h with
  | [u0, u1], _ => kernel_rfl
theorem c__law_chain : cSs { N := ["_law_source_here", "_law_most", "_law_turn"], sc := defScope (top 41), gl := [("tuple", .blt), ("range", .blt), ("_law_draw", .fn 2 sp__law_draw), ("_law_step", .fn 1 sp__law_step)] } 30 (defBody (top 41)) = some (t__law_chain) := by kernel_rfl
theorem k6 (L : LL w h K mg base) : GOk (GG w K mg base) 3 ([("tuple", .blt), ("range", .blt), ("_law_draw", .fn 2 sp__law_draw), ("_law_step", .fn 1 sp__law_step)] : List (Str × GE)) := (gok_cons (eok_blt (He.free_ok L.kb L.nb (L.c.t.d.fact 28 rfl))) (gok_cons (eok_blt (He.free_ok L.kb L.nb (L.c.t.d.fact 29 rfl))) (gok_cons (eok_fn (g__law_draw L) (by decide)) (gok_cons (eok_fn (g__law_step L) (by decide)) gok_nil))))
theorem g__law_chain (L : LL w h K mg base) : GFn (GG w K mg base) 4 2 "_law_chain" sp__law_chain := gfn_by (f__law_chain L) (N := ["_law_source_here", "_law_most", "_law_turn"]) (by kernel_rfl) rfl b__law_chain (k6 L) c__law_chain sp__law_chain_mono p__law_chain
theorem f__law_text (L : LL w h K mg base) : DefF K mg "_law_text" (defArgs (top 47)) (defBody (top 47)) (defScope (top 47)) := L.def_ 6 6 rfl rfl
theorem b__law_text (kV doc pm : Value) (an : Option Addr) (cdv ct : Value) (us : List Value) (h : us.length = ([("_law_chain_here" : Str)] : List Str).length) : bindArgs (PySem.W.fnOf "_law_text" "_law_text" (defArgs (top 47)) (defBody (top 47)) (defScope (top 47)) .none kV doc pm an cdv ct) ⟨us, []⟩ = pure ((["_law_chain_here"] : List Str).zip us) := by
  match us, h with
  | [u0], _ => kernel_rfl
theorem c__law_text : cSs { N := ["_law_chain_here", "_law_part", "_law_step_here"], sc := defScope (top 47), gl := [("str", .blt)] } 30 (defBody (top 47)) = some (t__law_text) := by kernel_rfl
theorem k7 (L : LL w h K mg base) : GOk (GG w K mg base) 0 ([("str", .blt)] : List (Str × GE)) := (gok_cons (eok_blt (He.free_ok L.kb L.nb (L.c.t.d.fact 30 rfl))) gok_nil)
theorem g__law_text (L : LL w h K mg base) : GFn (GG w K mg base) 1 1 "_law_text" sp__law_text := gfn_by (f__law_text L) (N := ["_law_chain_here", "_law_part", "_law_step_here"]) (by kernel_rfl) rfl b__law_text (k7 L) c__law_text sp__law_text_mono p__law_text
theorem f_is_whole (L : LL w h K mg base) : DefF K mg "is_whole" (defArgs (top 20)) (defBody (top 20)) (defScope (top 20)) := L.def_ 7 7 rfl rfl
theorem b_is_whole (kV doc pm : Value) (an : Option Addr) (cdv ct : Value) (us : List Value) (h : us.length = ([("value" : Str), ("low" : Str), ("high" : Str)] : List Str).length) : bindArgs (PySem.W.fnOf "is_whole" "is_whole" (defArgs (top 20)) (defBody (top 20)) (defScope (top 20)) .none kV doc pm an cdv ct) ⟨us, []⟩ = pure ((["value", "low", "high"] : List Str).zip us) := by
  match us, h with
  | [u0, u1, u2], _ => kernel_rfl
theorem c_is_whole : cSs { N := ["value", "low", "high"], sc := defScope (top 20), gl := [("isinstance", .blt), ("int", .blt), ("bool", .blt)] } 30 (defBody (top 20)) = some (t_is_whole) := by kernel_rfl
theorem k8 (L : LL w h K mg base) : GOk (GG w K mg base) 0 ([("isinstance", .blt), ("int", .blt), ("bool", .blt)] : List (Str × GE)) := (gok_cons (eok_blt (He.free_ok L.kb L.nb (L.c.t.d.fact 31 rfl))) (gok_cons (eok_blt (He.free_ok L.kb L.nb (L.c.t.d.fact 27 rfl))) (gok_cons (eok_blt (He.free_ok L.kb L.nb (L.c.t.d.fact 32 rfl))) gok_nil)))
theorem g_is_whole (L : LL w h K mg base) : GFn (GG w K mg base) 1 3 "is_whole" sp_is_whole := gfn_by (f_is_whole L) (N := ["value", "low", "high"]) (by kernel_rfl) rfl b_is_whole (k8 L) c_is_whole sp_is_whole_mono p_is_whole
theorem f_is_good_step (L : LL w h K mg base) : DefF K mg "is_good_step" (defArgs (top 21)) (defBody (top 21)) (defScope (top 21)) := L.def_ 8 8 rfl rfl
theorem b_is_good_step (kV doc pm : Value) (an : Option Addr) (cdv ct : Value) (us : List Value) (h : us.length = ([("value" : Str)] : List Str).length) : bindArgs (PySem.W.fnOf "is_good_step" "is_good_step" (defArgs (top 21)) (defBody (top 21)) (defScope (top 21)) .none kV doc pm an cdv ct) ⟨us, []⟩ = pure ((["value"] : List Str).zip us) := by
  match us, h with
  | [u0], _ => kernel_rfl
theorem c_is_good_step : cSs { N := ["value"], sc := defScope (top 21), gl := [("isinstance", .blt), ("tuple", .blt), ("len", .blt), ("str", .blt), ("is_whole", .fn 3 sp_is_whole), ("LIFT", .val (D.int 3)), ("WAYS", .val (D.tup [(D.str "away"), (D.str "even"), (D.str "high"), (D.str "low"), (D.str "near"), (D.str "zero")])), ("FIGURES", .val (D.int 3)), ("SIZES", .val (D.tup [(D.int 1), (D.int 2), (D.int 5), (D.int 10), (D.int 20), (D.int 50), (D.int 100), (D.int 200), (D.int 500), (D.int 1000), (D.int 2000), (D.int 5000), (D.int 10000), (D.int 20000), (D.int 50000), (D.int 100000), (D.int 200000), (D.int 500000), (D.int 1000000)]))] } 30 (defBody (top 21)) = some (t_is_good_step) := by kernel_rfl
theorem k9 (L : LL w h K mg base) : GOk (GG w K mg base) 1 ([("isinstance", .blt), ("tuple", .blt), ("len", .blt), ("str", .blt), ("is_whole", .fn 3 sp_is_whole), ("LIFT", .val (D.int 3)), ("WAYS", .val (D.tup [(D.str "away"), (D.str "even"), (D.str "high"), (D.str "low"), (D.str "near"), (D.str "zero")])), ("FIGURES", .val (D.int 3)), ("SIZES", .val (D.tup [(D.int 1), (D.int 2), (D.int 5), (D.int 10), (D.int 20), (D.int 50), (D.int 100), (D.int 200), (D.int 500), (D.int 1000), (D.int 2000), (D.int 5000), (D.int 10000), (D.int 20000), (D.int 50000), (D.int 100000), (D.int 200000), (D.int 500000), (D.int 1000000)]))] : List (Str × GE)) := (gok_cons (eok_blt (He.free_ok L.kb L.nb (L.c.t.d.fact 31 rfl))) (gok_cons (eok_blt (He.free_ok L.kb L.nb (L.c.t.d.fact 28 rfl))) (gok_cons (eok_blt (He.free_ok L.kb L.nb (L.c.t.d.fact 25 rfl))) (gok_cons (eok_blt (He.free_ok L.kb L.nb (L.c.t.d.fact 30 rfl))) (gok_cons (eok_fn (g_is_whole L) (by decide)) (gok_cons (eok_int L.kb L.nb (L.c.t.d.fact 36 rfl)) (gok_cons (eok_tup (l := tl_WAYS) (L.glo 42 rfl) rfl (exs L).2.2.1) (gok_cons (eok_int L.kb L.nb (L.c.t.d.fact 37 rfl)) (gok_cons (eok_tup (l := tl_SIZES) (L.glo 43 rfl) rfl (exs L).2.2.2) gok_nil)))))))))
theorem g_is_good_step (L : LL w h K mg base) : GFn (GG w K mg base) 2 1 "is_good_step" sp_is_good_step := gfn_by (f_is_good_step L) (N := ["value"]) (by kernel_rfl) rfl b_is_good_step (k9 L) c_is_good_step sp_is_good_step_mono p_is_good_step
theorem f_is_good_chain (L : LL w h K mg base) : DefF K mg "is_good_chain" (defArgs (top 22)) (defBody (top 22)) (defScope (top 22)) := L.def_ 9 9 rfl rfl
theorem b_is_good_chain (kV doc pm : Value) (an : Option Addr) (cdv ct : Value) (us : List Value) (h : us.length = ([("value" : Str)] : List Str).length) : bindArgs (PySem.W.fnOf "is_good_chain" "is_good_chain" (defArgs (top 22)) (defBody (top 22)) (defScope (top 22)) .none kV doc pm an cdv ct) ⟨us, []⟩ = pure ((["value"] : List Str).zip us) := by
  match us, h with
  | [u0], _ => kernel_rfl
theorem c_is_good_chain : cSs { N := ["value", "one"], sc := defScope (top 22), gl := [("isinstance", .blt), ("tuple", .blt), ("len", .blt), ("MOST", .val (D.int 4)), ("is_good_step", .fn 1 sp_is_good_step)] } 30 (defBody (top 22)) = some (t_is_good_chain) := by kernel_rfl
theorem k10 (L : LL w h K mg base) : GOk (GG w K mg base) 2 ([("isinstance", .blt), ("tuple", .blt), ("len", .blt), ("MOST", .val (D.int 4)), ("is_good_step", .fn 1 sp_is_good_step)] : List (Str × GE)) := (gok_cons (eok_blt (He.free_ok L.kb L.nb (L.c.t.d.fact 31 rfl))) (gok_cons (eok_blt (He.free_ok L.kb L.nb (L.c.t.d.fact 28 rfl))) (gok_cons (eok_blt (He.free_ok L.kb L.nb (L.c.t.d.fact 25 rfl))) (gok_cons (eok_int L.kb L.nb (L.c.t.d.fact 38 rfl)) (gok_cons (eok_fn (g_is_good_step L) (by decide)) gok_nil)))))
theorem g_is_good_chain (L : LL w h K mg base) : GFn (GG w K mg base) 3 1 "is_good_chain" sp_is_good_chain := gfn_by (f_is_good_chain L) (N := ["value", "one"]) (by kernel_rfl) rfl b_is_good_chain (k10 L) c_is_good_chain sp_is_good_chain_mono p_is_good_chain
theorem f_need_chain (L : LL w h K mg base) : DefF K mg "need_chain" (defArgs (top 23)) (defBody (top 23)) (defScope (top 23)) := L.def_ 10 10 rfl rfl
theorem b_need_chain (kV doc pm : Value) (an : Option Addr) (cdv ct : Value) (us : List Value) (h : us.length = ([("value" : Str)] : List Str).length) : bindArgs (PySem.W.fnOf "need_chain" "need_chain" (defArgs (top 23)) (defBody (top 23)) (defScope (top 23)) .none kV doc pm an cdv ct) ⟨us, []⟩ = pure ((["value"] : List Str).zip us) := by
  match us, h with
  | [u0], _ => kernel_rfl
theorem c_need_chain : cSs { N := ["value"], sc := defScope (top 23), gl := [("is_good_chain", .fn 1 sp_is_good_chain), ("InvalidChain", .exc (He.ga K "InvalidChain"))] } 30 (defBody (top 23)) = some (t_need_chain (He.ga K)) := by kernel_rfl
theorem k11 (L : LL w h K mg base) : GOk (GG w K mg base) 3 ([("is_good_chain", .fn 1 sp_is_good_chain), ("InvalidChain", .exc (He.ga K "InvalidChain"))] : List (Str × GE)) := (gok_cons (eok_fn (g_is_good_chain L) (by decide)) (gok_cons (eok_exc (L.glo 46 rfl) (L.c.t.d.fact 59 rfl)) gok_nil))
theorem g_need_chain (L : LL w h K mg base) : GFn (GG w K mg base) 4 1 "need_chain" (sp_need_chain (He.ga K)) := gfn_by (f_need_chain L) (N := ["value"]) (by kernel_rfl) rfl b_need_chain (k11 L) c_need_chain sp_need_chain_mono p_need_chain
theorem f_text_of (L : LL w h K mg base) : DefF K mg "text_of" (defArgs (top 28)) (defBody (top 28)) (defScope (top 28)) := L.def_ 11 11 rfl rfl
theorem b_text_of (kV doc pm : Value) (an : Option Addr) (cdv ct : Value) (us : List Value) (h : us.length = ([("chain" : Str)] : List Str).length) : bindArgs (PySem.W.fnOf "text_of" "text_of" (defArgs (top 28)) (defBody (top 28)) (defScope (top 28)) .none kV doc pm an cdv ct) ⟨us, []⟩ = pure ((["chain"] : List Str).zip us) := by
  match us, h with
  | [u0], _ => kernel_rfl
theorem c_text_of : cSs { N := ["chain", "part", "step"], sc := defScope (top 28), gl := [("str", .blt), ("NONE", .val (D.str "none"))] } 30 (defBody (top 28)) = some (t_text_of) := by kernel_rfl
theorem k12 (L : LL w h K mg base) : GOk (GG w K mg base) 0 ([("str", .blt), ("NONE", .val (D.str "none"))] : List (Str × GE)) := (gok_cons (eok_blt (He.free_ok L.kb L.nb (L.c.t.d.fact 30 rfl))) (gok_cons (eok_str L.kb L.nb (L.c.t.d.fact 40 rfl)) gok_nil))
theorem g_text_of (L : LL w h K mg base) : GFn (GG w K mg base) 1 1 "text_of" sp_text_of := gfn_by (f_text_of L) (N := ["chain", "part", "step"]) (by kernel_rfl) rfl b_text_of (k12 L) c_text_of sp_text_of_mono p_text_of
theorem f_chain_text (L : LL w h K mg base) : DefF K mg "chain_text" (defArgs (top 31)) (defBody (top 31)) (defScope (top 31)) := L.def_ 12 12 rfl rfl
theorem b_chain_text (kV doc pm : Value) (an : Option Addr) (cdv ct : Value) (us : List Value) (h : us.length = ([("chain" : Str)] : List Str).length) : bindArgs (PySem.W.fnOf "chain_text" "chain_text" (defArgs (top 31)) (defBody (top 31)) (defScope (top 31)) .none kV doc pm an cdv ct) ⟨us, []⟩ = pure ((["chain"] : List Str).zip us) := by
  match us, h with
  | [u0], _ => kernel_rfl
theorem c_chain_text : cSs { N := ["chain"], sc := defScope (top 31), gl := [("need_chain", .fn 1 (sp_need_chain (He.ga K))), ("text_of", .fn 1 sp_text_of)] } 30 (defBody (top 31)) = some (t_chain_text (He.ga K)) := by kernel_rfl
theorem k13 (L : LL w h K mg base) : GOk (GG w K mg base) 4 ([("need_chain", .fn 1 (sp_need_chain (He.ga K))), ("text_of", .fn 1 sp_text_of)] : List (Str × GE)) := (gok_cons (eok_fn (g_need_chain L) (by decide)) (gok_cons (eok_fn (g_text_of L) (by decide)) gok_nil))
theorem g_chain_text (L : LL w h K mg base) : GFn (GG w K mg base) 5 1 "chain_text" (sp_chain_text (He.ga K)) := gfn_by (f_chain_text L) (N := ["chain"]) (by kernel_rfl) rfl b_chain_text (k13 L) c_chain_text sp_chain_text_mono p_chain_text
theorem f_number_of (L : LL w h K mg base) : DefF K mg "number_of" (defArgs (top 29)) (defBody (top 29)) (defScope (top 29)) := L.def_ 13 13 rfl rfl
theorem b_number_of (kV doc pm : Value) (an : Option Addr) (cdv ct : Value) (us : List Value) (h : us.length = ([("word" : Str)] : List Str).length) : bindArgs (PySem.W.fnOf "number_of" "number_of" (defArgs (top 29)) (defBody (top 29)) (defScope (top 29)) .none kV doc pm an cdv ct) ⟨us, []⟩ = pure ((["word"] : List Str).zip us) := by
  match us, h with
  | [u0], _ => kernel_rfl
theorem c_number_of : cSs { N := ["word", "sign"], sc := defScope (top 29), gl := [("len", .blt), ("LONGEST", .val (D.int 7)), ("SIGNS", .val (D.str "0123456789")), ("str", .blt), ("int", .blt)] } 30 (defBody (top 29)) = some (t_number_of) := by kernel_rfl
theorem k14 (L : LL w h K mg base) : GOk (GG w K mg base) 0 ([("len", .blt), ("LONGEST", .val (D.int 7)), ("SIGNS", .val (D.str "0123456789")), ("str", .blt), ("int", .blt)] : List (Str × GE)) := (gok_cons (eok_blt (He.free_ok L.kb L.nb (L.c.t.d.fact 25 rfl))) (gok_cons (eok_int L.kb L.nb (L.c.t.d.fact 39 rfl)) (gok_cons (eok_str L.kb L.nb (L.c.t.d.fact 41 rfl)) (gok_cons (eok_blt (He.free_ok L.kb L.nb (L.c.t.d.fact 30 rfl))) (gok_cons (eok_blt (He.free_ok L.kb L.nb (L.c.t.d.fact 27 rfl))) gok_nil)))))
theorem g_number_of (L : LL w h K mg base) : GFn (GG w K mg base) 1 1 "number_of" sp_number_of := gfn_by (f_number_of L) (N := ["word", "sign"]) (by kernel_rfl) rfl b_number_of (k14 L) c_number_of sp_number_of_mono p_number_of
theorem f_read_line (L : LL w h K mg base) : DefF K mg "read_line" (defArgs (top 30)) (defBody (top 30)) (defScope (top 30)) := L.def_ 14 14 rfl rfl
theorem b_read_line (kV doc pm : Value) (an : Option Addr) (cdv ct : Value) (us : List Value) (h : us.length = ([("line" : Str)] : List Str).length) : bindArgs (PySem.W.fnOf "read_line" "read_line" (defArgs (top 30)) (defBody (top 30)) (defScope (top 30)) .none kV doc pm an cdv ct) ⟨us, []⟩ = pure ((["line"] : List Str).zip us) := by
  match us, h with
  | [u0], _ => kernel_rfl
theorem c_read_line : cSs { N := ["line", "words", "word"], sc := defScope (top 30), gl := [("tuple", .blt), ("number_of", .fn 1 sp_number_of)] } 30 (defBody (top 30)) = some (t_read_line) := by kernel_rfl
theorem k15 (L : LL w h K mg base) : GOk (GG w K mg base) 1 ([("tuple", .blt), ("number_of", .fn 1 sp_number_of)] : List (Str × GE)) := (gok_cons (eok_blt (He.free_ok L.kb L.nb (L.c.t.d.fact 28 rfl))) (gok_cons (eok_fn (g_number_of L) (by decide)) gok_nil))
theorem g_read_line (L : LL w h K mg base) : GFn (GG w K mg base) 2 1 "read_line" sp_read_line := gfn_by (f_read_line L) (N := ["line", "words", "word"]) (by kernel_rfl) rfl b_read_line (k15 L) c_read_line sp_read_line_mono p_read_line
theorem f_read_chain (L : LL w h K mg base) : DefF K mg "read_chain" (defArgs (top 32)) (defBody (top 32)) (defScope (top 32)) := L.def_ 15 15 rfl rfl
theorem b_read_chain (kV doc pm : Value) (an : Option Addr) (cdv ct : Value) (us : List Value) (h : us.length = ([("value" : Str)] : List Str).length) : bindArgs (PySem.W.fnOf "read_chain" "read_chain" (defArgs (top 32)) (defBody (top 32)) (defScope (top 32)) .none kV doc pm an cdv ct) ⟨us, []⟩ = pure ((["value"] : List Str).zip us) := by
  match us, h with
  | [u0], _ => kernel_rfl
theorem c_read_chain : cSs { N := ["value", "found", "line"], sc := defScope (top 32), gl := [("isinstance", .blt), ("str", .blt), ("InvalidText", .exc (He.ga K "InvalidText")), ("NONE", .val (D.str "none")), ("tuple", .blt), ("read_line", .fn 1 sp_read_line), ("is_good_chain", .fn 1 sp_is_good_chain)] } 30 (defBody (top 32)) = some (t_read_chain (He.ga K)) := by kernel_rfl
theorem k16 (L : LL w h K mg base) : GOk (GG w K mg base) 3 ([("isinstance", .blt), ("str", .blt), ("InvalidText", .exc (He.ga K "InvalidText")), ("NONE", .val (D.str "none")), ("tuple", .blt), ("read_line", .fn 1 sp_read_line), ("is_good_chain", .fn 1 sp_is_good_chain)] : List (Str × GE)) := (gok_cons (eok_blt (He.free_ok L.kb L.nb (L.c.t.d.fact 31 rfl))) (gok_cons (eok_blt (He.free_ok L.kb L.nb (L.c.t.d.fact 30 rfl))) (gok_cons (eok_exc (L.glo 51 rfl) (L.c.t.d.fact 64 rfl)) (gok_cons (eok_str L.kb L.nb (L.c.t.d.fact 40 rfl)) (gok_cons (eok_blt (He.free_ok L.kb L.nb (L.c.t.d.fact 28 rfl))) (gok_cons (eok_fn (g_read_line L) (by decide)) (gok_cons (eok_fn (g_is_good_chain L) (by decide)) gok_nil)))))))
theorem g_read_chain (L : LL w h K mg base) : GFn (GG w K mg base) 4 1 "read_chain" (sp_read_chain (He.ga K)) := gfn_by (f_read_chain L) (N := ["value", "found", "line"]) (by kernel_rfl) rfl b_read_chain (k16 L) c_read_chain sp_read_chain_mono p_read_chain
theorem f__law_ten (L : LL w h K mg base) : DefF K mg "_law_ten" (defArgs (top 37)) (defBody (top 37)) (defScope (top 37)) := L.def_ 16 16 rfl rfl
theorem b__law_ten (kV doc pm : Value) (an : Option Addr) (cdv ct : Value) (us : List Value) (h : us.length = ([("_law_many" : Str)] : List Str).length) : bindArgs (PySem.W.fnOf "_law_ten" "_law_ten" (defArgs (top 37)) (defBody (top 37)) (defScope (top 37)) .none kV doc pm an cdv ct) ⟨us, []⟩ = pure ((["_law_many"] : List Str).zip us) := by
  match us, h with
  | [u0], _ => kernel_rfl
theorem c__law_ten : cSs { N := ["_law_many"], sc := defScope (top 37), gl := [("int", .blt)] } 30 (defBody (top 37)) = some (t__law_ten) := by kernel_rfl
theorem k17 (L : LL w h K mg base) : GOk (GG w K mg base) 0 ([("int", .blt)] : List (Str × GE)) := (gok_cons (eok_blt (He.free_ok L.kb L.nb (L.c.t.d.fact 27 rfl))) gok_nil)
theorem g__law_ten (L : LL w h K mg base) : GFn (GG w K mg base) 1 1 "_law_ten" sp__law_ten := gfn_by (f__law_ten L) (N := ["_law_many"]) (by kernel_rfl) rfl b__law_ten (k17 L) c__law_ten sp__law_ten_mono p__law_ten
theorem f__law_sizes (L : LL w h K mg base) : DefF K mg "_law_sizes" (defArgs (top 39)) (defBody (top 39)) (defScope (top 39)) := L.def_ 17 17 rfl rfl
theorem b__law_sizes (kV doc pm : Value) (an : Option Addr) (cdv ct : Value) (us : List Value) (h : us.length = ([] : List Str).length) : bindArgs (PySem.W.fnOf "_law_sizes" "_law_sizes" (defArgs (top 39)) (defBody (top 39)) (defScope (top 39)) .none kV doc pm an cdv ct) ⟨us, []⟩ = pure (([] : List Str).zip us) := by
  match us, h with
  | [], _ => kernel_rfl
theorem c__law_sizes : cSs { N := ["_law_found", "_law_power"], sc := defScope (top 39), gl := [("range", .blt), ("_law_ten", .fn 1 sp__law_ten)] } 30 (defBody (top 39)) = some (t__law_sizes) := by kernel_rfl
theorem k18 (L : LL w h K mg base) : GOk (GG w K mg base) 1 ([("range", .blt), ("_law_ten", .fn 1 sp__law_ten)] : List (Str × GE)) := (gok_cons (eok_blt (He.free_ok L.kb L.nb (L.c.t.d.fact 29 rfl))) (gok_cons (eok_fn (g__law_ten L) (by decide)) gok_nil))
theorem g__law_sizes (L : LL w h K mg base) : GFn (GG w K mg base) 2 0 "_law_sizes" sp__law_sizes := gfn_by (f__law_sizes L) (N := ["_law_found", "_law_power"]) (by kernel_rfl) rfl b__law_sizes (k18 L) c__law_sizes sp__law_sizes_mono p__law_sizes
theorem f__law_reading (L : LL w h K mg base) : DefF K mg "_law_reading" (defArgs (top 48)) (defBody (top 48)) (defScope (top 48)) := L.def_ 18 18 rfl rfl
theorem b__law_reading (kV doc pm : Value) (an : Option Addr) (cdv ct : Value) (us : List Value) (h : us.length = ([("_law_text_here" : Str)] : List Str).length) : bindArgs (PySem.W.fnOf "_law_reading" "_law_reading" (defArgs (top 48)) (defBody (top 48)) (defScope (top 48)) .none kV doc pm an cdv ct) ⟨us, []⟩ = pure ((["_law_text_here"] : List Str).zip us) := by
  match us, h with
  | [u0], _ => kernel_rfl
theorem c__law_reading : cSs { N := ["_law_text_here", "_law_every", "_law_many", "_law_way", "_law_size", "_law_found", "_law_line"], sc := defScope (top 48), gl := [("str", .blt), ("_law_ways", .fn 0 sp__law_ways), ("_law_sizes", .fn 0 sp__law_sizes), ("tuple", .blt), ("len", .blt)], dc := ["_law_every"] } 30 (defBody (top 48)) = some (t__law_reading) := by kernel_rfl
theorem k19 (L : LL w h K mg base) : GOk (GG w K mg base) 2 ([("str", .blt), ("_law_ways", .fn 0 sp__law_ways), ("_law_sizes", .fn 0 sp__law_sizes), ("tuple", .blt), ("len", .blt)] : List (Str × GE)) := (gok_cons (eok_blt (He.free_ok L.kb L.nb (L.c.t.d.fact 30 rfl))) (gok_cons (eok_fn (g__law_ways L) (by decide)) (gok_cons (eok_fn (g__law_sizes L) (by decide)) (gok_cons (eok_blt (He.free_ok L.kb L.nb (L.c.t.d.fact 28 rfl))) (gok_cons (eok_blt (He.free_ok L.kb L.nb (L.c.t.d.fact 25 rfl))) gok_nil)))))
theorem g__law_reading (L : LL w h K mg base) : GFn (GG w K mg base) 3 1 "_law_reading" sp__law_reading := gfn_byG (f__law_reading L) (N := ["_law_text_here", "_law_every", "_law_many", "_law_way", "_law_size", "_law_found", "_law_line"]) (by kernel_rfl) rfl b__law_reading (k19 L) c__law_reading sp__law_reading_mono p__law_reading
theorem f__law_names (L : LL w h K mg base) : DefF K mg "_law_names" (defArgs (top 42)) (defBody (top 42)) (defScope (top 42)) := L.def_ 19 19 rfl rfl
theorem b__law_names (kV doc pm : Value) (an : Option Addr) (cdv ct : Value) (us : List Value) (h : us.length = ([("_law_e" : Str)] : List Str).length) : bindArgs (PySem.W.fnOf "_law_names" "_law_names" (defArgs (top 42)) (defBody (top 42)) (defScope (top 42)) .none kV doc pm an cdv ct) ⟨us, []⟩ = pure ((["_law_e"] : List Str).zip us) := by
  match us, h with
  | [u0], _ => kernel_rfl
theorem c__law_names (aE cE : Addr) : cSs { N := ["_law_e", "_law_some", "_law_words", "_law_word", "_law_good"], sc := defScope (top 42), gl := [("isinstance", .blt), ("InvalidNumber", .val (D.ref (He.ga K "InvalidNumber"))), ("InvalidChain", .val (D.ref (He.ga K "InvalidChain"))), ("InvalidStep", .val (D.ref (He.ga K "InvalidStep"))), ("InvalidNumbers", .val (D.ref (He.ga K "InvalidNumbers"))), ("InvalidIndex", .val (D.ref (He.ga K "InvalidIndex"))), ("InvalidPairs", .val (D.ref (He.ga K "InvalidPairs"))), ("Impossible", .val (D.ref (He.ga K "Impossible"))), ("OutOfReach", .val (D.ref (He.ga K "OutOfReach"))), ("InvalidText", .val (D.ref (He.ga K "InvalidText"))), ("TooMany", .val (D.ref (He.ga K "TooMany"))), ("NothingToUndo", .val (D.ref (He.ga K "NothingToUndo"))), ("Unlike", .val (D.ref (He.ga K "Unlike"))), ("zip", .blt), ("int", .blt), ("ValueError", .blt)], hot := some (some (K, aE, cE)) } 30 (defBody (top 42)) = some (t__law_names (He.ga K) K aE cE) := by kernel_rfl
theorem k20 (L : LL w h K mg base) : GOk (GG w K mg base) 0 ([("isinstance", .blt), ("InvalidNumber", .val (D.ref (He.ga K "InvalidNumber"))), ("InvalidChain", .val (D.ref (He.ga K "InvalidChain"))), ("InvalidStep", .val (D.ref (He.ga K "InvalidStep"))), ("InvalidNumbers", .val (D.ref (He.ga K "InvalidNumbers"))), ("InvalidIndex", .val (D.ref (He.ga K "InvalidIndex"))), ("InvalidPairs", .val (D.ref (He.ga K "InvalidPairs"))), ("Impossible", .val (D.ref (He.ga K "Impossible"))), ("OutOfReach", .val (D.ref (He.ga K "OutOfReach"))), ("InvalidText", .val (D.ref (He.ga K "InvalidText"))), ("TooMany", .val (D.ref (He.ga K "TooMany"))), ("NothingToUndo", .val (D.ref (He.ga K "NothingToUndo"))), ("Unlike", .val (D.ref (He.ga K "Unlike"))), ("zip", .blt), ("int", .blt), ("ValueError", .blt)] : List (Str × GE)) := (gok_cons (eok_blt (He.free_ok L.kb L.nb (L.c.t.d.fact 31 rfl))) (gok_cons (eok_ref (L.glo 47 rfl)) (gok_cons (eok_ref (L.glo 46 rfl)) (gok_cons (eok_ref (L.glo 45 rfl)) (gok_cons (eok_ref (L.glo 50 rfl)) (gok_cons (eok_ref (L.glo 49 rfl)) (gok_cons (eok_ref (L.glo 48 rfl)) (gok_cons (eok_ref (L.glo 53 rfl)) (gok_cons (eok_ref (L.glo 52 rfl)) (gok_cons (eok_ref (L.glo 51 rfl)) (gok_cons (eok_ref (L.glo 56 rfl)) (gok_cons (eok_ref (L.glo 55 rfl)) (gok_cons (eok_ref (L.glo 54 rfl)) (gok_cons (eok_blt (He.free_ok L.kb L.nb (L.c.t.d.fact 33 rfl))) (gok_cons (eok_blt (He.free_ok L.kb L.nb (L.c.t.d.fact 27 rfl))) (gok_cons (eok_blt (He.free_ok L.kb L.nb (L.c.t.d.fact 34 rfl))) gok_nil))))))))))))))))
theorem g__law_names (L : LL w h K mg base) : NamesOk (GG w K mg base) 1 "_law_names" (fun D s => nmS K D = some s) := by
  obtain ⟨fd, hF⟩ := (f__law_names L).fn
  refine names_of (k := 0) hF (C8.fnScope_by (N := ["_law_e", "_law_some", "_law_words", "_law_word", "_law_good"]) (P := ["_law_e"]) (by kernel_rfl)) rfl b__law_names (f__law_names L).mg (k20 L) (fun a D => c__law_names a D) (fun D s h => ?_) (fun a D s S Q h q => ?_)
  · obtain ⟨p, hp, rfl, rfl⟩ := nmS_get h
    exact (errB_at (exs L).1 hp).1
  · obtain ⟨p, hp, rfl, rfl⟩ := nmS_get h
    exact p__law_names (exs L).1 hp a S Q q
theorem f__law_told (L : LL w h K mg base) : DefF K mg "_law_told" (defArgs (top 44)) (defBody (top 44)) (defScope (top 44)) := L.def_ 20 20 rfl rfl
theorem b__law_told (kV doc pm : Value) (an : Option Addr) (cdv ct : Value) (us : List Value) (h : us.length = ([("_law_call" : Str)] : List Str).length) : bindArgs (PySem.W.fnOf "_law_told" "_law_told" (defArgs (top 44)) (defBody (top 44)) (defScope (top 44)) .none kV doc pm an cdv ct) ⟨us, []⟩ = pure ((["_law_call"] : List Str).zip us) := by
  match us, h with
  | [u0], _ => kernel_rfl
theorem g__law_told (L : LL w h K mg base) : Runner (GG w K mg base) 24 "_law_told" (dTold (fun d => .tup [d, .str ""]) (nmTD K)) := by
  obtain ⟨fd, hF⟩ := (f__law_told L).fn
  exact runner_told (k := 24) (kn := 1) (nmx := "_law_names") (nm := fun D s => nmS K D = some s) (i := 1) hF (C8.fnScope_by (N := ["_law_call", "_law_e"]) (P := ["_law_call"]) (by kernel_rfl)) b__law_told (f__law_told L).mg rfl (g__law_names L) (by decide) (L.glo 44 rfl)
    (fun D s h => by
      obtain ⟨p, hp, rfl, rfl⟩ := nmS_get h
      exact (errB_at (exs L).1 hp).2.2.1)
    (fun D d h => by
      unfold nmTD at h
      cases e : nmS K D with
      | none => rw [e] at h; cases h
      | some s => rw [e] at h; cases h; exact ⟨s, rfl, rfl⟩)
    (by decide +kernel) rfl (by kernel_rfl) (by kernel_rfl) rfl (by kernel_rfl) (by kernel_rfl) (by kernel_rfl) (by kernel_rfl) (by kernel_rfl) (by kernel_rfl)
theorem f__law_error (L : LL w h K mg base) : DefF K mg "_law_error" (defArgs (top 43)) (defBody (top 43)) (defScope (top 43)) := L.def_ 21 21 rfl rfl
theorem b__law_error (kV doc pm : Value) (an : Option Addr) (cdv ct : Value) (us : List Value) (h : us.length = ([("_law_call" : Str)] : List Str).length) : bindArgs (PySem.W.fnOf "_law_error" "_law_error" (defArgs (top 43)) (defBody (top 43)) (defScope (top 43)) .none kV doc pm an cdv ct) ⟨us, []⟩ = pure ((["_law_call"] : List Str).zip us) := by
  match us, h with
  | [u0], _ => kernel_rfl
theorem g__law_error (L : LL w h K mg base) : Runner (GG w K mg base) 24 "_law_error" (dTold (fun _ => .str "") (nmD K)) := by
  obtain ⟨fd, hF⟩ := (f__law_error L).fn
  exact runner_err (k := 24) (kn := 1) (nmx := "_law_names") (nm := fun D s => nmS K D = some s) (i := 1) hF (C8.fnScope_by (N := ["_law_call", "_law_e"]) (P := ["_law_call"]) (by kernel_rfl)) b__law_error (f__law_error L).mg rfl (g__law_names L) (by decide) (L.glo 44 rfl)
    (fun D s h => by
      obtain ⟨p, hp, rfl, rfl⟩ := nmS_get h
      exact (errB_at (exs L).1 hp).2.2.1)
    (fun D d h => by
      unfold nmD at h
      cases e : nmS K D with
      | none => rw [e] at h; cases h
      | some s => rw [e] at h; cases h; exact ⟨s, rfl, rfl⟩)
    (by decide +kernel) rfl (by kernel_rfl) (by kernel_rfl) rfl (by kernel_rfl) (by kernel_rfl) (by kernel_rfl) (by kernel_rfl) (by kernel_rfl) (by kernel_rfl)
theorem f__law_refused (L : LL w h K mg base) : DefF K mg "_law_refused" (defArgs (top 46)) (defBody (top 46)) (defScope (top 46)) := L.def_ 22 22 rfl rfl
theorem b__law_refused (kV doc pm : Value) (an : Option Addr) (cdv ct : Value) (us : List Value) (h : us.length = ([("_law_call" : Str), ("_law_odds" : Str), ("_law_names_here" : Str)] : List Str).length) : bindArgs (PySem.W.fnOf "_law_refused" "_law_refused" (defArgs (top 46)) (defBody (top 46)) (defScope (top 46)) .none kV doc pm an cdv ct) ⟨us, []⟩ = pure ((["_law_call", "_law_odds", "_law_names_here"] : List Str).zip us) := by
  match us, h with
  | [u0, u1, u2], _ => kernel_rfl
theorem c__law_refused : cSs { N := ["_law_call", "_law_odds", "_law_names_here", "_law_odd"], sc := defScope (top 46), gl := [("_law_error", .run 24 (dTold (fun _ => .str "") (nmD K)))], lq := some "_law_refused.<locals>.<lambda>", lj := 24, lg := [], cf := true, rv := rvG (GG w K mg base) 22 } 30 (defBody (top 46)) = some (t__law_refused (rvG (GG w K mg base) 22) (dTold (fun _ => .str "") (nmD K))) := by kernel_rfl
theorem k21 (L : LL w h K mg base) : GOk (GG w K mg base) 26 ([("_law_error", .run 24 (dTold (fun _ => .str "") (nmD K)))] : List (Str × GE)) := (gok_cons (eok_run (by decide) (g__law_error L)) gok_nil)
theorem g__law_refused (L : LL w h K mg base) : GFn (GG w K mg base) 27 3 "_law_refused" (sp__law_refused (rvG (GG w K mg base) 22) (nmD K)) := gfn_byL (f__law_refused L) (N := ["_law_call", "_law_odds", "_law_names_here", "_law_odd"]) (by kernel_rfl) rfl b__law_refused rfl rfl rfl ⟨(k21 L), rvG_mono, .inr ⟨22, Nat.le_of_ble_eq_true rfl, fun _ h => h, fun _ _ _ _ _ h => h⟩, fun q e => ⟨gok_nil, .inr ⟨22, Nat.le_of_ble_eq_true rfl, fun _ h => h, fun _ _ _ _ _ h => h⟩⟩⟩ (L.lam (exs L).2.1 (x := "_law_refused") (by simp [tf]) (fun q e => by cases e; rfl)) c__law_refused sp__law_refused_mono (p__law_refused rvG_mono)
theorem f__law_bad_chains (L : LL w h K mg base) : DefF K mg "_law_bad_chains" (defArgs (top 45)) (defBody (top 45)) (defScope (top 45)) := L.def_ 23 23 rfl rfl
theorem b__law_bad_chains (kV doc pm : Value) (an : Option Addr) (cdv ct : Value) (us : List Value) (h : us.length = ([] : List Str).length) : bindArgs (PySem.W.fnOf "_law_bad_chains" "_law_bad_chains" (defArgs (top 45)) (defBody (top 45)) (defScope (top 45)) .none kV doc pm an cdv ct) ⟨us, []⟩ = pure (([] : List Str).zip us) := by
  match us, h with
  | [], _ => kernel_rfl
theorem c__law_bad_chains : cSs { N := ["_law_some"], sc := defScope (top 45), gl := [] } 30 (defBody (top 45)) = some (t__law_bad_chains) := by kernel_rfl
theorem k22 (L : LL w h K mg base) : GOk (GG w K mg base) 0 ([] : List (Str × GE)) := gok_nil
theorem g__law_bad_chains (L : LL w h K mg base) : GFn (GG w K mg base) 1 0 "_law_bad_chains" sp__law_bad_chains := gfn_by (f__law_bad_chains L) (N := ["_law_some"]) (by kernel_rfl) rfl b__law_bad_chains (k22 L) c__law_bad_chains sp__law_bad_chains_mono p__law_bad_chains
theorem f_law (L : LL w h K mg base) : DefF K mg "law" (defArgs (top 49)) (defBody (top 49)) (defScope (top 49)) := L.def_ 24 24 rfl rfl
theorem b_law (kV doc pm : Value) (an : Option Addr) (cdv ct : Value) (us : List Value) (h : us.length = ([("_law_script" : Str)] : List Str).length) : bindArgs (PySem.W.fnOf "law" "law" (defArgs (top 49)) (defBody (top 49)) (defScope (top 49)) .none kV doc pm an cdv ct) ⟨us, []⟩ = pure ((["_law_script"] : List Str).zip us) := by
  match us, h with
  | [u0], _ => kernel_rfl
theorem c_law : cSs { N := ["_law_script", "_law_k", "_law_source_here", "_law_chain_here", "_law_text_here", "_law_turn", "_law_at", "_law_sign", "_law_spoilt", "_law_due", "_law_odds", "_law_two", "_law_lift", "_law_odd"], sc := defScope (top 49), gl := [("range", .blt), ("min", .blt), ("len", .blt), ("_law_source", .fn 2 sp__law_source), ("_law_chain", .fn 2 sp__law_chain), ("_law_text", .fn 1 sp__law_text), ("chain_text", .fv (He.ga K "chain_text") 1 (sp_chain_text (He.ga K))), ("read_chain", .fv (He.ga K "read_chain") 1 (sp_read_chain (He.ga K))), ("_law_draw", .fn 2 sp__law_draw), ("_law_choice", .fn 2 sp__law_choice), ("_law_reading", .fn 1 sp__law_reading), ("_law_told", .run 24 (dTold (fun d => .tup [d, .str ""]) (nmTD K))), ("_law_refused", .fn 3 (sp__law_refused (rvG (GG w K mg base) 22) (nmD K))), ("_law_bad_chains", .fn 0 sp__law_bad_chains), ("_law_error", .run 24 (dTold (fun _ => .str "") (nmD K)))], lq := some "law.<locals>.<lambda>", lj := 24, lg := [("read_chain", .fn 1 (sp_read_chain (He.ga K)))], cf := true, rv := rvG (GG w K mg base) 22 } 30 (defBody (top 49)) = some (t_law (He.ga K) (He.ga K) (dTold (fun _ => .str "") (nmD K)) (dTold (fun d => .tup [d, .str ""]) (nmTD K)) (sp__law_refused (rvG (GG w K mg base) 22) (nmD K))) := by kernel_rfl
theorem ref_t (L : LL w h K mg base) : RefT (rvG (GG w K mg base) 22) (nmD K) (.d (.ref (He.ga K "read_chain"))) := by
  have F := (g_read_chain L).at_ (L.glo 15 rfl)
  refine ⟨F.kp, fun d S hp hn => ⟨1, sp_read_chain (He.ga K), F.mono (by decide), rfl, d, rfl, hp, fun _ => ⟨rfl, _, rfl, nmD_of (exs L).1 (by decide +kernel)⟩, fun z e => ?_⟩⟩
  rcases hn with hn | ⟨y, e2, h2, h3⟩
  · exact absurd e (hn z)
  · rw [e2] at e
    injection e with e
    subst e
    exact ⟨h2, (fun c q => by rw [h3] at q; cases q), fun _ => ⟨rfl, _, rfl, nmD_of (exs L).1 (by decide +kernel)⟩⟩
theorem ref_c (L : LL w h K mg base) : RefC (rvG (GG w K mg base) 22) (nmD K) (.d (.ref (He.ga K "chain_text"))) := by
  have F := (g_chain_text L).at_ (L.glo 12 rfl)
  exact ⟨F.kp, fun d S hp hg => ⟨1, sp_chain_text (He.ga K), F.mono (by decide), rfl, d, rfl, hp, (fun _ => ⟨rfl, _, rfl, nmD_of (exs L).1 (by decide +kernel)⟩), fun c hc e => by rw [e, goodChain_iff.mpr ⟨c, hc, rfl⟩] at hg; cases hg⟩⟩
theorem k23 (L : LL w h K mg base) : GOk (GG w K mg base) 28 ([("range", .blt), ("min", .blt), ("len", .blt), ("_law_source", .fn 2 sp__law_source), ("_law_chain", .fn 2 sp__law_chain), ("_law_text", .fn 1 sp__law_text), ("chain_text", .fv (He.ga K "chain_text") 1 (sp_chain_text (He.ga K))), ("read_chain", .fv (He.ga K "read_chain") 1 (sp_read_chain (He.ga K))), ("_law_draw", .fn 2 sp__law_draw), ("_law_choice", .fn 2 sp__law_choice), ("_law_reading", .fn 1 sp__law_reading), ("_law_told", .run 24 (dTold (fun d => .tup [d, .str ""]) (nmTD K))), ("_law_refused", .fn 3 (sp__law_refused (rvG (GG w K mg base) 22) (nmD K))), ("_law_bad_chains", .fn 0 sp__law_bad_chains), ("_law_error", .run 24 (dTold (fun _ => .str "") (nmD K)))] : List (Str × GE)) := (gok_cons (eok_blt (He.free_ok L.kb L.nb (L.c.t.d.fact 29 rfl))) (gok_cons (eok_blt (He.free_ok L.kb L.nb (L.c.t.d.fact 35 rfl))) (gok_cons (eok_blt (He.free_ok L.kb L.nb (L.c.t.d.fact 25 rfl))) (gok_cons (eok_fn (g__law_source L) (by decide)) (gok_cons (eok_fn (g__law_chain L) (by decide)) (gok_cons (eok_fn (g__law_text L) (by decide)) (gok_cons (eok_fv (L.glo 12 rfl) (g_chain_text L) (by decide)) (gok_cons (eok_fv (L.glo 15 rfl) (g_read_chain L) (by decide)) (gok_cons (eok_fn (g__law_draw L) (by decide)) (gok_cons (eok_fn (g__law_choice L) (by decide)) (gok_cons (eok_fn (g__law_reading L) (by decide)) (gok_cons (eok_run (by decide) (g__law_told L)) (gok_cons (eok_fn (g__law_refused L) (by decide)) (gok_cons (eok_fn (g__law_bad_chains L) (by decide)) (gok_cons (eok_run (by decide) (g__law_error L)) gok_nil)))))))))))))))
theorem k24 (L : LL w h K mg base) : GOk (GG w K mg base) 24 ([("read_chain", .fn 1 (sp_read_chain (He.ga K)))] : List (Str × GE)) := (gok_cons (eok_fn (g_read_chain L) (by decide)) gok_nil)
theorem w_law (L : LL w h K mg base) {fd : FuncData} (hF : FunD K "law" "law" (defArgs (top 49)) (defBody (top 49)) (defScope (top 49)) [] [] (He.ga K "law") fd) : FnOk (PySem.W.OpenLaw.prog PySem.Challenge.rw_figuresteps_k11_texts_of_chains) w K mg base (L2N.CX (PySem.W.OpenLaw.prog PySem.Challenge.rw_figuresteps_k11_texts_of_chains) w) 29 (He.ga K "law") fd ["_law_script"] (upSp K ⟨tabsOf K tf, fun a => base.get? a⟩ 1 spLaw) :=
  fnok_by (G := GG w K mg base) (k := 28) hF (C8.fnScope_by (N := ["_law_script", "_law_k", "_law_source_here", "_law_chain_here", "_law_text_here", "_law_turn", "_law_at", "_law_sign", "_law_spoilt", "_law_due", "_law_odds", "_law_two", "_law_lift", "_law_odd"]) (by kernel_rfl)) rfl b_law rfl rfl rfl ⟨(k23 L), rvG_mono, .inr ⟨22, Nat.le_of_ble_eq_true rfl, fun _ h => h, fun _ _ _ _ _ h => h⟩, fun q e => ⟨(k24 L), .inr ⟨22, Nat.le_of_ble_eq_true rfl, fun _ h => h, fun _ _ _ _ _ h => h⟩⟩⟩ ((L.lam (exs L).2.1 (x := "law") (by simp [tf]) (fun q e => by cases e; rfl)) _ hF) c_law spLaw_mono (fun as S Q E _ h => (p_law_k11 (nmD_of (exs L).1 (by decide +kernel)) (nmTD_of (exs L).1 (by decide +kernel)) (ref_t L) (ref_c L)) as S Q E h)
end
theorem walk : PySem.W.WalkO (PySem.W.view R.prog [49]) loose (PySem.W.XL (PySem.W.view R.prog [49]) []) hk.says R.toRowW (HandSHeadRun.topDef R.prog 49) [] (fun f vs => PySem.call f vs) := by
  refine LamX.walk_ofTsE (l := PySem.Challenge.rw_figuresteps_k11_texts_of_chains) (n := 63) (k := 29) (CX := fun w => L2N.CX (PySem.W.OpenLaw.prog PySem.Challenge.rw_figuresteps_k11_texts_of_chains) w) (x := "_law_script") rfl (by decide) rfl ⟨rfl, by decide, by decide⟩ ?_ (fun w H s e s' z => no_left H s e s' z)
  rintro w mg f h ⟨K, hK, c⟩ hns hmg
  have e1 : mg "law" = some (.ref (He.ga K "law")) := He.glo_ok hK hns (c.t.d.fact 24 rfl)
  have e2 : f = He.ga K "law" := by
    have z : mg "law" = some (.ref f) := hmg
    rw [e1] at z
    cases z
    rfl
  subst e2
  obtain ⟨fd, hF⟩ := c.t.d.def_ (d := df "law" 49) 24 rfl
  exact ⟨K, hK, law_at hK c (fun s u => binds0 hF b_law s [u] rfl) fun base kb nb tb => w_law ⟨c, kb, nb, tb⟩ hF⟩
section
end
end Hd
open PySem PySem.W PySem.Calls PyProof.Rows
set_option maxHeartbeats 0 in
theorem PySem.Challenge.cw_figuresteps_k11_texts_of_chains_holds : PySem.Challenge.rw_figuresteps_k11_texts_of_chains.Holds := by
  w_on; o_law
  refine HandSHeadRun.head_any (r := OpenLaw.row PySem.Challenge.rw_figuresteps_k11_texts_of_chains) (q := view (OpenLaw.row PySem.Challenge.rw_figuresteps_k11_texts_of_chains).prog [49]) (H := Hd.hk) (ob := Hd.ob) (M := 40000) (loose := Hd.loose) (d := HandSHeadRun.topDef (OpenLaw.row PySem.Challenge.rw_figuresteps_k11_texts_of_chains).prog 49) (kwd := []) Hd.ob_eq
    (by kernel_rfl) (fun s => by kernel_rfl) Hd.run (by kernel_rfl) (by kernel_rfl) (by kernel_rfl) (by rfl) (by first | assumption | decide +kernel) (by decide +kernel) ⟨rfl, rfl, rfl, rfl, rfl, by decide +kernel⟩ ?hw ?hc
  case hw => w_witness2
  case hc => exact Hd.walk
