import PyProof.Rows.All
import PySem.Challenge.RW_grainyard_k47_reduced_forms
import Wide.All
import OpenK.AllK
import Wide.FinOn
import KE.KStateDown
import PyProof.EqAt
import PyProof.EqKinds
import PyProof.TupleCall
import KE.KStar
import HandS.Base
import HandS.Call
import HandS.List
import HandS.Comp
import HandS.Dict
import HandS.Iter
import HandS.Text
import HandS.Exc
import HandS.Walk
import HandS.Wide
import HandS.Lambda
import HandS.IsInst
import HandS.Style
import HandS.Deep
import HandS.TryOnly
import HandS.Star
import HandS.Defaults
import HandS.Words
import HandS.WordsExc
import HandS.WideBits
import HandS.Property
import HandS.OwnEq
import HandS.MethStar
import PyProof.InstNe
import HandS.HeadHook1
import PyProof.Rows.Range3
import HandS.ExcInit
import HandS.ExcField
import HandS.HotCalls
import HandS.Ends
import HandS.More
import HandS.Head0
import HandS.Head1
import HandS.Head2
import HandS.HeadEnd
import HandS.HeadHook2
import HandS.HeadHook4
import HandS.EndTab
import HandS.HeadNt
set_option Elab.async false
set_option linter.all false
set_option maxRecDepth 100000
set_option maxHeartbeats 0
/-! A small evaluator over data and a store, with the states of the hand layer that it stands for. -/
namespace GY
open PySem PySem.Spec PyProof.Rows L2

/-- data; loc n: the n-th object of the store -/
inductive D where
  | non
  | bl (b : Bool)
  | int (i : Int)
  | str (x : Str)
  | tup (ds : List D)
  | lst (ds : List D)
  | frz (ds : List D)
  | ins (c : Nat) (fs : List (Nat × D))
  | exc (c : Nat) (fs : List (Nat × D))
  | loc (n : Nat)

/-- an object of the store -/
inductive Ob where
  | lst (ds : List D)
  | ins (c : Nat) (fs : List (Nat × D))

/-- what a text fixes: the written part, where the classes stand, the attributes' names -/
structure Sg where
  K : PySem.W.Frag
  cls : Nat → Addr
  fld : Nat → Str
  ok : Nat → Bool
  tab : List (Addr × Str) := []

abbrev Hs := List Ob
abbrev Env1 := List (Option D)

/-- an outcome -/
inductive Out (α : Type) where
  | ok (a : α) (h : Hs)
  | exc (e : D) (h : Hs)
  | stuck

def Out.bind {α β : Type} (o : Out α) (f : α → Hs → Out β) : Out β :=
  match o with
  | .ok a h => f a h
  | .exc e h => .exc e h
  | .stuck => .stuck

@[simp] theorem Out.bind_ok {α β : Type} (a : α) (h : Hs) (f : α → Hs → Out β) : (Out.ok a h).bind f = f a h := rfl
@[simp] theorem Out.bind_exc {α β : Type} (e : D) (h : Hs) (f : α → Hs → Out β) : (Out.exc e h : Out α).bind f = .exc e h := rfl
@[simp] theorem Out.bind_stuck {α β : Type} (f : α → Hs → Out β) : (Out.stuck : Out α).bind f = .stuck := rfl

/-! ### what stands for what -/
def isLoc : D → Bool
  | .loc _ => true
  | _ => false
/-- no item is an object of the store -/
def noLoc (ds : List D) : Bool := ds.all fun d => !isLoc d
/-- a tuple of the written part -/
def KTup (K : PySem.W.Frag) (a : Addr) (xs : List V) : Prop :=
  ∃ (o : Obj) (its : Array Value) (n : Nat), K.lookup a = some o ∧ o.cls = .type "tuple" ∧ o.data = .seq its n ∧ its.size ≤ sizeLine ∧ Vals xs its.toList
/-- a list of the written part -/
def KLst (K : PySem.W.Frag) (a : Addr) (xs : List V) : Prop :=
  ∃ (o : Obj) (its : Array Value) (n : Nat), K.lookup a = some o ∧ o.cls = .type "list" ∧ o.dict = none ∧ o.data = .seq its n ∧ its.size ≤ sizeLine ∧ Vals xs its.toList
/-- where the store's objects stand; other objects that no datum is -/
structure Lay where
  st : List Addr
  ex : List Addr
def Lay.off (il : Lay) (a : Addr) : Prop := a ∉ il.st ∧ a ∉ il.ex
section
variable (G : Sg) (il : Lay) (H : Hp)
mutual
inductive Rep : D → V → Prop
  | non : Rep .non .non
  | bl (b : Bool) : Rep (.bl b) (.bl b)
  | int (i : Int) : Rep (.int i) (.int i)
  | str (x : Str) : Rep (.str x) (.str x)
  | tup {a : Addr} {xs : List V} {ds : List D} : (Rd H a (.tup xs) ∧ il.off a) ∨ KTup G.K a xs → noLoc ds = true → Reps ds xs → Rep (.tup ds) (.ref a)
  | lst {a : Addr} {xs : List V} {ds : List D} : H a = some (.lst xs) → il.off a → noLoc ds = true → Reps ds xs → Rep (.lst ds) (.ref a)
  | frz {a : Addr} {xs : List V} {ds : List D} : (Rd H a (.lst xs) ∧ il.off a) ∨ KLst G.K a xs → noLoc ds = true → Reps ds xs → Rep (.frz ds) (.ref a)
  | ins {a dx : Addr} {c : Nat} {fs : List (Nat × D)} {gs : List (Str × V)} : G.ok c = true → H a = some (.ins (G.cls c) dx gs) → H dx = some (.own a) → il.off a → il.off dx → noLoc (fs.map (·.2)) = true → gs.map (·.1) = fs.map (fun p => G.fld p.1) → Reps (fs.map (·.2)) (gs.map (·.2)) → Rep (.ins c fs) (.ref a)
  | loc {n : Nat} {a : Addr} : il.st[n]? = some a → Rep (.loc n) (.ref a)
inductive Reps : List D → List V → Prop
  | nil : Reps [] []
  | cons {d : D} {v : V} {ds : List D} {vs : List V} : Rep d v → Reps ds vs → Reps (d :: ds) (v :: vs)
end
def ObR : Ob → Addr → Prop
  | .lst ds, a => ∃ xs, H a = some (.lst xs) ∧ Reps G il H ds xs ∧ noLoc ds = true
  | .ins c fs, a => G.ok c = true ∧ ∃ dx gs, H a = some (.ins (G.cls c) dx gs) ∧ H dx = some (.own a) ∧ il.off dx ∧ noLoc (fs.map (·.2)) = true ∧ gs.map (·.1) = fs.map (fun p => G.fld p.1) ∧ Reps G il H (fs.map (·.2)) (gs.map (·.2))
/-- the store -/
structure WR (h : Hs) : Prop where
  len : il.st.length = h.length
  nd : il.st.Nodup
  ob : ∀ (n : Nat) (a : Addr) (o : Ob), il.st[n]? = some a → h[n]? = some o → ObR G il H o a
  trk : ∀ a ∈ il.ex, ∃ xs, H a = some (.lst xs)
  dis : ∀ a ∈ il.ex, a ∉ il.st
  tab : LamX.Tabs G.tab H
/-- the names -/
structure ER (r : Env1) (s : L2.St) : Prop where
  len : r.length = s.length
  at_ : ∀ (i : Nat) (d : D), r[i]? = some (some d) → ∃ v, s[i]? = some (some v) ∧ Rep G il H d v
end
/-- a later state -/
structure Ext (il : Lay) (H : Hp) (il' : Lay) (H' : Hp) : Prop where
  pre : il.st <+: il'.st
  sub : ∀ a ∈ il.ex, a ∈ il'.ex
  keep : ∀ a o, H a = some o → il.off a → ∀ (nt : ∀ ps, o ≠ .tbl ps := by (intro _ z; cases z)), H' a = some o
  new : ∀ a, ¬ il'.off a → ¬ il.off a ∨ ∀ o, H a = some o → ∃ ps, o = .tbl ps
  kex : ∀ a ∈ il.ex, ∀ o, H a = some o → H' a = some o

section
variable {G : Sg} {il il1 il2 : Lay} {H H1 H2 : Hp} {h : Hs}
theorem Ext.refl : Ext il H il H := ⟨List.prefix_refl _, fun _ m => m, fun _ _ e _ _ => e, fun _ m => .inl m, fun _ _ _ e => e⟩
theorem Ext.notin (e : Ext il H il1 H1) {a : Addr} {o : HO} (h : H a = some o) (n : il.off a) (nt : ∀ ps, o ≠ .tbl ps := by (intro _ z; cases z)) : il1.off a := Classical.byContradiction fun m => by
  rcases e.new a m with z | z
  · exact z n
  · obtain ⟨ps, e⟩ := z o h; exact nt ps e
theorem Ext.trans (a : Ext il H il1 H1) (b : Ext il1 H1 il2 H2) : Ext il H il2 H2 where
  pre := a.pre.trans b.pre
  sub := fun c m => b.sub c (a.sub c m)
  keep := fun c o e n nt => b.keep c o (a.keep c o e n nt) (a.notin e n nt) nt
  new := fun c m => by
    rcases b.new c m with z | z
    · exact a.new c z
    · by_cases hc : il.off c
      · refine .inr fun o e => Classical.byContradiction fun t => ?_
        exact t (z o (a.keep c o e hc fun ps y => t ⟨ps, y⟩))
      · exact .inl hc
  kex := fun c m o e => b.kex c (a.sub c m) o (a.kex c m o e)
theorem Rd.ext (e : Ext il H il1 H1) {a : Addr} {u : HO} (r : Rd H a u) (n : il.off a) (nt : ∀ ps, u ≠ .tbl ps := by (intro _ z; cases z)) : Rd H1 a u ∧ il1.off a := by
  rcases r with r | ⟨o, r⟩
  · exact ⟨.inl (e.keep _ _ r n nt), e.notin r n nt⟩
  · exact ⟨.inr ⟨o, e.keep _ _ r n⟩, e.notin r n⟩
theorem Ext.at_ (e : Ext il H il1 H1) {n : Nat} {a : Addr} (h : il.st[n]? = some a) : il1.st[n]? = some a := by
  obtain ⟨t, ht⟩ := e.pre
  have : n < il.st.length := (List.getElem?_eq_some_iff.mp h).1
  rw [← ht, List.getElem?_append_left this]
  exact h
mutual
theorem Rep.ext (e : Ext il H il1 H1) : ∀ {d : D} {v : V}, Rep G il H d v → Rep G il1 H1 d v
  | _, _, .non => .non
  | _, _, .bl b => .bl b
  | _, _, .int i => .int i
  | _, _, .str x => .str x
  | _, _, .tup (.inl h) n r => .tup (.inl (Rd.ext e h.1 h.2)) n (Reps.ext e r)
  | _, _, .tup (.inr h) n r => .tup (.inr h) n (Reps.ext e r)
  | _, _, .lst h m n r => .lst (e.keep _ _ h m) (e.notin h m) n (Reps.ext e r)
  | _, _, .frz (.inl h) n r => .frz (.inl (Rd.ext e h.1 h.2)) n (Reps.ext e r)
  | _, _, .frz (.inr h) n r => .frz (.inr h) n (Reps.ext e r)
  | _, _, .ins hk h1 h2 n1 n2 n3 h3 r => .ins hk (e.keep _ _ h1 n1) (e.keep _ _ h2 n2) (e.notin h1 n1) (e.notin h2 n2) n3 h3 (Reps.ext e r)
  | _, _, .loc h => .loc (e.at_ h)
theorem Reps.ext (e : Ext il H il1 H1) : ∀ {d : List D} {v : List V}, Reps G il H d v → Reps G il1 H1 d v
  | _, _, .nil => .nil
  | _, _, .cons a b => .cons (Rep.ext e a) (Reps.ext e b)
end
theorem ER.ext (e : Ext il H il1 H1) {r : Env1} {s : L2.St} (h : ER G il H r s) : ER G il1 H1 r s :=
  ⟨h.len, fun i d q => let ⟨v, a, b⟩ := h.at_ i d q; ⟨v, a, b.ext e⟩⟩
/-- as Ext, but what is held apart may change -/
structure Ext0 (il : Lay) (H : Hp) (il' : Lay) (H' : Hp) : Prop where
  pre : il.st <+: il'.st
  sub : ∀ a ∈ il.ex, a ∈ il'.ex
  keep : ∀ a o, H a = some o → il.off a → ∀ (nt : ∀ ps, o ≠ .tbl ps := by (intro _ z; cases z)), H' a = some o
  new : ∀ a, ¬ il'.off a → ¬ il.off a ∨ ∀ o, H a = some o → ∃ ps, o = .tbl ps
theorem Ext.e0 (e : Ext il H il1 H1) : Ext0 il H il1 H1 := ⟨e.pre, e.sub, fun a o h n nt => e.keep a o h n nt, e.new⟩
theorem Ext0.notin (e : Ext0 il H il1 H1) {a : Addr} {o : HO} (h : H a = some o) (n : il.off a) (nt : ∀ ps, o ≠ .tbl ps := by (intro _ z; cases z)) : il1.off a := Classical.byContradiction fun m => by
  rcases e.new a m with z | z
  · exact z n
  · obtain ⟨ps, e⟩ := z o h; exact nt ps e
theorem Ext0.trans (a : Ext0 il H il1 H1) (b : Ext0 il1 H1 il2 H2) : Ext0 il H il2 H2 where
  pre := a.pre.trans b.pre
  sub := fun c m => b.sub c (a.sub c m)
  keep := fun c o e n nt => b.keep c o (a.keep c o e n nt) (a.notin e n nt) nt
  new := fun c m => by
    rcases b.new c m with z | z
    · exact a.new c z
    · by_cases hc : il.off c
      · refine .inr fun o e => Classical.byContradiction fun t => ?_
        exact t (z o (a.keep c o e hc fun ps y => t ⟨ps, y⟩))
      · exact .inl hc
theorem Rd.ext0 (e : Ext0 il H il1 H1) {a : Addr} {u : HO} (r : Rd H a u) (n : il.off a) (nt : ∀ ps, u ≠ .tbl ps := by (intro _ z; cases z)) : Rd H1 a u ∧ il1.off a := by
  rcases r with r | ⟨o, r⟩
  · exact ⟨.inl (e.keep _ _ r n nt), e.notin r n nt⟩
  · exact ⟨.inr ⟨o, e.keep _ _ r n⟩, e.notin r n⟩
theorem Ext0.at_ (e : Ext0 il H il1 H1) {n : Nat} {a : Addr} (h : il.st[n]? = some a) : il1.st[n]? = some a := by
  obtain ⟨t, ht⟩ := e.pre
  have : n < il.st.length := (List.getElem?_eq_some_iff.mp h).1
  rw [← ht, List.getElem?_append_left this]
  exact h
mutual
theorem Rep.ext0 (e : Ext0 il H il1 H1) : ∀ {d : D} {v : V}, Rep G il H d v → Rep G il1 H1 d v
  | _, _, .non => .non
  | _, _, .bl b => .bl b
  | _, _, .int i => .int i
  | _, _, .str x => .str x
  | _, _, .tup (.inl h) n r => .tup (.inl (Rd.ext0 e h.1 h.2)) n (Reps.ext0 e r)
  | _, _, .tup (.inr h) n r => .tup (.inr h) n (Reps.ext0 e r)
  | _, _, .lst h m n r => .lst (e.keep _ _ h m) (e.notin h m) n (Reps.ext0 e r)
  | _, _, .frz (.inl h) n r => .frz (.inl (Rd.ext0 e h.1 h.2)) n (Reps.ext0 e r)
  | _, _, .frz (.inr h) n r => .frz (.inr h) n (Reps.ext0 e r)
  | _, _, .ins hk h1 h2 n1 n2 n3 h3 r => .ins hk (e.keep _ _ h1 n1) (e.keep _ _ h2 n2) (e.notin h1 n1) (e.notin h2 n2) n3 h3 (Reps.ext0 e r)
  | _, _, .loc h => .loc (e.at_ h)
theorem Reps.ext0 (e : Ext0 il H il1 H1) : ∀ {d : List D} {v : List V}, Reps G il H d v → Reps G il1 H1 d v
  | _, _, .nil => .nil
  | _, _, .cons a b => .cons (Rep.ext0 e a) (Reps.ext0 e b)
end
theorem ER.ext0 (e : Ext0 il H il1 H1) {r : Env1} {s : L2.St} (h : ER G il H r s) : ER G il1 H1 r s :=
  ⟨h.len, fun i d q => let ⟨v, a, b⟩ := h.at_ i d q; ⟨v, a, b.ext0 e⟩⟩
theorem Ext0.exput (e : Ext0 il1 H1 il H) {p : Addr} {o : HO} (hp : p ∈ il1.ex) : Ext0 il1 H1 il (upd H p o) :=
  ⟨e.pre, e.sub, fun a u q n nt => by
    rw [upd_ne (show a ≠ p from fun z => n.2 (z ▸ hp))]
    exact e.keep a u q n nt, e.new⟩
mutual
theorem Rep.less (hs : il1.st.length ≤ il.st.length) (hp : il1.st <+: il.st) (hx : ∀ a ∈ il1.ex, a ∈ il.ex) : ∀ {d : D} {v : V}, isLoc d = false → Rep G il H d v → Rep G il1 H d v
  | _, _, _, .non => .non
  | _, _, _, .bl b => .bl b
  | _, _, _, .int i => .int i
  | _, _, _, .str x => .str x
  | _, _, _, .tup (.inl h) n r => .tup (.inl ⟨h.1, fun z => h.2.1 (hp.subset z), fun z => h.2.2 (hx _ z)⟩) n (Reps.less hs hp hx n r)
  | _, _, _, .tup (.inr h) n r => .tup (.inr h) n (Reps.less hs hp hx n r)
  | _, _, _, .lst h m n r => .lst h ⟨fun z => m.1 (hp.subset z), fun z => m.2 (hx _ z)⟩ n (Reps.less hs hp hx n r)
  | _, _, _, .frz (.inl h) n r => .frz (.inl ⟨h.1, fun z => h.2.1 (hp.subset z), fun z => h.2.2 (hx _ z)⟩) n (Reps.less hs hp hx n r)
  | _, _, _, .frz (.inr h) n r => .frz (.inr h) n (Reps.less hs hp hx n r)
  | _, _, _, .ins hk h1 h2 n1 n2 n3 h3 r => .ins hk h1 h2 ⟨fun z => n1.1 (hp.subset z), fun z => n1.2 (hx _ z)⟩ ⟨fun z => n2.1 (hp.subset z), fun z => n2.2 (hx _ z)⟩ n3 h3 (Reps.less hs hp hx n3 r)
  | _, _, e, .loc h => nomatch e
theorem Reps.less (hs : il1.st.length ≤ il.st.length) (hp : il1.st <+: il.st) (hx : ∀ a ∈ il1.ex, a ∈ il.ex) : ∀ {d : List D} {v : List V}, noLoc d = true → Reps G il H d v → Reps G il1 H d v
  | _, _, _, .nil => .nil
  | _, _, n, .cons a b => by
    unfold noLoc at n
    rw [List.all_cons, Bool.and_eq_true] at n
    exact .cons (Rep.less hs hp hx (by simpa using n.1) a) (Reps.less hs hp hx n.2 b)
end
theorem Reps.length : ∀ {ds : List D} {vs : List V}, Reps G il H ds vs → ds.length = vs.length
  | _, _, .nil => rfl
  | _, _, .cons _ b => congrArg Nat.succ (Reps.length b)
theorem Reps.get : ∀ {ds : List D} {vs : List V} {i : Nat} {d : D}, Reps G il H ds vs → ds[i]? = some d → ∃ v, vs[i]? = some v ∧ Rep G il H d v
  | _, _, _, _, .nil, e => by simp at e
  | _, _, 0, _, .cons a _, e => by simp at e; subst e; exact ⟨_, rfl, a⟩
  | _, _, i + 1, _, .cons _ b, e => by
    obtain ⟨v, h1, h2⟩ := Reps.get (i := i) b (by simpa using e)
    exact ⟨v, by simpa using h1, h2⟩
theorem Reps.get2 : ∀ {ds : List D} {vs : List V} {i : Nat} {v : V}, Reps G il H ds vs → vs[i]? = some v → ∃ d, ds[i]? = some d ∧ Rep G il H d v
  | _, _, _, _, .nil, e => by simp at e
  | _, _, 0, _, .cons a _, e => by simp at e; subst e; exact ⟨_, rfl, a⟩
  | _, _, i + 1, _, .cons _ b, e => by
    obtain ⟨v, h1, h2⟩ := Reps.get2 (i := i) b (by simpa using e)
    exact ⟨v, by simpa using h1, h2⟩
theorem Reps.append : ∀ {ds es : List D} {vs ws : List V}, Reps G il H ds vs → Reps G il H es ws → Reps G il H (ds ++ es) (vs ++ ws)
  | _, _, _, _, .nil, b => b
  | _, _, _, _, .cons a r, b => .cons a (Reps.append r b)
theorem Reps.take : ∀ {ds : List D} {vs : List V} (n : Nat), Reps G il H ds vs → Reps G il H (ds.take n) (vs.take n)
  | _, _, 0, _ => .nil
  | _, _, _ + 1, .nil => .nil
  | _, _, n + 1, .cons a b => .cons a (Reps.take n b)
theorem Reps.drop : ∀ {ds : List D} {vs : List V} (n : Nat), Reps G il H ds vs → Reps G il H (ds.drop n) (vs.drop n)
  | _, _, 0, r => r
  | _, _, _ + 1, .nil => .nil
  | _, _, n + 1, .cons _ b => Reps.drop n b
theorem Reps.set {d : D} {v : V} (q : Rep G il H d v) : ∀ {ds : List D} {vs : List V} (n : Nat), Reps G il H ds vs → Reps G il H (ds.set n d) (vs.set n v)
  | _, _, _, .nil => .nil
  | _, _, 0, .cons _ b => .cons q b
  | _, _, n + 1, .cons a b => .cons a (Reps.set q n b)
theorem Reps.snoc {d : D} {v : V} {ds : List D} {vs : List V} (r : Reps G il H ds vs) (q : Rep G il H d v) : Reps G il H (ds ++ [d]) (vs ++ [v]) := r.append (.cons q .nil)
theorem Reps.flat : ∀ {n : Nat} {ds : List D} {vs : List V}, Reps G il H ds vs → Reps G il H (List.replicate n ds).flatten (List.replicate n vs).flatten
  | 0, _, _, _ => by simpa using Reps.nil
  | n + 1, _, _, r => by
    rw [List.replicate_succ, List.replicate_succ, List.flatten_cons, List.flatten_cons]
    exact r.append (Reps.flat r)
theorem WR.tracked (w : WR G il H h) : ∀ a, ¬ il.off a → ∃ u, H a = some u := fun a m => by
  by_cases hx : a ∈ il.ex
  · obtain ⟨xs, e⟩ := w.trk a hx
    exact ⟨_, e⟩
  have hs : a ∈ il.st := Classical.byContradiction fun z => m ⟨z, hx⟩
  obtain ⟨n, hn, e⟩ := List.getElem_of_mem hs
  have h1 : il.st[n]? = some a := by rw [List.getElem?_eq_getElem hn, e]
  have h2 : n < h.length := by rw [← w.len]; exact hn
  have q := w.ob n a _ h1 (List.getElem?_eq_getElem h2)
  revert q
  cases h[n] with
  | lst ds => rintro ⟨xs, e, _⟩; exact ⟨_, e⟩
  | ins c fs => rintro ⟨_, dx, gs, e, _⟩; exact ⟨_, e⟩
theorem WR.notin (w : WR G il H h) {p : Addr} (hn : H p = none) : il.off p := Classical.byContradiction fun m => by
  obtain ⟨u, e⟩ := w.tracked p m
  rw [hn] at e; cases e
/-- what stands in the store is no table, no code object -/
theorem WR.kind (w : WR G il H h) {n : Nat} {a : Addr} (ha : il.st[n]? = some a) : ∃ o, H a = some o ∧ (∀ ps, o ≠ .tbl ps) ∧ ∀ c q, o ≠ LamX.CodeO c q := by
  have hl : n < h.length := by rw [← w.len]; exact (List.getElem?_eq_some_iff.mp ha).1
  have q := w.ob n a _ ha (List.getElem?_eq_getElem hl)
  revert q
  cases h[n] with
  | lst ds => rintro ⟨xs, e, _⟩; exact ⟨_, e, fun _ z => (nomatch z), fun _ _ z => by unfold LamX.CodeO at z; cases z⟩
  | ins c fs => rintro ⟨_, dx, gs, e, _⟩; exact ⟨_, e, fun _ z => (nomatch z), fun _ _ z => by unfold LamX.CodeO at z; cases z⟩
theorem tabs_upd {T : List (Addr × Str)} {a : Addr} {o0 o : HO} (t : LamX.Tabs T H) (h : H a = some o0) (t1 : ∀ ps, o0 ≠ .tbl ps) (t2 : ∀ c q, o0 ≠ LamX.CodeO c q) : LamX.Tabs T (upd H a o) := fun p m => by
  obtain ⟨ps, h1, h2, h3⟩ := t p m
  refine ⟨ps, by rw [upd_ne (fun z => t1 ps (by rw [z, h] at h1; exact Option.some.inj h1))]; exact h1, h2, fun pos cv hc => ?_⟩
  obtain ⟨c, e1, e2⟩ := h3 pos cv hc
  exact ⟨c, e1, by rw [upd_ne (fun z => t2 c _ (by rw [← z, e2] at h; exact (Option.some.inj h).symm))]; exact e2⟩
/-- a fresh object -/
theorem WR.ext1 (w : WR G il H h) {p : Addr} {o : HO} (hn : H p = none) : Ext il H il (upd H p o) :=
  ⟨List.prefix_refl _, fun _ m => m, fun a u e _ _ => by rw [upd_ne (ne_of_none e hn)]; exact e, fun _ m => .inl m, fun a m u e => by rw [upd_ne (ne_of_none e hn)]; exact e⟩
theorem ObR.ext (e : Ext il H il1 H1) {o : Ob} {a : Addr} (k : ∀ u, H a = some u → H1 a = some u) (q : ObR G il H o a) : ObR G il1 H1 o a := by
  cases o with
  | lst ds => obtain ⟨xs, e1, r, n⟩ := q; exact ⟨xs, k _ e1, r.ext e, n⟩
  | ins c fs => obtain ⟨hk, dx, gs, e1, e2, n1, n2, e3, r⟩ := q; exact ⟨hk, dx, gs, k _ e1, e.keep _ _ e2 n1, e.notin e2 n1, n2, e3, r.ext e⟩
theorem WR.fresh (w : WR G il H h) {p : Addr} {o : HO} (hn : H p = none) : WR G il (upd H p o) h :=
  ⟨w.len, w.nd, fun n a ob h1 h2 => (w.ob n a ob h1 h2).ext (w.ext1 hn) fun u e => by rw [upd_ne (ne_of_none e hn)]; exact e, fun a m => by
    obtain ⟨u, e⟩ := w.trk a m
    exact ⟨u, by rw [upd_ne (ne_of_none e hn)]; exact e⟩, w.dis, w.tab.ext fun b o e => by rw [upd_ne (ne_of_none e hn)]; exact e⟩
/-- a fresh object that no datum is -/
def Lay.add (il : Lay) (p : Addr) : Lay := ⟨il.st, p :: il.ex⟩
theorem WR.hide (w : WR G il H h) {p : Addr} {xs : List V} (hn : H p = none) : WR G (il.add p) (upd H p (.lst xs)) h ∧ Ext il H (il.add p) (upd H p (.lst xs)) := by
  have e : Ext il H (il.add p) (upd H p (.lst xs)) := ⟨List.prefix_refl _, fun a m => List.mem_cons_of_mem _ m, fun a u e _ _ => by rw [upd_ne (ne_of_none e hn)]; exact e, fun a m => by
    by_cases ha : a = p
    · exact .inr fun o q => by rw [ha, hn] at q; cases q
    · exact .inl fun z => m ⟨z.1, fun y => (List.mem_cons.mp y).elim ha z.2⟩, fun a m u e => by rw [upd_ne (ne_of_none e hn)]; exact e⟩
  refine ⟨⟨w.len, w.nd, fun n a ob h1 h2 => (w.ob n a ob h1 h2).ext e fun u q => by rw [upd_ne (ne_of_none q hn)]; exact q, fun a m => ?_, fun a m => ?_, w.tab.ext fun b o e => by rw [upd_ne (ne_of_none e hn)]; exact e⟩, e⟩
  · rcases List.mem_cons.mp m with rfl | m
    · exact ⟨xs, upd_same⟩
    · obtain ⟨u, e⟩ := w.trk a m
      exact ⟨u, by rw [upd_ne (ne_of_none e hn)]; exact e⟩
  · rcases List.mem_cons.mp m with rfl | m
    · exact (w.notin hn).1
    · exact w.dis a m
/-- such an object is written -/
theorem WR.exput (w : WR G il H h) {p : Addr} {zs : List V} (hp : p ∈ il.ex) : WR G il (upd H p (.lst zs)) h := by
  have ne : ∀ a, il.off a → a ≠ p := fun a m z => by subst z; exact m.2 hp
  have nst : ∀ a ∈ il.st, a ≠ p := fun a m z => by subst z; exact w.dis _ hp m
  have rep : ∀ {d : D} {v : V}, Rep G il H d v → Rep G il (upd H p (.lst zs)) d v := fun {d v} r => by
    have e : Ext ⟨il.st, il.ex⟩ H ⟨il.st, il.ex⟩ H := Ext.refl
    exact (Rep.rec (motive_1 := fun d v _ => Rep G il (upd H p (.lst zs)) d v) (motive_2 := fun d v _ => Reps G il (upd H p (.lst zs)) d v) .non .bl .int .str
      (fun {a xs ds} hh nl _ rs => .tup (hh.elim (fun z => .inl ⟨z.1.elim (fun y => .inl (by rw [upd_ne (ne a z.2)]; exact y)) (fun ⟨ob, y⟩ => .inr ⟨ob, by rw [upd_ne (ne a z.2)]; exact y⟩), z.2⟩) .inr) nl rs)
      (fun {a xs ds} hh m nl _ rs => .lst (by rw [upd_ne (ne a m)]; exact hh) m nl rs)
      (fun {a xs ds} hh nl _ rs => .frz (hh.elim (fun z => .inl ⟨z.1.elim (fun y => .inl (by rw [upd_ne (ne a z.2)]; exact y)) (fun ⟨ob, y⟩ => .inr ⟨ob, by rw [upd_ne (ne a z.2)]; exact y⟩), z.2⟩) .inr) nl rs)
      (fun {a dx c fs gs} hk h1 h2 m1 m2 nl e _ rs => .ins hk (by rw [upd_ne (ne a m1)]; exact h1) (by rw [upd_ne (ne dx m2)]; exact h2) m1 m2 nl e rs)
      (fun hh => .loc hh) .nil (fun _ _ a b => .cons a b) r)
  have reps : ∀ {ds : List D} {vs : List V}, Reps G il H ds vs → Reps G il (upd H p (.lst zs)) ds vs := fun {ds} => by
    induction ds with
    | nil => intro vs r; cases r; exact .nil
    | cons d ds ih => intro vs r; cases r with | cons a b => exact .cons (rep a) (ih b)
  obtain ⟨l0, hl0⟩ := w.trk p hp
  refine ⟨w.len, w.nd, fun n a ob h1 h2 => ?_, fun a m => ?_, w.dis, tabs_upd w.tab hl0 (fun _ z => (nomatch z)) (fun _ _ z => by unfold LamX.CodeO at z; cases z)⟩
  · have q := w.ob n a ob h1 h2
    have na := nst a (List.mem_of_getElem? h1)
    cases ob with
    | lst ds => obtain ⟨xs, e1, r, nl⟩ := q; exact ⟨xs, by rw [upd_ne na]; exact e1, reps r, nl⟩
    | ins c fs => obtain ⟨hk, dx, gs, e1, e2, n1, n2, e3, r⟩ := q; exact ⟨hk, dx, gs, by rw [upd_ne na]; exact e1, by rw [upd_ne (ne dx n1)]; exact e2, n1, n2, e3, reps r⟩
  · by_cases ha : a = p
    · subst ha; exact ⟨zs, upd_same⟩
    · obtain ⟨u, e⟩ := w.trk a m
      exact ⟨u, by rw [upd_ne ha]; exact e⟩
theorem Reps.exput {p : Addr} {o : HO} (hp : p ∈ il.ex) {ds : List D} {vs : List V} (r : Reps G il H ds vs) : Reps G il (upd H p o) ds vs := by
  have ne : ∀ a, il.off a → a ≠ p := fun a m z => by subst z; exact m.2 hp
  exact (Reps.rec (motive_1 := fun d v _ => Rep G il (upd H p o) d v) (motive_2 := fun d v _ => Reps G il (upd H p o) d v) .non .bl .int .str
      (fun {a xs ds} hh nl _ rs => .tup (hh.elim (fun z => .inl ⟨z.1.elim (fun y => .inl (by rw [upd_ne (ne a z.2)]; exact y)) (fun ⟨ob, y⟩ => .inr ⟨ob, by rw [upd_ne (ne a z.2)]; exact y⟩), z.2⟩) .inr) nl rs)
      (fun {a xs ds} hh m nl _ rs => .lst (by rw [upd_ne (ne a m)]; exact hh) m nl rs)
      (fun {a xs ds} hh nl _ rs => .frz (hh.elim (fun z => .inl ⟨z.1.elim (fun y => .inl (by rw [upd_ne (ne a z.2)]; exact y)) (fun ⟨ob, y⟩ => .inr ⟨ob, by rw [upd_ne (ne a z.2)]; exact y⟩), z.2⟩) .inr) nl rs)
      (fun {a dx c fs gs} hk h1 h2 m1 m2 nl e _ rs => .ins hk (by rw [upd_ne (ne a m1)]; exact h1) (by rw [upd_ne (ne dx m2)]; exact h2) m1 m2 nl e rs)
      (fun hh => .loc hh) .nil (fun _ _ a b => .cons a b) r)
/-- a new object of the store -/
def Lay.push (il : Lay) (p : Addr) : Lay := ⟨il.st ++ [p], il.ex⟩
theorem WR.push (w : WR G il H h) {p : Addr} {ds : List D} {xs : List V} (hn : H p = none) (r : Reps G il H ds xs) (nl : noLoc ds = true) :
    WR G (il.push p) (upd H p (.lst xs)) (h ++ [.lst ds]) ∧ Ext il H (il.push p) (upd H p (.lst xs)) := by
  have e : Ext il H (il.push p) (upd H p (.lst xs)) := ⟨List.prefix_append _ _, fun _ m => m, fun a u e _ _ => by rw [upd_ne (ne_of_none e hn)]; exact e, fun a m => by
    by_cases ha : a = p
    · exact .inr fun o q => by rw [ha, hn] at q; cases q
    · exact .inl fun z => m ⟨fun y => (List.mem_append.mp y).elim z.1 (fun y => ha (by simpa using y)), z.2⟩, fun a m u e => by rw [upd_ne (ne_of_none e hn)]; exact e⟩
  refine ⟨⟨by simp [Lay.push, w.len], ?_, fun n a o h1 h2 => ?_, fun a m => ?_, fun a m z => ?_, w.tab.ext fun b o e => by rw [upd_ne (ne_of_none e hn)]; exact e⟩, e⟩
  · show (il.st ++ [p]).Nodup
    rw [List.nodup_append]
    refine ⟨w.nd, by simp, fun a ha b hb => ?_⟩
    have : b = p := by simpa using hb
    subst this
    rintro rfl
    exact (w.notin hn).1 ha
  · have h1 : (il.st ++ [p])[n]? = some a := h1
    by_cases hl : n < il.st.length
    · rw [List.getElem?_append_left hl] at h1
      rw [List.getElem?_append_left (by rw [← w.len]; exact hl)] at h2
      exact (w.ob n a o h1 h2).ext e fun u q => by rw [upd_ne (ne_of_none q hn)]; exact q
    · have hn' : n = il.st.length := by
        have := (List.getElem?_eq_some_iff.mp h1).1
        simp at this
        omega
      subst hn'
      rw [List.getElem?_append_right (Nat.le_refl _)] at h1
      rw [List.getElem?_append_right (by rw [w.len]; exact Nat.le_refl _), w.len] at h2
      simp at h1 h2
      subst h1; subst h2
      exact ⟨xs, upd_same, r.ext e, nl⟩
  · obtain ⟨u, q⟩ := w.trk a m
    exact ⟨u, by rw [upd_ne (ne_of_none q hn)]; exact q⟩
  · rcases List.mem_append.mp z with z | z
    · exact w.dis a m z
    · have : a = p := by simpa using z
      subst this
      exact (w.notin hn).2 m
/-- an object of the store is changed -/
theorem WR.put (w : WR G il H h) {n : Nat} {a : Addr} {ds : List D} {xs : List V} (ha : il.st[n]? = some a) (r : Reps G il H ds xs) (nl : noLoc ds = true) :
    WR G il (upd H a (.lst xs)) (h.set n (.lst ds)) ∧ Ext il H il (upd H a (.lst xs)) := by
  have hm : a ∈ il.st := List.mem_of_getElem? ha
  have nx : a ∉ il.ex := fun z => w.dis a z hm
  obtain ⟨o0, ho0, t1, t2⟩ := w.kind ha
  have e : Ext il H il (upd H a (.lst xs)) := ⟨List.prefix_refl _, fun _ m => m, fun b u q nb _ => by
      rw [upd_ne]; exact q
      rintro rfl
      exact nb.1 hm, fun _ m => .inl m, fun b m u q => by
      rw [upd_ne]; exact q
      rintro rfl
      exact nx m⟩
  refine ⟨⟨by simp [w.len], w.nd, fun m b o h1 h2 => ?_, fun b m => ?_, w.dis, tabs_upd w.tab ho0 t1 t2⟩, e⟩
  · by_cases hmn : m = n
    · subst hmn
      rw [ha] at h1; cases h1
      have hl : m < h.length := by rw [← w.len]; exact (List.getElem?_eq_some_iff.mp ha).1
      rw [List.getElem?_set_self hl] at h2
      cases h2
      exact ⟨xs, upd_same, r.ext e, nl⟩
    · rw [List.getElem?_set_ne (Ne.symm hmn)] at h2
      refine (w.ob m b o h1 h2).ext e fun u q => ?_
      rw [upd_ne]; exact q
      rintro rfl
      obtain ⟨l1, e1⟩ := List.getElem?_eq_some_iff.mp ha
      obtain ⟨l2, e2⟩ := List.getElem?_eq_some_iff.mp h1
      exact hmn ((List.getElem_inj w.nd).mp (e2.trans e1.symm))
  · obtain ⟨u, q⟩ := w.trk b m
    exact ⟨u, e.kex b m _ q⟩
end

/-! ### an outcome's reading -/
/-- an exception's -/
def RepX (G : Sg) (il : Lay) (H : Hp) (e : D) (cls : Value) (a : Option Addr) : Prop :=
  ∃ (c : Nat) (fs : List (Nat × D)) (d : Addr) (gs : List (Str × V)), e = .exc c fs ∧ cls = .ref (G.cls c) ∧ a = some d ∧ H d = some (.xd gs) ∧ il.off d ∧ noLoc (fs.map (·.2)) = true ∧ gs.map (·.1) = fs.map (fun p => G.fld p.1) ∧ Reps G il H (fs.map (·.2)) (gs.map (·.2))
theorem RepX.cut {G : Sg} {il il1 : Lay} {H H1 : Hp} {e : D} {cls : Value} {a : Option Addr} (x : Ext il H il1 H1) (r : RepX G il1 H1 e cls a) : RepX G ⟨il.st, il.ex⟩ H1 e cls a := by
  obtain ⟨c, fs, d, gs, e1, e2, e3, e4, e5, e6, e7, e8⟩ := r
  exact ⟨c, fs, d, gs, e1, e2, e3, e4, ⟨fun z => e5.1 (x.pre.subset z), fun z => e5.2 (x.sub _ z)⟩, e6, e7, Reps.less (il := il1) (il1 := ⟨il.st, il.ex⟩) x.pre.length_le x.pre x.sub e6 e8⟩
def after (G : Sg) (o : Out D) (il : Lay) (H : Hp) (Q : VK) (E : XK) : Prop :=
  match o with
  | .ok d h' => ∀ v il' H', Ext il H il' H' → WR G il' H' h' → Rep G il' H' d v → Q v H'
  | .exc e h' => ∀ cls a il' H', Ext il H il' H' → WR G il' H' h' → RepX G il' H' e cls a → E cls a H'
  | .stuck => False
def afterL (G : Sg) (o : Out (List D)) (il : Lay) (H : Hp) (Q : List V → Hp → Prop) (E : XK) : Prop :=
  match o with
  | .ok d h' => ∀ v il' H', Ext il H il' H' → WR G il' H' h' → Reps G il' H' d v → Q v H'
  | .exc e h' => ∀ cls a il' H', Ext il H il' H' → WR G il' H' h' → RepX G il' H' e cls a → E cls a H'
  | .stuck => False
def afterB (G : Sg) (o : Out Bool) (il : Lay) (H : Hp) (Q : Bool → Hp → Prop) (E : XK) : Prop :=
  match o with
  | .ok b h' => ∀ il' H', Ext il H il' H' → WR G il' H' h' → Q b H'
  | .exc e h' => ∀ cls a il' H', Ext il H il' H' → WR G il' H' h' → RepX G il' H' e cls a → E cls a H'
  | .stuck => False
section
variable {G : Sg} {il il1 : Lay} {H H1 : Hp} {Q : VK} {E : XK}
theorem after.mono {o : Out D} (e : Ext il H il1 H1) (h : after G o il H Q E) : after G o il1 H1 Q E := by
  cases o with
  | ok d h' => exact fun v il' H' e' => h v il' H' (e.trans e')
  | exc x h' => exact fun c a il' H' e' => h c a il' H' (e.trans e')
  | stuck => exact h
theorem afterL.mono {o : Out (List D)} {Q : List V → Hp → Prop} (e : Ext il H il1 H1) (h : afterL G o il H Q E) : afterL G o il1 H1 Q E := by
  cases o with
  | ok d h' => exact fun v il' H' e' => h v il' H' (e.trans e')
  | exc x h' => exact fun c a il' H' e' => h c a il' H' (e.trans e')
  | stuck => exact h
theorem afterB.mono {o : Out Bool} {Q : Bool → Hp → Prop} (e : Ext il H il1 H1) (h : afterB G o il H Q E) : afterB G o il1 H1 Q E := by
  cases o with
  | ok d h' => exact fun il' H' e' => h il' H' (e.trans e')
  | exc x h' => exact fun c a il' H' e' => h c a il' H' (e.trans e')
  | stuck => exact h
theorem after_imp {o : Out D} {Q1 : VK} (h : after G o il H Q1 E) (f : ∀ v H, Q1 v H → Q v H) : after G o il H Q E := by
  cases o with
  | ok d h1 => exact fun v il1 H1 e w r => f _ _ (h v il1 H1 e w r)
  | exc x h1 => exact h
  | stuck => exact h
theorem after_impL {o : Out (List D)} {Q Q1 : List V → Hp → Prop} (h : afterL G o il H Q1 E) (f : ∀ v H, Q1 v H → Q v H) : afterL G o il H Q E := by
  cases o with
  | ok d h1 => exact fun v il1 H1 e w r => f _ _ (h v il1 H1 e w r)
  | exc x h1 => exact h
  | stuck => exact h
theorem after_impB {o : Out Bool} {Q Q1 : Bool → Hp → Prop} (h : afterB G o il H Q1 E) (f : ∀ v H, Q1 v H → Q v H) : afterB G o il H Q E := by
  cases o with
  | ok d h1 => exact fun il1 H1 e w => f _ _ (h il1 H1 e w)
  | exc x h1 => exact h
  | stuck => exact h
theorem after.bind {o : Out D} {f : D → Hs → Out D} (h : after G (o.bind f) il H Q E) :
    after G o il H (fun v H1 => ∃ il1 h1 d, Ext il H il1 H1 ∧ WR G il1 H1 h1 ∧ Rep G il1 H1 d v ∧ after G (f d h1) il1 H1 Q E) E := by
  cases o with
  | ok d h' => exact fun v il' H' e w r => ⟨il', h', d, e, w, r, after.mono e h⟩
  | exc x h' => exact h
  | stuck => exact h
theorem after.bindL {o : Out (List D)} {f : List D → Hs → Out D} (h : after G (o.bind f) il H Q E) :
    afterL G o il H (fun v H1 => ∃ il1 h1 d, Ext il H il1 H1 ∧ WR G il1 H1 h1 ∧ Reps G il1 H1 d v ∧ after G (f d h1) il1 H1 Q E) E := by
  cases o with
  | ok d h' => exact fun v il' H' e w r => ⟨il', h', d, e, w, r, after.mono e h⟩
  | exc x h' => exact h
  | stuck => exact h
theorem after.bindB {o : Out Bool} {f : Bool → Hs → Out D} (h : after G (o.bind f) il H Q E) :
    afterB G o il H (fun b H1 => ∃ il1 h1, Ext il H il1 H1 ∧ WR G il1 H1 h1 ∧ after G (f b h1) il1 H1 Q E) E := by
  cases o with
  | ok d h' => exact fun il' H' e w => ⟨il', h', e, w, after.mono e h⟩
  | exc x h' => exact h
  | stuck => exact h
theorem afterL.bind {o : Out D} {Q : List V → Hp → Prop} {f : D → Hs → Out (List D)} (h : afterL G (o.bind f) il H Q E) :
    after G o il H (fun v H1 => ∃ il1 h1 d, Ext il H il1 H1 ∧ WR G il1 H1 h1 ∧ Rep G il1 H1 d v ∧ afterL G (f d h1) il1 H1 Q E) E := by
  cases o with
  | ok d h' => exact fun v il' H' e w r => ⟨il', h', d, e, w, r, afterL.mono e h⟩
  | exc x h' => exact h
  | stuck => exact h
theorem afterL.bindL {o : Out (List D)} {Q : List V → Hp → Prop} {f : List D → Hs → Out (List D)} (h : afterL G (o.bind f) il H Q E) :
    afterL G o il H (fun v H1 => ∃ il1 h1 d, Ext il H il1 H1 ∧ WR G il1 H1 h1 ∧ Reps G il1 H1 d v ∧ afterL G (f d h1) il1 H1 Q E) E := by
  cases o with
  | ok d h' => exact fun v il' H' e w r => ⟨il', h', d, e, w, r, afterL.mono e h⟩
  | exc x h' => exact h
  | stuck => exact h
theorem afterB.bind {o : Out D} {Q : Bool → Hp → Prop} {f : D → Hs → Out Bool} (h : afterB G (o.bind f) il H Q E) :
    after G o il H (fun v H1 => ∃ il1 h1 d, Ext il H il1 H1 ∧ WR G il1 H1 h1 ∧ Rep G il1 H1 d v ∧ afterB G (f d h1) il1 H1 Q E) E := by
  cases o with
  | ok d h' => exact fun v il' H' e w r => ⟨il', h', d, e, w, r, afterB.mono e h⟩
  | exc x h' => exact h
  | stuck => exact h
theorem afterB.bindB {o : Out Bool} {Q : Bool → Hp → Prop} {f : Bool → Hs → Out Bool} (h : afterB G (o.bind f) il H Q E) :
    afterB G o il H (fun b H1 => ∃ il1 h1, Ext il H il1 H1 ∧ WR G il1 H1 h1 ∧ afterB G (f b h1) il1 H1 Q E) E := by
  cases o with
  | ok d h' => exact fun il' H' e w => ⟨il', h', e, w, afterB.mono e h⟩
  | exc x h' => exact h
  | stuck => exact h
end
end GY

namespace GY
open PySem PySem.Spec PyProof.Rows L2

inductive Bop where | add | sub | mul | fdiv | mod | pow | shl deriving DecidableEq
inductive Cop where | lt | le | gt | ge | eq | ne | isN | notN | isIn | notIn deriving DecidableEq
inductive Blt where | len | sum | all_ | any_ | min_ | max_ | abs_ | int_ | list_ | tuple_ | isT (tys : List String) deriving DecidableEq

inductive T where
  | nm (i : Nat)
  | tp (ts : List T)

inductive E where
  | con (d : D)
  | var (i : Nat)
  | bin (op : Bop) (a b : E)
  | neg (a : E)
  | not_ (a : E)
  | band (a b : E)
  | bor (a b : E)
  | cmp (op : Cop) (a b : E)
  | cmp2 (op op' : Cop) (a b c : E)
  | ite_ (c a b : E)
  | tup (es : List E)
  | lst (es : List E)
  | lnew (es : List E)
  | idx (a i : E)
  | slc (a : E) (lo hi : Option E)
  | call (f : Nat) (es : List E) (ks : List Nat) (kes : List E)
  | blt (b : Blt) (es : List E)
  | rng1 (a : E)
  | rng2 (a b : E)
  | lc (own : List Nat) (tg : T) (it : E) (cnd : List E) (elt : E)
  | app (o e : E)
  | bitl (a : E)
  | stk
  | attr (o : E) (f : Nat)
  | prop (o : E) (f : Nat)
  | meth (m : Nat) (cs : List Nat) (o : E) (es : List E) (ks : List Nat) (kes : List E)
  | new (c : Nat) (fr : Bool) (es : List E) (ks : List Nat) (kes : List E)
  | isI (o : E) (cs : List Nat)
  | bol (a : E)
  | lc2 (own : List Nat) (tg : T) (it : E) (cnd : List E) (vs1 : List Nat) (tg1 : T) (it1 : E) (cnd1 : List E) (elt : E)
  | tryc (ns cs : List Nat) (e : E)
  | cmp3 (o1 o2 o3 : Cop) (a b c d : E)

inductive S where
  | asg (t : T) (e : E)
  | par (is : List Nat) (es : List E)
  | put (o i e : E)
  | aug (i : Nat) (op : Bop) (e : E)
  | ex (e : E)
  | ret (e : E)
  | retN
  | ifs (c : E) (a b : List S)
  | for_ (t : T) (it : E) (b : List S)
  | whl (c : E) (b : List S)
  | setf (o : E) (f : Nat) (e : E)
  | rse0 (c wf : Nat) (w : Str)
  | rse1 (c wf : Nat) (w : Str) (f : Nat) (e : E)
  | brk
  | cnt
  | pas
  | stk

/-! ### operations on data -/
def bigOk (i j : Int) : Bool := decide (i.natAbs.log2 + j.natAbs.log2 < 1000000)
def seqOf (d : D) (h : Hs) : Option (List D) :=
  match d with
  | .tup ds => some ds
  | .lst ds => some ds
  | .frz ds => some ds
  | .loc n => match h[n]? with | some (.lst ds) => some ds | _ => none
  | _ => none
def lstOf (d : D) (h : Hs) : Option (List D) :=
  match d with
  | .lst ds => some ds
  | .frz ds => some ds
  | .loc n => match h[n]? with | some (.lst ds) => some ds | _ => none
  | _ => none
def mkLst (ds : List D) (h : Hs) : Out D := if noLoc ds && decide (ds.length ≤ sizeLine) then .ok (.lst ds) h else .stuck
def mkTup (ds : List D) (h : Hs) : Out D := if noLoc ds && decide (ds.length ≤ sizeLine) then .ok (.tup ds) h else .stuck
def binD (op : Bop) (a b : D) (h : Hs) : Out D :=
  match a, b with
  | .int i, .int j =>
    match op with
    | .add => .ok (.int (i + j)) h
    | .sub => .ok (.int (i - j)) h
    | .mul => if bigOk i j then .ok (.int (i * j)) h else .stuck
    | .fdiv => if 0 < j ∧ j.natAbs.log2 < 9000 then .ok (.int (i / j)) h else .stuck
    | .mod => if 0 < j then .ok (.int (i % j)) h else .stuck
    | .pow => if 0 ≤ j ∧ j ≤ 1000000 ∧ i.natAbs < 2 ^ 64 then .ok (.int (i ^ j.toNat)) h else .stuck
    | .shl => if 0 ≤ j ∧ j ≤ 1000000 ∧ i.natAbs < 2 ^ 64 then .ok (.int (i * 2 ^ j.toNat)) h else .stuck
  | .str x, .str y =>
    match op with
    | .add => if x.length + y.length ≤ sizeLine then .ok (.str (x ++ y)) h else .stuck
    | _ => .stuck
  | .lst xs, .lst ys =>
    match op with
    | .add => if xs.length + ys.length ≤ sizeLine then .ok (.lst (xs ++ ys)) h else .stuck
    | _ => .stuck
  | .lst xs, .int k =>
    match op with
    | .mul => if -(2 ^ 63) ≤ k ∧ k < 2 ^ 63 ∧ xs.length * k.toNat ≤ sizeLine then .ok (.lst (List.replicate k.toNat xs).flatten) h else .stuck
    | _ => .stuck
  | _, _ => .stuck
mutual
/-- plain data, for == -/
def toPy : D → Option PyData
  | .non => some .none
  | .bl b => some (.bool b)
  | .int i => some (.int i)
  | .str x => some (.str x)
  | .tup ds => (toPys ds).map .tuple
  | .lst ds => (toPys ds).map .list
  | _ => none
def toPys : List D → Option (List PyData)
  | [] => some []
  | d :: ds => match toPy d, toPys ds with
    | some x, some xs => some (x :: xs)
    | _, _ => none
end
/-- the data itself, an object of the store told -/
def deref (d : D) (h : Hs) : D :=
  match d with
  | .loc n => match h[n]? with | some (.lst ds) => .lst ds | _ => d
  | d => d
def eqD (a b : D) (h : Hs) : Option Bool :=
  match toPy (deref a h), toPy (deref b h) with
  | some x, some y => if SeqAt.shaped x && SeqAt.shaped y then some (PyData.eqv x y) else none
  | _, _ => none
def inD (a b : D) (h : Hs) : Option Bool :=
  match toPy a, seqOf b h with
  | some x, some ds => match toPys ds with
    | some ys => if SeqAt.shaped x && SeqAt.shaped (.list ys) then some (ys.any fun z => PyData.eqv z x) else none
    | none => none
  | _, _ => none
def cmpD (op : Cop) (a b : D) (h : Hs) : Out D :=
  match op with
  | .lt => match a, b with | .int i, .int j => .ok (.bl (decide (i < j))) h | _, _ => .stuck
  | .le => match a, b with | .int i, .int j => .ok (.bl (decide (i ≤ j))) h | _, _ => .stuck
  | .gt => match a, b with | .int i, .int j => .ok (.bl (decide (j < i))) h | _, _ => .stuck
  | .ge => match a, b with | .int i, .int j => .ok (.bl (decide (j ≤ i))) h | _, _ => .stuck
  | .eq => match eqD a b h with | some c => .ok (.bl c) h | none => .stuck
  | .ne => match eqD a b h with | some c => .ok (.bl !c) h | none => .stuck
  | .isN => match b with | .non => (match a with | .non => .ok (.bl true) h | _ => .ok (.bl false) h) | _ => .stuck
  | .notN => match b with | .non => (match a with | .non => .ok (.bl false) h | _ => .ok (.bl true) h) | _ => .stuck
  | .isIn => match inD a b h with | some c => .ok (.bl c) h | none => .stuck
  | .notIn => match inD a b h with | some c => .ok (.bl !c) h | none => .stuck
def truthD (d : D) (h : Hs) : Option Bool :=
  match d with
  | .non => some false
  | .bl b => some b
  | .int i => some (i != 0)
  | .str x => if x.length ≤ sizeLine then some ((x.length : Int) != 0) else none
  | d => (seqOf d h).map fun ds => !ds.isEmpty
def idxD (a i : D) (h : Hs) : Out D :=
  match i with
  | .int k => match seqOf a h with
    | some ds => match atI ds k with
      | some d => .ok d h
      | none => .stuck
    | none => .stuck
  | _ => .stuck
def cutD (ds : List D) (lo hi : Option Int) : List D := (ds.drop (HT.sIx ds.length 0 lo)).take (HT.sIx ds.length ds.length hi - HT.sIx ds.length 0 lo)
def slcD (a : D) (lo hi : Option Int) (h : Hs) : Out D :=
  match lstOf a h with
  | some ds => .ok (.lst (cutD ds lo hi)) h
  | none => .stuck
def ints? : List D → Option (List Int)
  | [] => some []
  | .int i :: ds => (ints? ds).map (i :: ·)
  | _ :: _ => none
def bools? : List D → Option (List Bool)
  | [] => some []
  | .bl i :: ds => (bools? ds).map (i :: ·)
  | _ :: _ => none
def tyName : D → Hs → Option String
  | .non, _ => some "NoneType"
  | .bl _, _ => some "bool"
  | .int _, _ => some "int"
  | .str _, _ => some "str"
  | .tup _, _ => some "tuple"
  | .lst _, _ => some "list"
  | .loc n, h => match h[n]? with | some (.lst _) => some "list" | _ => none
  | _, _ => none
/-- is the type named t one of tys or under one (bool under int)? -/
def isTy (t : String) (tys : List String) : Bool := tys.contains t || (t == "bool" && tys.contains "int")
def lenD (d : D) (h : Hs) : Out D :=
  match d with
  | .str x => if x.length ≤ sizeLine then .ok (.int x.length) h else .stuck
  | d => match seqOf d h with | some ds => .ok (.int ds.length) h | none => .stuck
/-- the least, the greatest -/
def minL : Int → List Int → Int
  | a, [] => a
  | a, b :: bs => minL (if b < a then b else a) bs
def maxL : Int → List Int → Int
  | a, [] => a
  | a, b :: bs => maxL (if b > a then b else a) bs
def bltD (b : Blt) (as : List D) (h : Hs) : Out D :=
  match b, as with
  | .len, [d] => lenD d h
  | .sum, [d] => match (lstOf d h).bind ints? with | some is => .ok (.int is.sum) h | none => .stuck
  | .all_, [d] => match (lstOf d h).bind bools? with | some bs => .ok (.bl (bs.all id)) h | none => .stuck
  | .any_, [d] => match (lstOf d h).bind bools? with | some bs => .ok (.bl (bs.any id)) h | none => .stuck
  | .min_, [d] => match (lstOf d h).bind ints? with | some (i :: is) => .ok (.int (minL i is)) h | _ => .stuck
  | .max_, [d] => match (lstOf d h).bind ints? with | some (i :: is) => .ok (.int (maxL i is)) h | _ => .stuck
  | .min_, [.int i, .int j] => .ok (.int (if j < i then j else i)) h
  | .max_, [.int i, .int j] => .ok (.int (if j > i then j else i)) h
  | .abs_, [.int i] => .ok (.int (i.natAbs : Nat)) h
  | .int_, [.bl c] => .ok (.int (if c then 1 else 0)) h
  | .int_, [.int i] => .ok (.int i) h
  | .list_, [d] => match seqOf d h with | some ds => .ok (.lst ds) h | none => .stuck
  | .tuple_, [d] => match seqOf d h with | some ds => .ok (.tup ds) h | none => .stuck
  | .isT tys, [d] => match tyName d h with | some t => .ok (.bl (isTy t tys)) h | none => .stuck
  | _, _ => .stuck
/-- is it a list of the store? -/
def lstLoc (o : D) (h : Hs) : Bool :=
  match o with
  | .loc n => match h[n]? with
    | some (.lst _) => true
    | _ => false
  | _ => false
/-- xs.append(d), xs an object of the store -/
def appD (o d : D) (h : Hs) : Out D :=
  match o with
  | .loc n => match h[n]? with
    | some (.lst ds) => if !isLoc d && decide (ds.length < sizeLine) then .ok .non (h.set n (.lst (ds ++ [d]))) else .stuck
    | _ => .stuck
  | _ => .stuck
/-- xs[i] = d, xs an object of the store -/
def putD (o i d : D) (h : Hs) : Out Unit :=
  match o, i with
  | .loc n, .int k => match h[n]? with
    | some (.lst ds) => if !isLoc d then (match ixN ds.length k with | some j => .ok () (h.set n (.lst (ds.set j d))) | none => .stuck) else .stuck
    | _ => .stuck
  | _, _ => .stuck

/-! ### names -/
mutual
def bindT : T → D → Env1 → Hs → Option Env1
  | .nm i, d, r, _ => some (r.set i (some d))
  | .tp ts, d, r, h => match seqOf d h with
    | some ds => bindTs ts ds r h
    | none => none
def bindTs : List T → List D → Env1 → Hs → Option Env1
  | [], [], r, _ => some r
  | t :: ts, d :: ds, r, h => match bindT t d r h with
    | some r' => bindTs ts ds r' h
    | none => none
  | _, _, _, _ => none
end
def wipeE (r : Env1) : List Nat → Env1
  | [] => r
  | v :: vs => (wipeE r vs).set v none
def rngD (lo hi : Int) : List D := (List.range (hi - lo).toNat).map fun (k : Nat) => D.int (lo + k)

open Classical in
/-- the turns of a comprehension; g: the list that is walked stays -/
noncomputable def compL (f : D → Hs → Out (Option D)) (g : Hs → Prop) : List D → List D → Hs → Out (List D)
  | [], acc, h => .ok acc h
  | d :: ds, acc, h => match f d h with
    | .ok none h1 => if g h1 then compL f g ds acc h1 else .stuck
    | .ok (some y) h1 => if g h1 then (if !isLoc y && decide (acc.length < sizeLine) then compL f g ds (acc ++ [y]) h1 else .stuck) else .stuck
    | _ => .stuck
/-- what a walk leans on: the object that is walked -/
def stays (d : D) (h : Hs) : Hs → Prop := match d with
  | .loc n => fun h' => h'[n]? = h[n]?
  | _ => fun _ => True

/-! ### instances -/
/-- the def that the class c has under the name m -/
def mid (c m : Nat) : Nat := 1000 + 200 * c + m
/-- the names that the operators ask for; the other names stand behind them -/
def spNames : List Str := ["__init__", "__add__", "__sub__", "__mul__", "__neg__", "__getitem__", "__eq__", "__bool__", "__len__", "__contains__", "__repr__", "__call__"]
def fldsOf (d : D) (h : Hs) : Option (Nat × List (Nat × D)) :=
  match d with
  | .ins c fs => some (c, fs)
  | .loc n => match h[n]? with | some (.ins c fs) => some (c, fs) | _ => none
  | _ => none
def clsOf (d : D) (h : Hs) : Option Nat := (fldsOf d h).map (·.1)
def attrD (x : D) (f : Nat) (h : Hs) : Out D :=
  match fldsOf x h with
  | some (_, fs) => match fs.lookup f with | some d => .ok d h | none => .stuck
  | none => .stuck
def isND (d : D) (h : Hs) (cs : List Nat) : Out D :=
  match d with
  | .ins c _ => .ok (.bl (cs.contains c)) h
  | .loc n => match h[n]? with | some (.ins c _) => .ok (.bl (cs.contains c)) h | some (.lst _) => .ok (.bl false) h | none => .stuck
  | .exc _ _ => .stuck
  | .frz _ => .stuck
  | _ => .ok (.bl false) h
/-- a new instance behind its __init__: data from now on, or (fr) an object of the store -/
def demote (fr : Bool) (L : Nat) (h : Hs) : Out D :=
  if fr = true then .ok (.loc L) h else
    match h[L]? with
    | some (.ins c fs) => if h.length = L + 1 then .ok (.ins c fs) (h.take L) else .stuck
    | _ => .stuck
def putFd (f : Nat) (d : D) : List (Nat × D) → List (Nat × D)
  | [] => [(f, d)]
  | p :: r => if p.1 = f then (f, d) :: r else p :: putFd f d r
/-- o.f = d, o an object of the store -/
def setfD (o : D) (f : Nat) (d : D) (h : Hs) : Out Unit :=
  match o with
  | .loc n => match h[n]? with
    | some (.ins c fs) => if !isLoc d && decide (fs.length < 1000) then .ok () (h.set n (.ins c (putFd f d fs))) else .stuck
    | _ => .stuck
  | _ => .stuck

abbrev Fns := Nat → List D → List (Nat × D) → Hs → Out D

/-- what an expression is worth as a value, as a test, as what is walked -/
structure Den where
  v : Env1 → Hs → Out D
  t : Env1 → Hs → Out Bool
  i : Env1 → Hs → Out (List D × D)
def tstOf (v : Env1 → Hs → Out D) (r : Env1) (h : Hs) : Out Bool := (v r h).bind fun d h1 => match truthD d h1 with | some b => .ok b h1 | none => .stuck
def itOf (v : Env1 → Hs → Out D) (r : Env1) (h : Hs) : Out (List D × D) := (v r h).bind fun x h1 => match seqOf x h1 with
    | some ds => .ok (ds, x) h1
    | none => .stuck
def Den.of (v : Env1 → Hs → Out D) : Den := ⟨v, tstOf v, itOf v⟩
def evs : List Den → Env1 → Hs → Out (List D)
  | [], _, h => .ok [] h
  | e :: es, r, h => (e.v r h).bind fun d h1 => (evs es r h1).bind fun ds h2 => .ok (d :: ds) h2
def tss : List Den → Env1 → Hs → Out Bool
  | [], _, h => .ok true h
  | e :: es, r, h => (e.t r h).bind fun c h1 => if c = true then tss es r h1 else .ok false h1
def evo : Option Den → Env1 → Hs → Out (Option Int)
  | none, _, h => .ok none h
  | some e, r, h => (e.v r h).bind fun d h1 => match d with | .int i => .ok (some i) h1 | _ => .stuck
def binF (F : Fns) (op : Bop) (x y : D) (h : Hs) : Out D :=
  match clsOf x h with
  | some c => match op with
    | .add => if clsOf y h = some c then F (mid c 1) [x, y] [] h else .stuck
    | .sub => if clsOf y h = some c then F (mid c 2) [x, y] [] h else .stuck
    | .mul => match y with | .int _ => F (mid c 3) [x, y] [] h | _ => .stuck
    | _ => .stuck
  | none => binD op x y h
def negF (F : Fns) (x : D) (h : Hs) : Out D :=
  match x with
  | .int i => .ok (.int (-i)) h
  | x => match clsOf x h with
    | some c => F (mid c 4) [x] [] h
    | none => .stuck
/-- what a def must answer: True or False -/
def blX (o : Out D) (k : Bool → Bool) : Out D :=
  match o with
  | .ok (.bl b) h => .ok (.bl (k b)) h
  | _ => .stuck
def cmpF (F : Fns) (op : Cop) (x y : D) (h : Hs) : Out D :=
  match op with
  | .eq => match clsOf x h with
    | some c => if clsOf y h = some c ∨ (tyName y h).isSome = true then F (mid c 6) [x, y] [] h else .stuck
    | none => cmpD .eq x y h
  | .ne => match clsOf x h with
    | some c => if clsOf y h = some c then blX (F (mid c 6) [x, y] [] h) not else .stuck
    | none => cmpD .ne x y h
  | .isIn => match clsOf y h with
    | some c => blX (F (mid c 9) [y, x] [] h) id
    | none => cmpD .isIn x y h
  | .notIn => match clsOf y h with
    | some c => blX (F (mid c 9) [y, x] [] h) not
    | none => cmpD .notIn x y h
  | op => cmpD op x y h
/-- bool(x) -/
def bolF (F : Fns) (x : D) (h : Hs) : Out D :=
  match clsOf x h with
  | some c => blX (F (mid c 7) [x] [] h) id
  | none => .stuck
def noX (o : Out D) : Out D :=
  match o with
  | .exc _ _ => .stuck
  | o => o
def newD (F : Fns) (c : Nat) (fr : Bool) (ds : List D) (kw : List (Nat × D)) (h : Hs) : Out D :=
  (F (mid c 0) (.loc h.length :: ds) kw (h ++ [.ins c []])).bind fun d h3 => match d with
    | .non => demote fr h.length h3
    | _ => .stuck
def methD (m : Nat) (cs : List Nat) (x : D) (k : Nat → Out D) (h : Hs) : Out D :=
  match fldsOf x h with
  | some (c, fs) => if (cs.contains c && (fs.lookup m).isNone) = true then k c else .stuck
  | none => .stuck
noncomputable def lcD (own : List Nat) (tg : T) (it : Den) (cnd : List Den) (elt : Den) (r : Env1) (h : Hs) : Out D :=
  (it.i r h).bind fun p h1 => (compL (fun d h2 => match bindT tg d (wipeE r own) h2 with
        | some r2 => (tss cnd r2 h2).bind fun b h3 => if b = true then (elt.v r2 h3).bind fun y h4 => .ok (some y) h4 else .ok none h3
        | none => .stuck) (stays p.2 h1) p.1 [] h1).bind fun ys h2 => .ok (.lst ys) h2
open Classical in
noncomputable def comp2L (f : D → List D → Hs → Out (List D)) (g : Hs → Prop) : List D → List D → Hs → Out (List D)
  | [], acc, h => .ok acc h
  | d :: ds, acc, h => match f d acc h with
    | .ok acc' h1 => if g h1 then comp2L f g ds acc' h1 else .stuck
    | _ => .stuck
noncomputable def turn1 (own : List Nat) (tg : T) (cnd : List Den) (elt : Den) (r : Env1) (d : D) (h2 : Hs) : Out (Option D) :=
  match bindT tg d (wipeE r own) h2 with
  | some r2 => (tss cnd r2 h2).bind fun b h3 => if b = true then (elt.v r2 h3).bind fun y h4 => .ok (some y) h4 else .ok none h3
  | none => .stuck
noncomputable def lc2D (own : List Nat) (tg : T) (it : Den) (cnd : List Den) (vs1 : List Nat) (tg1 : T) (it1 : Den) (cnd1 : List Den) (elt : Den) (r : Env1) (h : Hs) : Out D :=
  (it.i r h).bind fun p h1 => (comp2L (fun d acc h2 => match bindT tg d (wipeE r own) h2 with
        | some r2 => (tss cnd r2 h2).bind fun b h3 => if b = true then (it1.i r2 h3).bind fun p1 h4 => compL (turn1 vs1 tg1 cnd1 elt r2) (stays p1.2 h4) p1.1 acc h4 else .ok acc h3
        | none => .stuck) (stays p.2 h1) p.1 [] h1).bind fun ys h2 => .ok (.lst ys) h2
/-- which field `_law_field_of` tells, by the word: 1 number, 2 at, 3 name, 4 most, 5 reason, 0 none -/
def foPick (w : Str) : Nat :=
  if w ∈ (["BadRoot", "BadCount", "NotLinked"] : List Str) then 1 else if w ∈ (["BadLength", "BadRow", "BadStep", "BadText", "BadDeed"] : List Str) then 2
  else if w ∈ (["BadName", "Taken"] : List Str) then 3 else if w ∈ (["TooGreat", "Full"] : List Str) then 4 else if w = "NoSquares" then 5 else 0
/-- what `_law_try` tells of an exception of one of the classes cs; ns: the numbers of word, number, at, name, most, reason -/
def tellX (ns cs : List Nat) (x : D) : Option (List D) :=
  match x with
  | .exc c fs => if cs.contains c = true then
      match fs.lookup (ns.getD 0 0) with
      | some (.str w) => match foPick w with
        | 0 => some [.str w, .non]
        | i => match fs.lookup (ns.getD i 0) with | some d => some [.str w, d] | none => none
      | _ => none
    else none
  | _ => none
def tryD (ns cs : List Nat) (o : Out D) : Out D :=
  match o with
  | .ok d h => mkTup [.str "told", d] h
  | .exc x h => match tellX ns cs x with | some ds => mkTup ds h | none => .stuck
  | .stuck => .stuck
def cmp3D (c1 c2 c3 : Cop) (va vb vc vd : Env1 → Hs → Out D) (r : Env1) (h : Hs) : Out D :=
  (va r h).bind fun x h1 => (vb r h1).bind fun y h2 => match cmpD c1 x y h2 with
    | .ok (.bl true) _ => (vc r h2).bind fun w h4 => match cmpD c2 y w h4 with
      | .ok (.bl true) _ => (vd r h4).bind fun u h6 => cmpD c3 w u h6
      | .ok (.bl false) _ => .ok (.bl false) h4
      | _ => .stuck
    | .ok (.bl false) _ => .ok (.bl false) h2
    | _ => .stuck
mutual
noncomputable def den (F : Fns) : E → Den
  | .con d => .of fun _ h => .ok d h
  | .var i => .of fun r h => match r[i]? with | some (some d) => .ok d h | _ => .stuck
  | .bin op a b => .of fun r h => ((den F a).v r h).bind fun x h1 => ((den F b).v r h1).bind fun y h2 => binF F op x y h2
  | .neg a => .of fun r h => ((den F a).v r h).bind fun x h1 => negF F x h1
  | .not_ a => ⟨fun r h => ((den F a).v r h).bind fun c h1 => match c with | .bl c => .ok (.bl (!c)) h1 | _ => .stuck, fun r h => ((den F a).t r h).bind fun c h1 => .ok (!c) h1, fun _ _ => .stuck⟩
  | .band a b => ⟨fun r h => ((den F a).v r h).bind fun x h1 => match x with | .bl c => if c = true then (den F b).v r h1 else .ok (.bl false) h1 | _ => .stuck,
      fun r h => ((den F a).t r h).bind fun c h1 => if c = true then (den F b).t r h1 else .ok false h1, fun _ _ => .stuck⟩
  | .bor a b => ⟨fun r h => ((den F a).v r h).bind fun x h1 => match x with | .bl c => if c = true then .ok (.bl true) h1 else (den F b).v r h1 | _ => .stuck,
      fun r h => ((den F a).t r h).bind fun c h1 => if c = true then .ok true h1 else (den F b).t r h1, fun _ _ => .stuck⟩
  | .cmp op a b => .of fun r h => ((den F a).v r h).bind fun x h1 => ((den F b).v r h1).bind fun y h2 => cmpF F op x y h2
  | .cmp2 op op' a b c => .of fun r h => ((den F a).v r h).bind fun x h1 => ((den F b).v r h1).bind fun y h2 => (cmpD op x y h2).bind fun z h3 => match z with
    | .bl k => if k = true then ((den F c).v r h3).bind fun w h4 => cmpD op' y w h4 else .ok (.bl false) h3
    | _ => .stuck
  | .ite_ c a b => ⟨fun r h => ((den F c).t r h).bind fun t h1 => if t = true then (den F a).v r h1 else (den F b).v r h1,
      fun r h => ((den F c).t r h).bind fun t h1 => if t = true then (den F a).t r h1 else (den F b).t r h1, itOf fun r h => ((den F c).t r h).bind fun t h1 => if t = true then (den F a).v r h1 else (den F b).v r h1⟩
  | .tup es => .of fun r h => (evs (dens F es) r h).bind fun ds h1 => mkTup ds h1
  | .lst es => .of fun r h => (evs (dens F es) r h).bind fun ds h1 => mkLst ds h1
  | .lnew es => .of fun r h => (evs (dens F es) r h).bind fun ds h1 => if noLoc ds && decide (ds.length ≤ sizeLine) then .ok (.loc h1.length) (h1 ++ [.lst ds]) else .stuck
  | .idx a i => .of fun r h => ((den F a).v r h).bind fun x h1 => ((den F i).v r h1).bind fun y h2 => idxD x y h2
  | .slc a lo hi => .of fun r h => ((den F a).v r h).bind fun x h1 => (evo (denO F lo) r h1).bind fun l h2 => (evo (denO F hi) r h2).bind fun u h3 => slcD x l u h3
  | .call f es ks kes => .of fun r h => (evs (dens F es) r h).bind fun ds h1 => (evs (dens F kes) r h1).bind fun vs h2 => F f ds (ks.zip vs) h2
  | .blt b es => .of fun r h => (evs (dens F es) r h).bind fun ds h1 => bltD b ds h1
  | .rng1 a => ⟨fun _ _ => .stuck, fun _ _ => .stuck, fun r h => ((den F a).v r h).bind fun x h1 => match x with
    | .int j => if -(2 ^ 62) ≤ j ∧ j < 2 ^ 62 then .ok (rngD 0 j, .non) h1 else .stuck
    | _ => .stuck⟩
  | .rng2 a b => ⟨fun _ _ => .stuck, fun _ _ => .stuck, fun r h => ((den F a).v r h).bind fun x h1 => ((den F b).v r h1).bind fun y h2 => match x, y with
    | .int i, .int j => if -(2 ^ 62) ≤ i ∧ i < 2 ^ 62 ∧ -(2 ^ 62) ≤ j ∧ j < 2 ^ 62 then .ok (rngD i j, .non) h2 else .stuck
    | _, _ => .stuck⟩
  | .lc own tg it cnd elt => .of (lcD own tg (den F it) (dens F cnd) (den F elt))
  | .stk => ⟨fun _ _ => .stuck, fun _ _ => .stuck, fun _ _ => .stuck⟩
  | .bitl a => .of fun r h => ((den F a).v r h).bind fun x h1 => match x with | .int i => .ok (.int (Builtin.Int.intBits i : Nat)) h1 | _ => .stuck
  | .app o e => .of fun r h => ((den F o).v r h).bind fun x h1 => if lstLoc x h1 = true then ((den F e).v r h1).bind fun y h2 => appD x y h2 else .stuck
  | .attr o f => .of fun r h => ((den F o).v r h).bind fun x h1 => attrD x f h1
  | .prop o f => .of fun r h => ((den F o).v r h).bind fun x h1 => match clsOf x h1 with | some c => noX (F (mid c f) [x] [] h1) | none => .stuck
  | .meth m cs o es ks kes => .of fun r h => ((den F o).v r h).bind fun x h1 => methD m cs x (fun c => (evs (dens F es) r h1).bind fun ds h2 => (evs (dens F kes) r h2).bind fun vs h3 => F (mid c m) (x :: ds) (ks.zip vs) h3) h1
  | .new c fr es ks kes => .of fun r h => (evs (dens F es) r h).bind fun ds h1 => (evs (dens F kes) r h1).bind fun vs h2 => newD F c fr ds (ks.zip vs) h2
  | .isI o cs => .of fun r h => ((den F o).v r h).bind fun x h1 => isND x h1 cs
  | .bol a => .of fun r h => ((den F a).v r h).bind fun x h1 => bolF F x h1
  | .lc2 own tg it cnd vs1 tg1 it1 cnd1 elt => .of (lc2D own tg (den F it) (dens F cnd) vs1 tg1 (den F it1) (dens F cnd1) (den F elt))
  | .tryc ns cs e => .of fun r h => tryD ns cs ((den F e).v r h)
  | .cmp3 o1 o2 o3 a b c d => .of (cmp3D o1 o2 o3 (den F a).v (den F b).v (den F c).v (den F d).v)
noncomputable def dens (F : Fns) : List E → List Den
  | [] => []
  | e :: es => den F e :: dens F es
noncomputable def denO (F : Fns) : Option E → Option Den
  | none => none
  | some e => some (den F e)
end

/-! ### statements -/
inductive Fl where
  | nx
  | rt (d : D)
  | bk
  | ct
/-- a statement's outcome -/
inductive Os where
  | ok (f : Fl) (r : Env1) (h : Hs)
  | exc (e : D) (r : Env1) (h : Hs)
  | stuck
def Out.os {α : Type} (o : Out α) (r : Env1) (f : α → Hs → Os) : Os :=
  match o with
  | .ok a h => f a h
  | .exc e h => .exc e r h
  | .stuck => .stuck
@[simp] theorem Out.os_ok {α : Type} (a : α) (h : Hs) (r : Env1) (f : α → Hs → Os) : (Out.ok a h).os r f = f a h := rfl
@[simp] theorem Out.os_exc {α : Type} (e : D) (h : Hs) (r : Env1) (f : α → Hs → Os) : (Out.exc e h : Out α).os r f = .exc e r h := rfl
@[simp] theorem Out.os_stuck {α : Type} (r : Env1) (f : α → Hs → Os) : (Out.stuck : Out α).os r f = .stuck := rfl
def Os.seq (o : Os) (f : Env1 → Hs → Os) : Os :=
  match o with
  | .ok .nx r h => f r h
  | o => o
@[simp] theorem Os.seq_nx (r : Env1) (h : Hs) (f : Env1 → Hs → Os) : (Os.ok .nx r h).seq f = f r h := rfl
@[simp] theorem Os.seq_rt (d : D) (r : Env1) (h : Hs) (f : Env1 → Hs → Os) : (Os.ok (.rt d) r h).seq f = .ok (.rt d) r h := rfl
@[simp] theorem Os.seq_bk (r : Env1) (h : Hs) (f : Env1 → Hs → Os) : (Os.ok .bk r h).seq f = .ok .bk r h := rfl
@[simp] theorem Os.seq_ct (r : Env1) (h : Hs) (f : Env1 → Hs → Os) : (Os.ok .ct r h).seq f = .ok .ct r h := rfl
@[simp] theorem Os.seq_exc (e : D) (r : Env1) (h : Hs) (f : Env1 → Hs → Os) : (Os.exc e r h).seq f = .exc e r h := rfl
@[simp] theorem Os.seq_stuck (f : Env1 → Hs → Os) : Os.stuck.seq f = .stuck := rfl

open Classical in
/-- the turns of a for; g: what is walked stays -/
noncomputable def forL (f : D → Env1 → Hs → Os) (g : Hs → Prop) : List D → Env1 → Hs → Os
  | [], r, h => .ok .nx r h
  | d :: ds, r, h => match f d r h with
    | .ok .nx r1 h1 => if g h1 then forL f g ds r1 h1 else .stuck
    | .ok .ct r1 h1 => if g h1 then forL f g ds r1 h1 else .stuck
    | .ok .bk r1 h1 => .ok .nx r1 h1
    | .ok (.rt v) r1 h1 => .ok (.rt v) r1 h1
    | .exc e r1 h1 => .exc e r1 h1
    | .stuck => .stuck
/-- the turns of a while, at most n -/
def whlN (c : Env1 → Hs → Out Bool) (f : Env1 → Hs → Os) : Nat → Env1 → Hs → Os
  | 0, _, _ => .stuck
  | n + 1, r, h => (c r h).os r fun b h1 => if b = true then (match f r h1 with
    | .ok .nx r1 h2 => whlN c f n r1 h2
    | .ok .ct r1 h2 => whlN c f n r1 h2
    | .ok .bk r1 h2 => .ok .nx r1 h2
    | .ok (.rt v) r1 h2 => .ok (.rt v) r1 h2
    | .exc e r1 h2 => .exc e r1 h2
    | .stuck => .stuck) else .ok .nx r h1
def setAll : List Nat → List D → Env1 → Option Env1
  | [], [], r => some r
  | i :: is, d :: ds, r => setAll is ds (r.set i (some d))
  | _, _, _ => none
/-- more turns than any while here takes -/
def manyTurns : Nat := 2 ^ 200
mutual
noncomputable def exS (F : Fns) : S → Env1 → Hs → Os
  | .asg t e, r, h => ((den F e).v r h).os r fun d h1 => match bindT t d r h1 with | some r1 => .ok .nx r1 h1 | none => .stuck
  | .par is es, r, h => (evs (dens F es) r h).os r fun ds h1 => match setAll is ds r with | some r1 => .ok .nx r1 h1 | none => .stuck
  | .put o i e, r, h => ((den F e).v r h).os r fun d h1 => ((den F o).v r h1).os r fun x h2 => ((den F i).v r h2).os r fun y h3 => (putD x y d h3).os r fun _ h4 => .ok .nx r h4
  | .setf o f e, r, h => ((den F e).v r h).os r fun d h1 => ((den F o).v r h1).os r fun x h2 => (setfD x f d h2).os r fun _ h3 => .ok .nx r h3
  | .rse0 c wf w, r, h => .exc (.exc c [(wf, .str w)]) r h
  | .rse1 c wf w f e, r, h => ((den F e).v r h).os r fun d h1 => if isLoc d = false then .exc (.exc c [(f, d), (wf, .str w)]) r h1 else .stuck
  | .aug i op e, r, h => match r[i]? with
    | some (some x) => ((den F e).v r h).os r fun y h1 => (binD op x y h1).os r fun z h2 => .ok .nx (r.set i (some z)) h2
    | _ => .stuck
  | .ex e, r, h => ((den F e).v r h).os r fun _ h1 => .ok .nx r h1
  | .ret e, r, h => ((den F e).v r h).os r fun d h1 => .ok (.rt d) r h1
  | .retN, r, h => .ok (.rt .non) r h
  | .ifs c a b, r, h => ((den F c).t r h).os r fun t h1 => if t = true then exSs F a r h1 else exSs F b r h1
  | .for_ t it b, r, h => ((den F it).i r h).os r fun p h1 =>
    forL (fun d r1 h2 => match bindT t d r1 h2 with | some r2 => exSs F b r2 h2 | none => .stuck) (stays p.2 h1) p.1 r h1
  | .whl c b, r, h => whlN (den F c).t (exSs F b) manyTurns r h
  | .brk, r, h => .ok .bk r h
  | .cnt, r, h => .ok .ct r h
  | .pas, r, h => .ok .nx r h
  | .stk, _, _ => .stuck
noncomputable def exSs (F : Fns) : List S → Env1 → Hs → Os
  | [], r, h => .ok .nx r h
  | s :: ss, r, h => (exS F s r h).seq fun r1 h1 => exSs F ss r1 h1
end

/-! ### defs -/
/-- a def: npos positional parameters, pdf the defaults of the last of them; keyword-only ones, kdf their defaults; *args (if star); ns: slots -/
structure Fd where
  npos : Nat
  pdf : List D
  kdf : List D
  star : Bool
  fresh : Bool
  ns : Nat
  body : List S
def bindOne (fd : Fd) (us : List D) (kws : List (Nat × D)) (i : Nat) : Option D :=
  match (if i < fd.npos then us[i]? else none) with
  | some d => some d
  | none => match kws.lookup i with
    | some d => some d
    | none => if fd.npos ≤ i then fd.kdf[i - fd.npos]? else if fd.npos - fd.pdf.length ≤ i then fd.pdf[i - (fd.npos - fd.pdf.length)]? else none
def bindFrom (f : Nat → Option D) : Nat → Nat → Option (List D)
  | _, 0 => some []
  | n, k + 1 => match f n with
    | some d => match bindFrom f (n + 1) k with
      | some ds => some (d :: ds)
      | none => none
    | none => none
/-- keywords name parameters that are not given yet, each once -/
def kwOk (fd : Fd) (m : Nat) : List (Nat × D) → Bool
  | [] => true
  | p :: r => decide (p.1 < fd.npos + fd.kdf.length) && (decide (fd.npos ≤ p.1) || decide (m ≤ p.1)) && (r.map (·.1)).all (fun j => j != p.1) && kwOk fd m r
/-- the parameters' values: keywords are told by the parameters' places -/
def bindD (fd : Fd) (us : List D) (kws : List (Nat × D)) : Option (List D) :=
  if kwOk fd us.length kws = true then
    if fd.star = true then
      match bindFrom (bindOne fd us kws) 0 (fd.npos + fd.kdf.length) with
      | some ds => if noLoc (us.drop fd.npos) && decide ((us.drop fd.npos).length ≤ sizeLine) then some (ds ++ [.tup (us.drop fd.npos)]) else none
      | none => none
    else if us.length ≤ fd.npos then bindFrom (bindOne fd us kws) 0 (fd.npos + fd.kdf.length) else none
  else none
/-- the end of a call: what the def has made is dropped; a list that it has made and hands back is data from now on, or (fr) the store's last object -/
def finish (fr : Bool) (L : Nat) (d : D) (h : Hs) : Out D :=
  match d with
  | .loc m => if m < L then .ok (.loc m) (h.take L) else
      match h[m]? with
      | some (.lst ds) => if fr = true then .ok (.loc L) (h.take L ++ [.lst ds]) else .ok (.lst ds) (h.take L)
      | some (.ins c fs) => .ok (.ins c fs) (h.take L)
      | none => .stuck
  | d => .ok d (h.take L)
noncomputable def callM (P : Nat → Option Fd) : Nat → Fns
  | 0, _, _, _, _ => .stuck
  | n + 1, f, us, kws, h =>
    match P f with
    | none => .stuck
    | some fd => match bindD fd us kws with
      | none => .stuck
      | some ds => match exSs (callM P n) fd.body (ds.map some ++ List.replicate (fd.ns - ds.length) none) h with
        | .ok (.rt d) _ h' => finish fd.fresh h.length d h'
        | .ok .nx _ h' => finish fd.fresh h.length .non h'
        | .exc e _ h' => .exc e (h'.take h.length)
        | _ => .stuck
/-- the evaluator of calls; not to be run by the elaborator -/
@[irreducible] noncomputable def callN (P : Nat → Option Fd) (n : Nat) : Fns := callM P n
theorem callN_eq (P : Nat → Option Fd) (n : Nat) : callN P n = callM P n := by unfold callN; rfl
theorem callN_zero (P : Nat → Option Fd) (f : Nat) (us : List D) (kws : List (Nat × D)) (h : Hs) : callN P 0 f us kws h = .stuck := by rw [callN_eq]; rfl
theorem callN_succ (P : Nat → Option Fd) (n f : Nat) (us : List D) (kws : List (Nat × D)) (h : Hs) : callN P (n + 1) f us kws h = match P f with
    | none => .stuck
    | some fd => match bindD fd us kws with
      | none => .stuck
      | some ds => match exSs (callN P n) fd.body (ds.map some ++ List.replicate (fd.ns - ds.length) none) h with
        | .ok (.rt d) _ h' => finish fd.fresh h.length d h'
        | .ok .nx _ h' => finish fd.fresh h.length .non h'
        | .exc e _ h' => .exc e (h'.take h.length)
        | _ => .stuck := by rw [callN_eq, callN_eq]; rfl
end GY

namespace GY
open PySem PySem.Spec PyProof.Rows L2

/-! ### what a datum stands for -/
section
variable {G : Sg} {il : Lay} {H : Hp} {h : Hs}
theorem Rep.int_inv {i : Int} {v : V} (r : Rep G il H (.int i) v) : v = .int i := by cases r; rfl
theorem Rep.bl_inv {i : Bool} {v : V} (r : Rep G il H (.bl i) v) : v = .bl i := by cases r; rfl
theorem Rep.non_inv {v : V} (r : Rep G il H .non v) : v = .non := by cases r; rfl
theorem Rep.str_inv {i : Str} {v : V} (r : Rep G il H (.str i) v) : v = .str i := by cases r; rfl
theorem Rep.lst_inv {ds : List D} {v : V} (r : Rep G il H (.lst ds) v) : ∃ a xs, v = .ref a ∧ H a = some (.lst xs) ∧ il.off a ∧ noLoc ds = true ∧ Reps G il H ds xs := by
  cases r with | lst a b c d => exact ⟨_, _, rfl, a, b, c, d⟩
theorem sqT_of {a : Addr} {xs : List V} (h : (Rd H a (.tup xs) ∧ il.off a) ∨ KTup G.K a xs) : SqT G.K H a xs := h.elim (fun z => .inl z.1) .inr
theorem sqL_of {a : Addr} {xs : List V} (h : (Rd H a (.lst xs) ∧ il.off a) ∨ KLst G.K a xs) : SqL G.K H a xs := h.elim (fun z => .inl z.1) .inr
theorem Rep.tup_inv {ds : List D} {v : V} (r : Rep G il H (.tup ds) v) : ∃ a xs, v = .ref a ∧ SqT G.K H a xs ∧ noLoc ds = true ∧ Reps G il H ds xs := by
  cases r with | tup a b c => exact ⟨_, _, rfl, sqT_of a, b, c⟩
theorem Reps.noLocs : ∀ {ds : List D} {vs : List V}, noLoc ds = true → Reps G il H ds vs → True := fun _ _ => trivial
theorem Rep.seq (w : WR G il H h) {d : D} {v : V} {ds : List D} (r : Rep G il H d v) (e : seqOf d h = some ds) :
    ∃ a xs, v = .ref a ∧ (SqL G.K H a xs ∨ SqT G.K H a xs) ∧ noLoc ds = true ∧ Reps G il H ds xs := by
  cases r with
  | tup a b c => simp only [seqOf, Option.some.injEq] at e; subst e; exact ⟨_, _, rfl, .inr (sqT_of a), b, c⟩
  | lst a _ b c => simp only [seqOf, Option.some.injEq] at e; subst e; exact ⟨_, _, rfl, .inl (SqL.of a), b, c⟩
  | frz a b c => simp only [seqOf, Option.some.injEq] at e; subst e; exact ⟨_, _, rfl, .inl (sqL_of a), b, c⟩
  | @loc n a hn =>
    simp only [seqOf] at e
    split at e
    · rename_i ds' q
      cases e
      obtain ⟨xs, e1, r, nl⟩ := w.ob n a _ hn q
      exact ⟨a, xs, rfl, .inl (SqL.of e1), nl, r⟩
    · cases e
  | _ => cases e
theorem Rep.lseq (w : WR G il H h) {d : D} {v : V} {ds : List D} (r : Rep G il H d v) (e : lstOf d h = some ds) :
    ∃ a xs, v = .ref a ∧ SqL G.K H a xs ∧ noLoc ds = true ∧ Reps G il H ds xs := by
  cases r with
  | lst a _ b c => simp only [lstOf, Option.some.injEq] at e; subst e; exact ⟨_, _, rfl, (SqL.of a), b, c⟩
  | frz a b c => simp only [lstOf, Option.some.injEq] at e; subst e; exact ⟨_, _, rfl, sqL_of a, b, c⟩
  | @loc n a hn =>
    simp only [lstOf] at e
    split at e
    · rename_i ds' q
      cases e
      obtain ⟨xs, e1, r, nl⟩ := w.ob n a _ hn q
      exact ⟨a, xs, rfl, (SqL.of e1), nl, r⟩
    · cases e
  | _ => cases e
mutual
theorem Rep.py : ∀ (d : D) {v : V} {p : PyData}, Rep G il H d v → toPy d = some p → Dp G.K H v p
  | .non, _, _, r, e => by cases r; cases e; exact .non
  | .bl b, _, _, r, e => by cases r; cases e; exact .bl b
  | .int b, _, _, r, e => by cases r; cases e; exact .int b
  | .str b, _, _, r, e => by cases r; cases e; exact .str b
  | .tup ds, _, _, r, e => by
    cases r with
    | tup a b c =>
      simp only [toPy, Option.map_eq_some_iff] at e
      obtain ⟨ps, e1, rfl⟩ := e
      exact .tup (sqT_of a) (Reps.py ds c e1)
  | .lst ds, _, _, r, e => by
    cases r with
    | lst a _ b c =>
      simp only [toPy, Option.map_eq_some_iff] at e
      obtain ⟨ps, e1, rfl⟩ := e
      exact .lst (SqL.of a) (Reps.py ds c e1)
  | .frz _, _, _, _, e => by cases e
  | .ins _ _, _, _, _, e => by cases e
  | .exc _ _, _, _, _, e => by cases e
  | .loc _, _, _, _, e => by cases e
theorem Reps.py : ∀ (ds : List D) {vs : List V} {ps : List PyData}, Reps G il H ds vs → toPys ds = some ps → DpAll G.K H vs ps
  | [], _, _, r, e => by cases r; cases e; exact .nil
  | d :: ds, _, _, r, e => by
    cases r with
    | cons r1 r2 =>
      simp only [toPys] at e
      split at e
      · rename_i x xs e1 e2
        cases e
        exact .cons (Rep.py d r1 e1) (Reps.py ds r2 e2)
      · cases e
end
theorem Rep.pyD (w : WR G il H h) {d : D} {v : V} {p : PyData} (r : Rep G il H d v) (e : toPy (deref d h) = some p) : Dp G.K H v p := by
  cases r with
  | @loc n a hn =>
    simp only [deref] at e
    split at e
    · rename_i ds' q
      obtain ⟨xs, e1, r, nl⟩ := w.ob n a _ hn q
      simp only [toPy, Option.map_eq_some_iff] at e
      obtain ⟨ps, e1', rfl⟩ := e
      exact .lst (SqL.of e1) (Reps.py _ r e1')
    · cases e
  | non => exact Rep.py (il := il) _ .non e
  | bl b => exact Rep.py (il := il) _ (.bl b) e
  | int b => exact Rep.py (il := il) _ (.int b) e
  | str b => exact Rep.py (il := il) _ (.str b) e
  | tup a b c => exact Rep.py _ (.tup a b c) e
  | lst a b c d => exact Rep.py _ (.lst a b c d) e
  | frz a b c => exact Rep.py _ (.frz a b c) e
  | ins k a b c d e1 e2 e3 => exact Rep.py _ (.ins k a b c d e1 e2 e3) e
theorem Reps.ints : ∀ {ds : List D} {vs : List V} {is : List Int}, Reps G il H ds vs → ints? ds = some is → vs = is.map V.int
  | [], _, _, .nil, e => by cases e; rfl
  | .int i :: ds, _, _, .cons r1 r2, e => by
    simp only [ints?, Option.map_eq_some_iff] at e
    obtain ⟨js, e1, rfl⟩ := e
    rw [r1.int_inv, Reps.ints r2 e1]; rfl
  | .non :: _, _, _, _, e => by cases e
  | .bl _ :: _, _, _, _, e => by cases e
  | .str _ :: _, _, _, _, e => by cases e
  | .tup _ :: _, _, _, _, e => by cases e
  | .lst _ :: _, _, _, _, e => by cases e
  | .frz _ :: _, _, _, _, e => by cases e
  | .ins _ _ :: _, _, _, _, e => by cases e
  | .exc _ _ :: _, _, _, _, e => by cases e
  | .loc _ :: _, _, _, _, e => by cases e
theorem Reps.bools : ∀ {ds : List D} {vs : List V} {is : List Bool}, Reps G il H ds vs → bools? ds = some is → vs = is.map V.bl
  | [], _, _, .nil, e => by cases e; rfl
  | .bl i :: ds, _, _, .cons r1 r2, e => by
    simp only [bools?, Option.map_eq_some_iff] at e
    obtain ⟨js, e1, rfl⟩ := e
    rw [r1.bl_inv, Reps.bools r2 e1]; rfl
  | .non :: _, _, _, _, e => by cases e
  | .int _ :: _, _, _, _, e => by cases e
  | .str _ :: _, _, _, _, e => by cases e
  | .tup _ :: _, _, _, _, e => by cases e
  | .lst _ :: _, _, _, _, e => by cases e
  | .frz _ :: _, _, _, _, e => by cases e
  | .ins _ _ :: _, _, _, _, e => by cases e
  | .exc _ _ :: _, _, _, _, e => by cases e
  | .loc _ :: _, _, _, _, e => by cases e
theorem Reps.atI {ds : List D} {vs : List V} {i : Int} {d : D} (r : Reps G il H ds vs) (e : L2.atI ds i = some d) : ∃ v, L2.atI vs i = some v ∧ Rep G il H d v := by
  unfold L2.atI at e ⊢
  rw [r.length] at e
  cases q : ixN vs.length i with
  | none => rw [q] at e; cases e
  | some j =>
    rw [q] at e
    exact r.get (show ds[j]? = some d from e)
end

/-! ### readings -/
def tV (G : Sg) (W : WX) (v : Env1 → Hs → Out D) : TE := fun s H Q => ∃ il h r, WR G il H h ∧ ER G il H r s ∧ after G (v r h) il H Q (fun c a H' => W c a s H')
def tL (G : Sg) (W : WX) (v : Env1 → Hs → Out (List D)) : TA := fun s H Q => ∃ il h r, WR G il H h ∧ ER G il H r s ∧ afterL G (v r h) il H Q (fun c a H' => W c a s H')
def tB1 (G : Sg) (W : WX) (v : Env1 → Hs → Out Bool) : TT := fun s H Q => ∃ il h r, WR G il H h ∧ ER G il H r s ∧ afterB G (v r h) il H Q (fun c a H' => W c a s H')
theorem _root_.L2.PE.imp {X : Cx} {e : Expr} {t t' : TE} (p : PE X e t) (f : ∀ s H Q, t' s H Q → t s H Q) : PE X e t' := ⟨fun pins s σ H Q I h => p.run pins s σ H Q I (f _ _ _ h)⟩
theorem _root_.L2.PT.imp {X : Cx} {e : Expr} {t t' : TT} (p : PT X e t) (f : ∀ s H Q, t' s H Q → t s H Q) : PT X e t' := ⟨fun pins s σ H Q I h => p.run pins s σ H Q I (f _ _ _ h)⟩
theorem _root_.L2.PA.imp {X : Cx} {e : List Expr} {t t' : TA} (p : PA X e t) (f : ∀ s H Q, t' s H Q → t s H Q) : PA X e t' := ⟨fun pos pins s σ H Q I h => p.run pos pins s σ H Q I (f _ _ _ h)⟩
section
variable {X : Cx} {G : Sg} {W : WX} {a b c : Expr} {va vb vc : Env1 → Hs → Out D} {ta tb tc : Env1 → Hs → Out Bool} {pos : Pos}

theorem s_con_int {i j} : PE X (.Constant (.int i) j pos) (tV G W fun _ h => .ok (.int i) h) := pe_int.imp fun s H Q ⟨il, h, r, w, _, q⟩ => q _ il H .refl w (.int i)
theorem s_con_bl {i j} : PE X (.Constant (.bool i) j pos) (tV G W fun _ h => .ok (.bl i) h) := pe_bl.imp fun s H Q ⟨il, h, r, w, _, q⟩ => q _ il H .refl w (.bl i)
theorem s_con_non {j} : PE X (.Constant .none j pos) (tV G W fun _ h => .ok .non h) := pe_non.imp fun s H Q ⟨il, h, r, w, _, q⟩ => q _ il H .refl w .non
theorem s_con_str {x j} : PE X (.Constant (.str x) j pos) (tV G W fun _ h => .ok (.str x) h) := pe_str.imp fun s H Q ⟨il, h, r, w, _, q⟩ => q _ il H .refl w (.str x)
theorem s_var {i : Nat} {x : Str} (hN : X.N[i]? = some x) (hv : Vis X.env.scope x) (hd : (x == ("__debug__" : Str)) = false) (hcd : (x == ("__classdict__" : Str)) = false) :
    PE X (.Name x pos) (tV G W fun r h => match r[i]? with | some (some d) => .ok d h | _ => .stuck) := (pe_var hN hv hd hcd).imp fun s H Q ⟨il, h, r, w, er, q⟩ => by
  dsimp only at q
  split at q
  · rename_i d e
    obtain ⟨v, e1, rv⟩ := er.at_ i d e
    exact ⟨v, e1, q v il H .refl w rv⟩
  · exact q.elim
/-- two parts, then an operation on their values -/
theorem two {s : L2.St} {H : Hp} {Q : VK} {f : D → D → Hs → Out D} {R : V → V → Hp → VK → Prop}
    (hf : ∀ (il : Lay) (H2 : Hp) (h2 : Hs) (x y : V) (dx dy : D), WR G il H2 h2 → Rep G il H2 dx x → Rep G il H2 dy y → after G (f dx dy h2) il H2 Q (fun c a H' => W c a s H') → R x y H2 Q)
    (h : tV G W (fun r h => (va r h).bind fun x h1 => (vb r h1).bind fun y h2 => f x y h2) s H Q) :
    tV G W va s H fun x H1 => tV G W vb s H1 fun y H2 => R x y H2 Q := by
  obtain ⟨il, h, r, w, er, q⟩ := h
  refine ⟨il, h, r, w, er, ?_⟩
  refine after_imp (after.bind q) fun x H1 ⟨il1, h1, dx, e1, w1, r1, q1⟩ => ?_
  refine ⟨il1, h1, r, w1, er.ext e1, ?_⟩
  refine after_imp (after.bind q1) fun y H2 ⟨il2, h2, dy, e2, w2, r2, q2⟩ => ?_
  exact hf il2 H2 h2 x y dx dy w2 (r1.ext e2) r2 q2
/-- one part, then an operation on its value -/
theorem one {s : L2.St} {H : Hp} {Q : VK} {f : D → Hs → Out D} {R : V → Hp → VK → Prop}
    (hf : ∀ (il : Lay) (H2 : Hp) (h2 : Hs) (x : V) (dx : D), WR G il H2 h2 → Rep G il H2 dx x → after G (f dx h2) il H2 Q (fun c a H' => W c a s H') → R x H2 Q)
    (h : tV G W (fun r h => (va r h).bind fun x h1 => f x h1) s H Q) : tV G W va s H fun x H1 => R x H1 Q := by
  obtain ⟨il, h, r, w, er, q⟩ := h
  refine ⟨il, h, r, w, er, ?_⟩
  exact after_imp (after.bind q) fun x H1 ⟨il1, h1, dx, e1, w1, r1, q1⟩ => hf il1 H1 h1 x dx w1 r1 q1

/-! ### operators -/
/-- what a two-place operation asks by data -/
def rD (G : Sg) (f : D → D → Hs → Out D) : R2 := fun x y H Q => ∃ il h dx dy, WR G il H h ∧ Rep G il H dx x ∧ Rep G il H dy y ∧ ∃ E : XK, after G (f dx dy h) il H Q E ∧ ∀ c a H', ¬ E c a H'
end

section
variable {X : Cx} {G : Sg}
/-- no exception comes of it -/
def NoExc {α : Type} (o : Out α) : Prop := ∀ e h, o ≠ .exc e h
theorem after_ok {o : Out D} {il : Lay} {H : Hp} {Q : VK} {E : XK} (h : after G o il H Q E) (n : NoExc o) : ∃ d h', o = .ok d h' ∧ ∀ v il' H', Ext il H il' H' → WR G il' H' h' → Rep G il' H' d v → Q v H' := by
  cases o with
  | ok d h' => exact ⟨d, h', rfl, h⟩
  | exc e h' => exact absurd rfl (n e h')
  | stuck => exact h.elim
def BopIs : Bop → Operator → Prop
  | .add, op => op = .Add
  | .sub, op => op = .Sub
  | .mul, op => op = .Mult
  | .fdiv, op => op = .FloorDiv
  | .mod, op => op = .Mod
  | .pow, op => op = .Pow
  | .shl, op => op = .LShift
theorem CMulW.of {i j : Int} (h : bigOk i j = true) : CMulW i j := by
  unfold bigOk at h
  show i.natAbs.log2 + j.natAbs.log2 < 1000000
  exact of_decide_eq_true h
theorem noLoc_append {xs ys : List D} (a : noLoc xs = true) (b : noLoc ys = true) : noLoc (xs ++ ys) = true := by
  unfold noLoc at *; rw [List.all_append, a, b]; rfl
theorem noLoc_flat {xs : List D} (a : noLoc xs = true) : ∀ n, noLoc (List.replicate n xs).flatten = true
  | 0 => rfl
  | n + 1 => by rw [List.replicate_succ, List.flatten_cons]; exact noLoc_append a (noLoc_flat a n)
/-- a new list of data -/
theorem Rep.new {il : Lay} {H : Hp} {h : Hs} {p : Addr} {ds : List D} {vs : List V} (w : WR G il H h) (hn : H p = none) (nl : noLoc ds = true) (r : Reps G il H ds vs) :
    Ext il H il (upd H p (.lst vs)) ∧ WR G il (upd H p (.lst vs)) h ∧ Rep G il (upd H p (.lst vs)) (.lst ds) (.ref p) :=
  ⟨w.ext1 hn, w.fresh hn, .lst upd_same (w.notin hn) nl (r.ext (w.ext1 hn))⟩
theorem Rep.newT {il : Lay} {H : Hp} {h : Hs} {p : Addr} {ds : List D} {vs : List V} (w : WR G il H h) (hn : H p = none) (nl : noLoc ds = true) (r : Reps G il H ds vs) :
    Ext il H il (upd H p (.tup vs)) ∧ WR G il (upd H p (.tup vs)) h ∧ Rep G il (upd H p (.tup vs)) (.tup ds) (.ref p) :=
  ⟨w.ext1 hn, w.fresh hn, .tup (.inl ⟨.inl upd_same, w.notin hn⟩) nl (r.ext (w.ext1 hn))⟩
theorem bin_ok {bop : Bop} {op : Operator} (hop : BopIs bop op) {pins : List (Addr × Obj)} {s : Shared} {σ : L2.St} {H : Hp} {x y : V} {v u : Value} {Q : VK} {E : XK} (I : Inv X pins σ H s) (hK : X.K = G.K) (rx : RelV x v) (ry : RelV y u)
    {il : Lay} {h : Hs} {dx dy : D} (w : WR G il H h) (r1 : Rep G il H dx x) (r2 : Rep G il H dy y) (q : after G (binD bop dx dy h) il H Q E) :
    wpAny (model X.prog X.w) X.A (binaryOp op v u) (EP X pins σ Q) X.xe s := by
  unfold binD at q
  split at q
  · cases r1.int_inv; cases r2.int_inv
    cases bop <;> cases hop
    · exact op_add pins s σ H _ _ v u Q I rx ry ⟨_, _, rfl, rfl, q _ il H .refl w (.int _)⟩
    · exact op_sub pins s σ H _ _ v u Q I rx ry ⟨_, _, rfl, rfl, q _ il H .refl w (.int _)⟩
    · dsimp only at q
      split at q
      · rename_i c; exact op_mulW pins s σ H _ _ v u Q I rx ry ⟨_, _, rfl, rfl, CMulW.of c, q _ il H .refl w (.int _)⟩
      · exact q.elim
    · dsimp only at q
      split at q
      · rename_i c; exact op_fdivW pins s σ H _ _ v u Q I rx ry ⟨_, _, rfl, rfl, c, q _ il H .refl w (.int _)⟩
      · exact q.elim
    · dsimp only at q
      split at q
      · rename_i c; exact op_mod pins s σ H _ _ v u Q I rx ry ⟨_, _, rfl, rfl, c, q _ il H .refl w (.int _)⟩
      · exact q.elim
    · dsimp only at q
      split at q
      · rename_i c; exact op_pow pins s σ H _ _ v u Q I rx ry ⟨_, _, rfl, rfl, c, q _ il H .refl w (.int _)⟩
      · exact q.elim
    · dsimp only at q
      split at q
      · rename_i c; exact op_shl pins s σ H _ _ v u Q I rx ry ⟨_, _, rfl, rfl, c, q _ il H .refl w (.int _)⟩
      · exact q.elim
  · cases r1.str_inv; cases r2.str_inv
    cases bop <;> cases hop <;> dsimp only at q <;> try exact q.elim
    split at q
    · rename_i c; exact op_add_str pins s σ H _ _ v u Q I rx ry ⟨_, _, rfl, rfl, c, q _ il H .refl w (.str _)⟩
    · exact q.elim
  · obtain ⟨a1, xs, rfl, h1, n1, l1, s1⟩ := r1.lst_inv
    obtain ⟨a2, ys, rfl, h2, n2, l2, s2⟩ := r2.lst_inv
    cases bop <;> cases hop <;> dsimp only at q <;> try exact q.elim
    split at q
    · rename_i c
      refine op_cat pins s σ H _ _ v u Q I rx ry ⟨a1, a2, xs, ys, rfl, rfl, h1, h2, by rw [← s1.length, ← s2.length]; exact c, fun p hp => ?_⟩
      obtain ⟨e, w', r⟩ := Rep.new w hp (noLoc_append l1 l2) (s1.append s2)
      exact q _ il _ e w' r
    · exact q.elim
  · obtain ⟨a1, xs, rfl, h1, n1, l1, s1⟩ := r1.lst_inv
    cases r2.int_inv
    cases bop <;> cases hop <;> dsimp only at q <;> try exact q.elim
    split at q
    · rename_i c
      refine op_rep pins s σ H _ _ v u Q I rx ry ⟨a1, _, xs, rfl, rfl, h1, c.1, c.2.1, by rw [← s1.length]; exact c.2.2, fun p hp => ?_⟩
      obtain ⟨e, w', r⟩ := Rep.new w hp (noLoc_flat l1 _) s1.flat
      exact q _ il _ e w' r
    · exact q.elim
  · exact q.elim
end

section
variable {X : Cx} {G : Sg} {W : WX} {a b c : Expr} {va vb vc : Env1 → Hs → Out D} {ta tb tc : Env1 → Hs → Out Bool} {pos : Pos}
/-- two expressions and an operation f on their values -/
theorem two_run (ha : PE X a (tV G W va)) (hb : PE X b (tV G W vb)) {f : D → D → Hs → Out D} {g : Value → Value → Sem Value} {pins : List (Addr × Obj)} {s : Shared} {σ : L2.St} {H : Hp} {Q : VK} (I : Inv X pins σ H s)
    (hg : ∀ (s : Shared) (H : Hp) (x y : V) (v u : Value) (il : Lay) (h : Hs) (dx dy : D), Inv X pins σ H s → RelV x v → RelV y u → WR G il H h → Rep G il H dx x → Rep G il H dy y → after G (f dx dy h) il H Q (fun c a H' => W c a σ H') →
      wpAny (model X.prog X.w) X.A (g v u) (EP X pins σ Q) X.xe s)
    (h : tV G W (fun r h => (va r h).bind fun x h1 => (vb r h1).bind fun y h2 => f x y h2) σ H Q) :
    wpAny (model X.prog X.w) X.A (eval a X.env) (fun v s₁ => wpAny (model X.prog X.w) X.A (eval b X.env) (fun u s₂ => wpAny (model X.prog X.w) X.A (g v u) (EP X pins σ Q) X.xe s₂) X.xe s₁) X.xe s := by
  have h' := two (R := fun x y H2 Q => ∃ il h dx dy, WR G il H2 h ∧ Rep G il H2 dx x ∧ Rep G il H2 dy y ∧ after G (f dx dy h) il H2 Q (fun c a H' => W c a σ H')) (fun il H2 h2 x y dx dy w r1 r2 q => ⟨il, h2, dx, dy, w, r1, r2, q⟩) h
  refine thn (ha.run pins s σ H _ I h') fun v s1 ⟨x, H1, I1, r1, q1⟩ => ?_
  refine thn (hb.run pins s1 σ H1 _ I1 q1) fun u s2 ⟨y, H2, I2, r2, il, h2, dx, dy, w, e1, e2, q2⟩ => ?_
  exact hg s2 H2 x y v u il h2 dx dy I2 r1 r2 w e1 e2 q2
theorem s_bin {bop : Bop} {op : Operator} (hop : BopIs bop op) (hK : X.K = G.K) (ha : PE X a (tV G W va)) (hb : PE X b (tV G W vb)) :
    PE X (.BinOp a op b pos) (tV G W fun r h => (va r h).bind fun x h1 => (vb r h1).bind fun y h2 => binD bop x y h2) := by
  refine ⟨fun pins s σ H Q I h => ?_⟩
  exact wpAny_BinOp (two_run ha hb I (fun s H x y v u il h dx dy I r1 r2 w e1 e2 q => bin_ok hop I hK r1 r2 w e1 e2 q) h)
theorem s_neg (ha : PE X a (tV G W va)) : PE X (.UnaryOp .USub a pos) (tV G W fun r h => (va r h).bind fun x h1 => match x with | .int i => .ok (.int (-i)) h1 | _ => .stuck) := by
  refine ⟨fun pins s σ H Q I h => ?_⟩
  refine (pe_un un_neg ha).run pins s σ H Q I (one (fun il H2 h2 x dx w r q => ?_) h)
  cases dx <;> try exact q.elim
  exact ⟨_, r.int_inv, q _ il H2 .refl w (.int _)⟩
theorem s_not (ha : PE X a (tV G W va)) : PE X (.UnaryOp .Not a pos) (tV G W fun r h => (va r h).bind fun x h1 => match x with | .bl c => .ok (.bl (!c)) h1 | _ => .stuck) := by
  refine ⟨fun pins s σ H Q I h => ?_⟩
  refine (pe_not ha).run pins s σ H Q I (one (R := fun x H1 Q => ∃ c, x = .bl c ∧ Q (.bl (!c)) H1) (fun il H2 h2 x dx w r q => ?_) h)
  cases dx <;> try exact q.elim
  exact ⟨_, r.bl_inv, q _ il H2 .refl w (.bl _)⟩
/-- as in and, or: the second part stands behind a choice -/
theorem s_and {rest : List Expr} (ha : PE X a (tV G W va)) (hb : PE X (.BoolOp .And (b :: rest) pos) (tV G W vb)) :
    PE X (.BoolOp .And (a :: b :: rest) pos) (tV G W fun r h => (va r h).bind fun x h1 => match x with | .bl c => if c = true then vb r h1 else .ok (.bl false) h1 | _ => .stuck) := by
  refine ⟨fun pins s σ H Q I h => (pe_and ha hb).run pins s σ H Q I ?_⟩
  obtain ⟨il, h, r, w, er, q⟩ := h
  refine ⟨il, h, r, w, er, after_imp (after.bind q) fun x H1 ⟨il1, h1, dx, e1, w1, r1, q1⟩ => ?_⟩
  cases dx <;> try exact q1.elim
  refine ⟨_, r1.bl_inv, ?_⟩
  rename_i c
  cases c with
  | true => exact ⟨il1, h1, r, w1, er.ext e1, q1⟩
  | false => exact q1 _ il1 H1 .refl w1 (.bl _)
theorem s_or {rest : List Expr} (ha : PE X a (tV G W va)) (hb : PE X (.BoolOp .Or (b :: rest) pos) (tV G W vb)) :
    PE X (.BoolOp .Or (a :: b :: rest) pos) (tV G W fun r h => (va r h).bind fun x h1 => match x with | .bl c => if c = true then .ok (.bl true) h1 else vb r h1 | _ => .stuck) := by
  refine ⟨fun pins s σ H Q I h => (pe_or ha hb).run pins s σ H Q I ?_⟩
  obtain ⟨il, h, r, w, er, q⟩ := h
  refine ⟨il, h, r, w, er, after_imp (after.bind q) fun x H1 ⟨il1, h1, dx, e1, w1, r1, q1⟩ => ?_⟩
  cases dx <;> try exact q1.elim
  refine ⟨_, r1.bl_inv, ?_⟩
  rename_i c
  cases c with
  | true => exact q1 _ il1 H1 .refl w1 (.bl _)
  | false => exact ⟨il1, h1, r, w1, er.ext e1, q1⟩
/-! ### tests -/
theorem truth_ok {il : Lay} {H : Hp} {h : Hs} {d : D} {x : V} {k : Bool} (w : WR G il H h) (r : Rep G il H d x) (e : truthD d h = some k) : TruV G.K x H k := by
  have sq : ∀ ds, seqOf d h = some ds → k = !ds.isEmpty → (∃ a, x = .ref a) → TruV G.K x H k := fun ds e1 ek hx => by
    obtain ⟨a, xs, rfl, hs, _, rs⟩ := r.seq w e1
    have em : ds.isEmpty = xs.isEmpty := by cases rs <;> rfl
    rw [em] at ek
    rcases hs with hs | hs
    · exact .inl ⟨xs, hs, ek⟩
    · exact .inr (.inl ⟨xs, hs, ek⟩)
  cases r with
  | non => cases e; rfl
  | bl b => cases e; rfl
  | int i => cases e; rfl
  | str z =>
    simp only [truthD] at e
    split at e
    · rename_i c; cases e; exact ⟨c, rfl⟩
    · cases e
  | _ =>
    simp only [truthD, Option.map_eq_some_iff] at e
    obtain ⟨ds, e1, e2⟩ := e
    exact sq ds e1 e2.symm ⟨_, rfl⟩
theorem t_val (hK : X.K = G.K) (ha : PE X a (tV G W va)) (he : ∀ whole, isTrue a X.env whole = (do let v ← whole; standAt a.pos; holding [v] (truthy v))) : PT X a (tB1 G W (tstOf va)) := by
  refine ⟨fun pins s σ H Q I h => (pt_truth ha he).run pins s σ H Q I ?_⟩
  obtain ⟨il, h, r, w, er, q⟩ := h
  refine ⟨il, h, r, w, er, after_imp (afterB.bind q) fun x H1 ⟨il1, h1, dx, e1, w1, r1, q1⟩ => ?_⟩
  split at q1
  · rename_i b e
    exact ⟨b, by rw [hK]; exact truth_ok w1 r1 e, q1 il1 H1 .refl w1⟩
  · exact q1.elim
theorem t_not (ha : PT X a (tB1 G W ta)) : PT X (.UnaryOp .Not a pos) (tB1 G W fun r h => (ta r h).bind fun c h1 => .ok (!c) h1) := by
  refine ⟨fun pins s σ H Q I h => (pt_not ha).run pins s σ H Q I ?_⟩
  obtain ⟨il, h, r, w, er, q⟩ := h
  exact ⟨il, h, r, w, er, after_impB (afterB.bindB q) fun b H1 ⟨il1, h1, e1, w1, q1⟩ => q1 il1 H1 .refl w1⟩
theorem t_and1 (ha : PT X a (tB1 G W ta)) : PW X (.BoolOp .And [a] pos) (tB1 G W ta) := pw_and1 ha
theorem t_or1 (ha : PT X a (tB1 G W ta)) : PW X (.BoolOp .Or [a] pos) (tB1 G W ta) := pw_or1 ha
theorem t_and {rest : List Expr} (ha : PT X a (tB1 G W ta)) (hb : PW X (.BoolOp .And (b :: rest) pos) (tB1 G W tb)) :
    PW X (.BoolOp .And (a :: b :: rest) pos) (tB1 G W fun r h => (ta r h).bind fun c h1 => if c = true then tb r h1 else .ok false h1) := by
  refine ⟨fun wh pins s σ H Q I h => (pw_and ha hb).run wh pins s σ H Q I ?_⟩
  obtain ⟨il, h, r, w, er, q⟩ := h
  refine ⟨il, h, r, w, er, after_impB (afterB.bindB q) fun c H1 ⟨il1, h1, e1, w1, q1⟩ => ?_⟩
  cases c with
  | true => exact ⟨il1, h1, r, w1, er.ext e1, q1⟩
  | false => exact q1 il1 H1 .refl w1
theorem t_or {rest : List Expr} (ha : PT X a (tB1 G W ta)) (hb : PW X (.BoolOp .Or (b :: rest) pos) (tB1 G W tb)) :
    PW X (.BoolOp .Or (a :: b :: rest) pos) (tB1 G W fun r h => (ta r h).bind fun c h1 => if c = true then .ok true h1 else tb r h1) := by
  refine ⟨fun wh pins s σ H Q I h => (pw_or ha hb).run wh pins s σ H Q I ?_⟩
  obtain ⟨il, h, r, w, er, q⟩ := h
  refine ⟨il, h, r, w, er, after_impB (afterB.bindB q) fun c H1 ⟨il1, h1, e1, w1, q1⟩ => ?_⟩
  cases c with
  | true => exact q1 il1 H1 .refl w1
  | false => exact ⟨il1, h1, r, w1, er.ext e1, q1⟩
theorem s_ite {tc : Env1 → Hs → Out Bool} (hc : PT X c (tB1 G W tc)) (ha : PE X a (tV G W va)) (hb : PE X b (tV G W vb)) :
    PE X (.IfExp c a b pos) (tV G W fun r h => (tc r h).bind fun t h1 => if t = true then va r h1 else vb r h1) := by
  refine ⟨fun pins s σ H Q I h => (pe_ifExp hc ha hb).run pins s σ H Q I ?_⟩
  obtain ⟨il, h, r, w, er, q⟩ := h
  refine ⟨il, h, r, w, er, after_impB (after.bindB q) fun c H1 ⟨il1, h1, e1, w1, q1⟩ => ?_⟩
  cases c with
  | true => exact ⟨il1, h1, r, w1, er.ext e1, q1⟩
  | false => exact ⟨il1, h1, r, w1, er.ext e1, q1⟩
theorem t_ite {tc ta tb : Env1 → Hs → Out Bool} (hc : PT X c (tB1 G W tc)) (ha : PT X a (tB1 G W ta)) (hb : PT X b (tB1 G W tb)) :
    PT X (.IfExp c a b pos) (tB1 G W fun r h => (tc r h).bind fun t h1 => if t = true then ta r h1 else tb r h1) := by
  refine ⟨fun pins s σ H Q I h => ?_⟩
  obtain ⟨il, h, r, w, er, q⟩ := h
  show wpAny _ _ (do if ← isTrue c X.env (eval c X.env) then isTrue a X.env (eval a X.env) else isTrue b X.env (eval b X.env)) _ _ _
  refine wpAny_bind (thn (hc.run pins s σ H _ I ⟨il, h, r, w, er, after_impB (afterB.bindB q) fun c H1 z => z⟩) fun k s1 ⟨H1, I1, il1, h1, e1, w1, q1⟩ => ?_)
  cases k with
  | true => exact ha.run pins s1 σ H1 Q I1 ⟨il1, h1, r, w1, er.ext e1, q1⟩
  | false => exact hb.run pins s1 σ H1 Q I1 ⟨il1, h1, r, w1, er.ext e1, q1⟩
end
end GY

namespace GY
open PySem PySem.Spec PyProof.Rows L2

/-- a datum's type -/
theorem Rep.ty {G : Sg} {il : Lay} {H : Hp} {h : Hs} {d : D} {v : V} {t : String} (w : WR G il H h) (r : Rep G il H d v) (e : tyName d h = some t) : TyX G.K H v (.type t) := by
  cases r with
  | non => cases e; exact .base .non
  | bl b => cases e; exact .base (.bl b)
  | int b => cases e; exact .base (.int b)
  | str b => cases e; exact .base (.str b)
  | tup a b c =>
    cases e
    rcases a with ⟨a, _⟩ | ⟨o, its, n, h1, h2, _⟩
    · rcases a with a | ⟨o, a⟩
      · exact .base (.tup a)
      · exact .fTuple a
    · exact .kTuple h1 h2
  | lst a b c d => cases e; exact .base (.lst a)
  | frz => cases e
  | @loc n a hn =>
    simp only [tyName] at e
    split at e
    · rename_i ds q
      cases e
      obtain ⟨xs, e1, _⟩ := w.ob n a _ hn q
      exact .base (.lst e1)
    · cases e
  | ins => cases e

def tyNames : List String := ["NoneType", "bool", "int", "str", "tuple", "list"]
theorem tyName_mem {d : D} {h : Hs} {t : String} (e : tyName d h = some t) : t ∈ tyNames := by
  unfold tyName at e
  split at e <;> first
    | (cases e; decide)
    | (split at e <;> first | (cases e; decide) | cases e)
    | cases e
def tyTests : List String := ["bool", "int", "str", "tuple", "list"]
theorem kit_tab (K : PySem.W.Frag) : ∀ a ∈ tyNames, ∀ b ∈ tyTests, PySem.W.kitOne K (.type a) (.type b) = some (decide (a = b) || (decide (a = "bool") && decide (b = "int"))) := by
  intro a ha b hb
  simp only [tyNames, tyTests, List.mem_cons, List.not_mem_nil, or_false] at ha hb
  rcases ha with rfl | rfl | rfl | rfl | rfl | rfl <;> rcases hb with rfl | rfl | rfl | rfl | rfl <;> exact kit_ty (by decide +kernel)
theorem isTy_cons (t x : String) (xs : List String) : isTy t (x :: xs) = ((decide (t = x) || (decide (t = "bool") && decide (x = "int"))) || isTy t xs) := by
  unfold isTy
  rw [List.contains_cons, List.contains_cons, show (t == x) = decide (t = x) from Bool.beq_eq_decide_eq _ _, show (("int" : String) == x) = decide (x = "int") from by rw [Bool.beq_eq_decide_eq]; exact decide_eq_decide.mpr ⟨Eq.symm, Eq.symm⟩,
    show (t == "bool") = decide (t = "bool") from Bool.beq_eq_decide_eq _ _]
  generalize decide (t = x) = p
  generalize decide (t = "bool") = q
  generalize decide (x = "int") = r
  generalize xs.contains t = u
  generalize xs.contains "int" = v
  revert p q r u v
  decide
theorem isTy_nil (t : String) : isTy t [] = false := by simp [isTy]
theorem kit_any (K : PySem.W.Frag) {t : String} (ht : t ∈ tyNames) : ∀ {tys : List String}, (∀ b ∈ tys, b ∈ tyTests) → PySem.W.kitAny K (.type t) (tys.map Value.type) = some (isTy t tys)
  | [], _ => by rw [isTy_nil]; rfl
  | x :: xs, h => by
    have h1 := kit_tab K t ht x (h x (List.mem_cons_self ..))
    have ih := kit_any K ht (tys := xs) fun b hb => h b (List.mem_cons_of_mem _ hb)
    rw [isTy_cons]
    show (match PySem.W.kitOne K (.type t) (.type x) with | some true => some true | some false => PySem.W.kitAny K (.type t) (xs.map Value.type) | none => none) = _
    rw [h1]
    cases (decide (t = x) || (decide (t = "bool") && decide (x = "int"))) with
    | true => simp
    | false => simpa using ih
theorem kit_one (K : PySem.W.Frag) {t x : String} (ht : t ∈ tyNames) (hx : x ∈ tyTests) : PySem.W.kitOne K (.type t) (.type x) = some (isTy t [x]) := by
  rw [kit_tab K t ht x hx, isTy_cons, isTy_nil, Bool.or_false]

section
variable {X : Cx} {G : Sg}
def CopIs : Cop → CmpOp → Prop
  | .lt, op => op = .Lt
  | .le, op => op = .LtE
  | .gt, op => op = .Gt
  | .ge, op => op = .GtE
  | .eq, op => op = .Eq
  | .ne, op => op = .NotEq
  | .isN, op => op = .Is
  | .notN, op => op = .IsNot
  | .isIn, op => op = .In
  | .notIn, op => op = .NotIn
theorem eqD_ok {il : Lay} {H : Hp} {h : Hs} {dx dy : D} {x y : V} {c : Bool} (w : WR G il H h) (r1 : Rep G il H dx x) (r2 : Rep G il H dy y) (e : eqD dx dy h = some c) :
    ∃ p q, Dp G.K H x p ∧ Dp G.K H y q ∧ SeqAt.shaped p = true ∧ SeqAt.shaped q = true ∧ PyData.eqv p q = c := by
  unfold eqD at e
  split at e
  · rename_i p q e1 e2
    split at e
    · rename_i hs
      cases e
      rw [Bool.and_eq_true] at hs
      exact ⟨p, q, r1.pyD w e1, r2.pyD w e2, hs.1, hs.2, rfl⟩
    · cases e
  · cases e
theorem toPys_lst {ds : List D} {ys : List PyData} (e : toPys ds = some ys) : toPy (.lst ds) = some (.list ys) := by simp [toPy, e]
theorem Reps.pyS {il : Lay} {H : Hp} {ds : List D} {vs : List V} {ps : List PyData} (r : Reps G il H ds vs) (e : toPys ds = some ps) : DpAll G.K H vs ps := Reps.py ds r e
theorem inD_ok {il : Lay} {H : Hp} {h : Hs} {dx dy : D} {x y : V} {c : Bool} (w : WR G il H h) (r1 : Rep G il H dx x) (r2 : Rep G il H dy y) (e : inD dx dy h = some c) :
    ∃ p ys, Dp G.K H x p ∧ (Dp G.K H y (.list ys) ∨ Dp G.K H y (.tuple ys)) ∧ SeqAt.shaped p = true ∧ SeqAt.shaped (.list ys) = true ∧ (ys.any fun z => PyData.eqv z p) = c := by
  unfold inD at e
  split at e
  · rename_i p ds e1 e2
    split at e
    · rename_i ys e3
      split at e
      · rename_i hs
        cases e
        rw [Bool.and_eq_true] at hs
        obtain ⟨a, xs, rfl, hq, _, rs⟩ := r2.seq w e2
        refine ⟨p, ys, Rep.py _ r1 e1, ?_, hs.1, hs.2, rfl⟩
        rcases hq with hq | hq
        · exact .inl (.lst hq (rs.pyS e3))
        · exact .inr (.tup hq (rs.pyS e3))
      · cases e
    · cases e
  · cases e
theorem op_inT (hu : X.A.units + 65 < cLine) : OpR X (compareOp .In) fun x y H Q => ∃ d ds, Dp X.K H x d ∧ Dp X.K H y (.tuple ds) ∧ SeqAt.shaped d = true ∧ SeqAt.shaped (.list ds) = true ∧ Q (.bl (ds.any fun z => PyData.eqv z d)) H := by
  intro pins s σ H x y v u Q I rx ry h
  obtain ⟨d, ds, hd, he, sd, se, q⟩ := h
  obtain ⟨as, r1⟩ := Dp.reads I d x v hd rx
  obtain ⟨bs, r2⟩ := Dp.reads I (.tuple ds) y u he ry
  exact SeqAt.in_tuple_reads r2 r1 (SeqAt.canLay_of_shaped se) (SeqAt.canLay_of_shaped sd) (room_in_shaped sd hu) ⟨.bl _, H, I, rfl, q⟩
theorem op_notInT (hu : X.A.units + 65 < cLine) : OpR X (compareOp .NotIn) fun x y H Q => ∃ d ds, Dp X.K H x d ∧ Dp X.K H y (.tuple ds) ∧ SeqAt.shaped d = true ∧ SeqAt.shaped (.list ds) = true ∧ Q (.bl (!ds.any fun z => PyData.eqv z d)) H := by
  intro pins s σ H x y v u Q I rx ry h
  obtain ⟨d, ds, hd, he, sd, se, q⟩ := h
  obtain ⟨as, r1⟩ := Dp.reads I d x v hd rx
  obtain ⟨bs, r2⟩ := Dp.reads I (.tuple ds) y u he ry
  exact SeqAt.notIn_tuple_reads r2 r1 (SeqAt.canLay_of_shaped se) (SeqAt.canLay_of_shaped sd) (room_in_shaped sd hu) ⟨.bl _, H, I, rfl, q⟩
theorem rep_non_iff {il : Lay} {H : Hp} {d : D} {x : V} (r : Rep G il H d x) (n : ∀ _ : d = .non, False) : x ≠ .non := by
  cases r <;> first | exact (n rfl).elim | (intro z; cases z)
theorem cmp_ok {cop : Cop} {op : CmpOp} (hop : CopIs cop op) (hu : X.A.units + 65 < cLine) {pins : List (Addr × Obj)} {s : Shared} {σ : L2.St} {H : Hp} {x y : V} {v u : Value} {Q : VK} {E : XK} (I : Inv X pins σ H s) (hK : X.K = G.K) (rx : RelV x v) (ry : RelV y u)
    {il : Lay} {h : Hs} {dx dy : D} (w : WR G il H h) (r1 : Rep G il H dx x) (r2 : Rep G il H dy y) (q : after G (cmpD cop dx dy h) il H Q E) :
    wpAny (model X.prog X.w) X.A (compareOp op v u) (EP X pins σ Q) X.xe s := by
  have hu1 : X.A.units + 64 < cLine := by omega
  cases cop <;> cases hop
  · unfold cmpD at q; dsimp only at q
    split at q
    · cases r1.int_inv; cases r2.int_inv
      exact op_lt pins s σ H _ _ v u Q I rx ry ⟨_, _, rfl, rfl, q _ il H .refl w (.bl _)⟩
    · exact q.elim
  · unfold cmpD at q; dsimp only at q
    split at q
    · cases r1.int_inv; cases r2.int_inv
      exact op_le pins s σ H _ _ v u Q I rx ry ⟨_, _, rfl, rfl, q _ il H .refl w (.bl _)⟩
    · exact q.elim
  · unfold cmpD at q; dsimp only at q
    split at q
    · cases r1.int_inv; cases r2.int_inv
      exact op_gt pins s σ H _ _ v u Q I rx ry ⟨_, _, rfl, rfl, q _ il H .refl w (.bl _)⟩
    · exact q.elim
  · unfold cmpD at q; dsimp only at q
    split at q
    · cases r1.int_inv; cases r2.int_inv
      exact op_ge pins s σ H _ _ v u Q I rx ry ⟨_, _, rfl, rfl, q _ il H .refl w (.bl _)⟩
    · exact q.elim
  · unfold cmpD at q; dsimp only at q
    split at q
    · rename_i c e
      obtain ⟨p, p', d1, d2, s1, s2, ec⟩ := eqD_ok w r1 r2 e
      exact op_eqD hu1 pins s σ H _ _ v u Q I rx ry ⟨p, p', hK ▸ d1, hK ▸ d2, s1, s2, by rw [ec]; exact q _ il H .refl w (.bl _)⟩
    · exact q.elim
  · unfold cmpD at q; dsimp only at q
    split at q
    · rename_i c e
      obtain ⟨p, p', d1, d2, s1, s2, ec⟩ := eqD_ok w r1 r2 e
      exact op_neD hu1 pins s σ H _ _ v u Q I rx ry ⟨p, p', hK ▸ d1, hK ▸ d2, s1, s2, by rw [ec]; exact q _ il H .refl w (.bl _)⟩
    · exact q.elim
  · unfold cmpD at q; dsimp only at q
    split at q
    · cases r2.non_inv
      split at q
      · cases r1.non_inv
        exact op_isN pins s σ H _ _ v u Q I rx ry ⟨rfl, q _ il H .refl w (.bl _)⟩
      · rename_i n
        refine op_isN pins s σ H _ _ v u Q I rx ry ⟨rfl, ?_⟩
        rw [decide_eq_false (rep_non_iff r1 n)]
        exact q _ il H .refl w (.bl _)
    · exact q.elim
  · unfold cmpD at q; dsimp only at q
    split at q
    · cases r2.non_inv
      split at q
      · cases r1.non_inv
        exact op_notN pins s σ H _ _ v u Q I rx ry ⟨rfl, q _ il H .refl w (.bl _)⟩
      · rename_i n
        refine op_notN pins s σ H _ _ v u Q I rx ry ⟨rfl, ?_⟩
        rw [decide_eq_false (rep_non_iff r1 n)]
        exact q _ il H .refl w (.bl _)
    · exact q.elim
  · unfold cmpD at q; dsimp only at q
    split at q
    · rename_i c e
      obtain ⟨p, ys, d1, d2, s1, s2, ec⟩ := inD_ok w r1 r2 e
      rcases d2 with d2 | d2
      · exact op_inD hu pins s σ H _ _ v u Q I rx ry ⟨p, ys, hK ▸ d1, hK ▸ d2, s1, s2, by rw [ec]; exact q _ il H .refl w (.bl _)⟩
      · exact op_inT hu pins s σ H _ _ v u Q I rx ry ⟨p, ys, hK ▸ d1, hK ▸ d2, s1, s2, by rw [ec]; exact q _ il H .refl w (.bl _)⟩
    · exact q.elim
  · unfold cmpD at q; dsimp only at q
    split at q
    · rename_i c e
      obtain ⟨p, ys, d1, d2, s1, s2, ec⟩ := inD_ok w r1 r2 e
      rcases d2 with d2 | d2
      · exact op_notInD hu pins s σ H _ _ v u Q I rx ry ⟨p, ys, hK ▸ d1, hK ▸ d2, s1, s2, by rw [ec]; exact q _ il H .refl w (.bl _)⟩
      · exact op_notInT hu pins s σ H _ _ v u Q I rx ry ⟨p, ys, hK ▸ d1, hK ▸ d2, s1, s2, by rw [ec]; exact q _ il H .refl w (.bl _)⟩
    · exact q.elim
end

section
variable {X : Cx} {G : Sg} {W : WX} {a b c : Expr} {va vb vc : Env1 → Hs → Out D} {pos : Pos}
theorem s_cmp {cop : Cop} {op : CmpOp} (hop : CopIs cop op) (hu : X.A.units + 65 < cLine) (hK : X.K = G.K) (hm : behindInMarks op b = false) (ha : PE X a (tV G W va)) (hb : PE X b (tV G W vb)) :
    PE X (.Compare a [op] [b] pos) (tV G W fun r h => (va r h).bind fun x h1 => (vb r h1).bind fun y h2 => cmpD cop x y h2) := by
  refine ⟨fun pins s σ H Q I h => ?_⟩
  exact wpAny_Compare1 (two_run ha hb I (fun s H x y v u il h dx dy I r1 r2 w e1 e2 q => cmp_ok hop hu I hK r1 r2 w e1 e2 q) h) hm
theorem t_cmp {cop : Cop} {op : CmpOp} (hop : CopIs cop op) (hu : X.A.units + 65 < cLine) (hK : X.K = G.K) (hm : behindInMarks op b = false) (ha : PE X a (tV G W va)) (hb : PE X b (tV G W vb)) :
    PT X (.Compare a [op] [b] pos) (tB1 G W (tstOf fun r h => (va r h).bind fun x h1 => (vb r h1).bind fun y h2 => cmpD cop x y h2)) := by
  refine ⟨fun pins s σ H Q I h => ?_⟩
  have h' : tV G W (fun r h => (va r h).bind fun x h1 => (vb r h1).bind fun y h2 => cmpD cop x y h2) σ H fun x H' => ∃ k, TruV X.K x H' k ∧ Q k H' := by
    obtain ⟨il, h, r, w, er, q⟩ := h
    refine ⟨il, h, r, w, er, after_imp (afterB.bind q) fun x H1 ⟨il1, h1, dx, e1, w1, r1, q1⟩ => ?_⟩
    split at q1
    · rename_i b e
      exact ⟨b, by rw [hK]; exact truth_ok w1 r1 e, q1 il1 H1 .refl w1⟩
    · exact q1.elim
  exact wpAny_isTrue_Compare1 (thn (two_run ha hb I (fun s H x y v u il h dx dy I r1 r2 w e1 e2 q => cmp_ok hop hu I hK r1 r2 w e1 e2 q) h') fun v s1 h1 => thn h1 fun u s2 h2 => thn h2 fun c s3 ⟨x, H1, I1, r1, q1⟩ =>
    tru_ok pins s3 σ H1 x c Q I1 r1 q1) hm
end
end GY

namespace GY
open PySem PySem.Spec PyProof.Rows L2

def isStar : Expr → Bool
  | .Starred _ _ => true
  | _ => false
theorem starEach_plain {e : Expr} {es : List Expr} {env : Env} (h : isStar e = false) : starEach (e :: es) env = (false, eval e env) :: starEach es env := by
  cases e <;> first | rfl | cases h
def isSlice : Expr → Bool
  | .Slice .. => true
  | _ => false

section
variable {X : Cx} {G : Sg} {W : WX} {a b c : Expr} {va vb vc : Env1 → Hs → Out D} {vs : Env1 → Hs → Out (List D)} {pos : Pos} {es : List Expr}
/-- a < b < c -/
theorem chain_imp {cop cop' : Cop} {σ : L2.St} {H : Hp} {Q : VK} (h : tV G W (fun r h => (va r h).bind fun x h1 => (vb r h1).bind fun y h2 => (cmpD cop x y h2).bind fun z h3 => match z with
    | .bl k => if k = true then (vc r h3).bind fun w h4 => cmpD cop' y w h4 else .ok (.bl false) h3
    | _ => .stuck) σ H Q) :
    tV G W va σ H fun x H1 => tV G W vb σ H1 fun y H2 => ∃ il h2 dx dy, WR G il H2 h2 ∧ Rep G il H2 dx x ∧ Rep G il H2 dy y ∧ after G (cmpD cop dx dy h2) il H2 (fun z H3 => ∃ k, z = .bl k ∧ (if k = true then
      tV G W vc σ H3 (fun w' H4 => ∃ il h4 dy' dw, WR G il H4 h4 ∧ Rep G il H4 dy' y ∧ Rep G il H4 dw w' ∧ after G (cmpD cop' dy' dw h4) il H4 Q (fun c a H' => W c a σ H')) else Q (.bl false) H3)) (fun c a H' => W c a σ H') := by
  obtain ⟨il, h, r, w, er, q⟩ := h
  refine ⟨il, h, r, w, er, ?_⟩
  refine after_imp (after.bind q) fun x H1 ⟨il1, h1, dx, e1, w1, r1, q1⟩ => ?_
  refine ⟨il1, h1, r, w1, er.ext e1, ?_⟩
  refine after_imp (after.bind q1) fun y H2 ⟨il2, h2, dy, e2, w2, r2, q2⟩ => ?_
  refine ⟨il2, h2, dx, dy, w2, r1.ext e2, r2, ?_⟩
  refine after_imp (after.bind q2) fun z H3 ⟨il3, h3, dz, e3, w3, r3, q3⟩ => ?_
  cases dz <;> try exact q3.elim
  rename_i k
  refine ⟨k, r3.bl_inv, ?_⟩
  cases k with
  | false => exact q3 _ il3 H3 .refl w3 (.bl _)
  | true =>
    rw [if_pos rfl]
    refine ⟨il3, h3, r, w3, er.ext (e1.trans (e2.trans e3)), ?_⟩
    exact after_imp (after.bind q3) fun w' H4 ⟨il4, h4, dw, e4, w4, r4, q4⟩ => ⟨il4, h4, dy, dw, w4, r2.ext (e3.trans e4), r4, q4⟩
theorem cmp_opR {cop : Cop} {op : CmpOp} (hop : CopIs cop op) (hu : X.A.units + 65 < cLine) (hK : X.K = G.K) (E : XK) :
    OpR X (compareOp op) fun x y H Q => ∃ il h dx dy, WR G il H h ∧ Rep G il H dx x ∧ Rep G il H dy y ∧ after G (cmpD cop dx dy h) il H Q E := by
  intro pins s σ H x y v u Q I rx ry ⟨il, h, dx, dy, w, r1, r2, q⟩
  exact cmp_ok hop hu I hK rx ry w r1 r2 q
theorem s_cmp2 {cop cop' : Cop} {op op' : CmpOp} (hop : CopIs cop op) (hop' : CopIs cop' op') (hu : X.A.units + 65 < cLine) (hK : X.K = G.K) (hm : lastMarks [op, op'] [b, c] = false) (ha : PE X a (tV G W va)) (hb : PE X b (tV G W vb)) (hc : PE X c (tV G W vc)) :
    PE X (.Compare a [op, op'] [b, c] pos) (tV G W fun r h => (va r h).bind fun x h1 => (vb r h1).bind fun y h2 => (cmpD cop x y h2).bind fun z h3 => match z with
    | .bl k => if k = true then (vc r h3).bind fun w h4 => cmpD cop' y w h4 else .ok (.bl false) h3
    | _ => .stuck) := by
  refine ⟨fun pins s σ H Q I h => ?_⟩
  exact (pe_chain (cmp_opR hop hu hK (fun c a H' => W c a σ H')) (cmp_opR hop' hu hK (fun c a H' => W c a σ H')) ha hb hc hm).run pins s σ H Q I (chain_imp h)
theorem t_cmp2 {cop cop' : Cop} {op op' : CmpOp} (hop : CopIs cop op) (hop' : CopIs cop' op') (hu : X.A.units + 65 < cLine) (hK : X.K = G.K) (hm : lastMarks [op, op'] [b, c] = false) (ha : PE X a (tV G W va)) (hb : PE X b (tV G W vb)) (hc : PE X c (tV G W vc)) :
    PT X (.Compare a [op, op'] [b, c] pos) (tB1 G W (tstOf fun r h => (va r h).bind fun x h1 => (vb r h1).bind fun y h2 => (cmpD cop x y h2).bind fun z h3 => match z with
    | .bl k => if k = true then (vc r h3).bind fun w h4 => cmpD cop' y w h4 else .ok (.bl false) h3
    | _ => .stuck)) := by
  refine ⟨fun pins s σ H Q I h => ?_⟩
  have cm : ∀ {cop x y h2 d h'}, cmpD cop x y h2 = .ok d h' → ∃ k, d = .bl k := fun {cop x y h2 d h'} e => by
    unfold cmpD at e
    cases cop <;> dsimp only at e <;> (split at e <;> first | (cases e; exact ⟨_, rfl⟩) | (cases e) | (split at e <;> first | (cases e; exact ⟨_, rfl⟩) | cases e))
  refine (pt_chain (cmp_opR hop hu hK (fun c a H' => W c a σ H')) (cmp_opR hop' hu hK (fun c a H' => W c a σ H')) ha hb hc hm).run pins s σ H Q I (chain_imp (Q := fun x H' => ∃ k, x = V.bl k ∧ Q k H') ?_)
  obtain ⟨il, h, r, w, er, q⟩ := h
  refine ⟨il, h, r, w, er, ?_⟩
  have bl : ∀ (o : Out D) (il : Lay) (H : Hp), (∀ d h', o = .ok d h' → ∃ k, d = .bl k) → afterB G (o.bind fun d h1 => match truthD d h1 with | some b => .ok b h1 | none => .stuck) il H Q (fun c a H' => W c a σ H') →
      after G o il H (fun x H' => ∃ k, x = V.bl k ∧ Q k H') (fun c a H' => W c a σ H') := fun o il H ho z => by
    cases o with
    | stuck => exact z
    | exc e h' => exact z
    | ok d h' =>
      obtain ⟨k, rfl⟩ := ho d h' rfl
      intro v il' H' e w' r'
      exact ⟨k, r'.bl_inv, z il' H' e w'⟩
  refine bl _ il H (fun d h' e => ?_) q
  dsimp only at e
  cases o1 : va r h with
  | stuck => rw [o1] at e; cases e
  | exc x y => rw [o1] at e; cases e
  | ok x h1 =>
    rw [o1] at e
    simp only [Out.bind_ok] at e
    cases o2 : vb r h1 with
    | stuck => rw [o2] at e; cases e
    | exc x y => rw [o2] at e; cases e
    | ok y h2 =>
      rw [o2] at e
      simp only [Out.bind_ok] at e
      cases o3 : cmpD cop x y h2 with
      | stuck => rw [o3] at e; cases e
      | exc x y => rw [o3] at e; cases e
      | ok z h3 =>
        rw [o3] at e
        simp only [Out.bind_ok] at e
        cases z <;> try (cases e)
        rename_i k
        cases k with
        | false => cases e; exact ⟨_, rfl⟩
        | true =>
          simp only [if_true] at e
          cases o4 : vc r h3 with
          | stuck => rw [o4] at e; cases e
          | exc x y => rw [o4] at e; cases e
          | ok w4 h4 => rw [o4] at e; exact cm e
theorem plain_ix (h : isSlice b = false) : PlainIx b := by
  intro o i
  cases b <;> first | rfl | cases h
theorem s_idx (hK : X.K = G.K) (hs : isSlice b = false) (ha : PE X a (tV G W va)) (hb : PE X b (tV G W vb)) :
    PE X (.Subscript a b pos) (tV G W fun r h => (va r h).bind fun x h1 => (vb r h1).bind fun y h2 => idxD x y h2) := by
  refine ⟨fun pins s σ H Q I h => (pe_ix ix_seq ha hb (plain_ix hs)).run pins s σ H Q I (two (R := fun x y H Q => rIx X.K x y H Q) (fun il H2 h2 x y dx dy w r1 r2 q => ?_) h)⟩
  unfold idxD at q
  split at q
  · cases r2.int_inv
    split at q
    · rename_i ds e
      split at q
      · rename_i d e2
        obtain ⟨p, xs, rfl, hq, nl, rs⟩ := r1.seq w e
        obtain ⟨v, e3, rv⟩ := rs.atI e2
        rcases hq with hq | hq
        · exact .inl ⟨p, xs, _, v, rfl, rfl, hK ▸ hq, e3, q v il H2 .refl w rv⟩
        · exact .inr (.inl ⟨p, xs, _, v, rfl, rfl, hK ▸ hq, e3, q v il H2 .refl w rv⟩)
      · exact q.elim
    · exact q.elim
  · exact q.elim
/-- an argument list without a star -/
theorem a_nil : PA X [] (tL G W fun _ h => .ok [] h) := pa_nil.imp fun s H Q ⟨il, h, r, w, _, q⟩ => q [] il H .refl w .nil
theorem a_cons (hs : isStar a = false) (ha : PE X a (tV G W va)) (hr : PA X es (tL G W vs)) :
    PA X (a :: es) (tL G W fun r h => (va r h).bind fun d h1 => (vs r h1).bind fun ds h2 => .ok (d :: ds) h2) := by
  refine (pa_cons ha hr (starEach_plain hs)).imp fun s H Q ⟨il, h, r, w, er, q⟩ => ?_
  refine ⟨il, h, r, w, er, after_imp (afterL.bind q) fun x H1 ⟨il1, h1, dx, e1, w1, r1, q1⟩ => ?_⟩
  refine ⟨il1, h1, r, w1, er.ext e1, after_impL (afterL.bindL q1) fun xs H2 ⟨il2, h2, ds, e2, w2, r2, q2⟩ => ?_⟩
  exact q2 _ il2 H2 .refl w2 (.cons (r1.ext e2) r2)
theorem mk_cond {ds : List D} (h : (noLoc ds && decide (ds.length ≤ sizeLine)) = true) : noLoc ds = true ∧ ds.length ≤ sizeLine := by
  rw [Bool.and_eq_true, decide_eq_true_eq] at h; exact h
theorem s_tup {x1} (hs : PA X es (tL G W vs)) : PE X (.Tuple es x1 pos) (tV G W fun r h => (vs r h).bind fun ds h1 => mkTup ds h1) := by
  refine (pe_tup hs).imp fun s H Q ⟨il, h, r, w, er, q⟩ => ⟨il, h, r, w, er, after_impL (after.bindL q) fun xs H1 ⟨il1, h1, ds, e1, w1, r1, q1⟩ => ?_⟩
  unfold mkTup at q1
  split at q1
  · rename_i c
    obtain ⟨nl, hl⟩ := mk_cond c
    refine ⟨by rw [← r1.length]; exact hl, fun p hp => ?_⟩
    obtain ⟨e, w', r⟩ := Rep.newT w1 hp nl r1
    exact q1 _ il1 _ e w' r
  · exact q1.elim
theorem s_lst (hs : PA X es (tL G W vs)) : PE X (.List es pos) (tV G W fun r h => (vs r h).bind fun ds h1 => mkLst ds h1) := by
  refine (pe_lst hs).imp fun s H Q ⟨il, h, r, w, er, q⟩ => ⟨il, h, r, w, er, after_impL (after.bindL q) fun xs H1 ⟨il1, h1, ds, e1, w1, r1, q1⟩ => ?_⟩
  unfold mkLst at q1
  split at q1
  · rename_i c
    obtain ⟨nl, hl⟩ := mk_cond c
    refine ⟨by rw [← r1.length]; exact hl, fun p hp => ?_⟩
    obtain ⟨e, w', r⟩ := Rep.new w1 hp nl r1
    exact q1 _ il1 _ e w' r
  · exact q1.elim
theorem s_lnew (hs : PA X es (tL G W vs)) : PE X (.List es pos) (tV G W fun r h => (vs r h).bind fun ds h1 => if noLoc ds && decide (ds.length ≤ sizeLine) then .ok (.loc h1.length) (h1 ++ [.lst ds]) else .stuck) := by
  refine (pe_lst hs).imp fun s H Q ⟨il, h, r, w, er, q⟩ => ⟨il, h, r, w, er, after_impL (after.bindL q) fun xs H1 ⟨il1, h1, ds, e1, w1, r1, q1⟩ => ?_⟩
  split at q1
  · rename_i c
    obtain ⟨nl, hl⟩ := mk_cond c
    refine ⟨by rw [← r1.length]; exact hl, fun p hp => ?_⟩
    obtain ⟨w', e⟩ := w1.push hp r1 nl
    exact q1 _ _ _ e w' (.loc (by rw [← w1.len]; simp [Lay.push]))
  · exact q1.elim
theorem noLoc_cut {ds : List D} (n m : Nat) (h : noLoc ds = true) : noLoc ((ds.drop n).take m) = true := by
  unfold noLoc at *
  rw [List.all_eq_true] at *
  exact fun x hx => h x (List.mem_of_mem_drop (List.mem_of_mem_take hx))
/-- a slice's part -/
def afterO (G : Sg) (o : Out (Option Int)) (il : Lay) (H : Hp) (Q : Option Int → Hp → Prop) (E : XK) : Prop :=
  match o with
  | .ok b h' => ∀ il' H', Ext il H il' H' → WR G il' H' h' → Q b H'
  | .exc e h' => ∀ cls a il' H', Ext il H il' H' → WR G il' H' h' → RepX G il' H' e cls a → E cls a H'
  | .stuck => False
theorem afterO.mono {o : Out (Option Int)} {il il1 : Lay} {H H1 : Hp} {Q : Option Int → Hp → Prop} {E : XK} (e : Ext il H il1 H1) (h : afterO G o il H Q E) : afterO G o il1 H1 Q E := by
  cases o with
  | ok d h' => exact fun il' H' e' => h il' H' (e.trans e')
  | exc x h' => exact fun c a il' H' e' => h c a il' H' (e.trans e')
  | stuck => exact h
theorem after.bindO {o : Out (Option Int)} {il : Lay} {H : Hp} {Q : VK} {E : XK} {f : Option Int → Hs → Out D} (h : after G (o.bind f) il H Q E) :
    afterO G o il H (fun b H1 => ∃ il1 h1, Ext il H il1 H1 ∧ WR G il1 H1 h1 ∧ after G (f b h1) il1 H1 Q E) E := by
  cases o with
  | ok d h' => exact fun il' H' e w => ⟨il', h', e, w, after.mono e h⟩
  | exc x h' => exact h
  | stuck => exact h
theorem afterO_imp {o : Out (Option Int)} {il : Lay} {H : Hp} {Q Q1 : Option Int → Hp → Prop} {E : XK} (h : afterO G o il H Q1 E) (f : ∀ v H, Q1 v H → Q v H) : afterO G o il H Q E := by
  cases o with
  | ok d h1 => exact fun il1 H1 e w => f _ _ (h il1 H1 e w)
  | exc x h1 => exact h
  | stuck => exact h
def tO (G : Sg) (W : WX) (v : Env1 → Hs → Out (Option Int)) : TO := fun s H Q => ∃ il h r, WR G il H h ∧ ER G il H r s ∧ afterO G (v r h) il H Q (fun c a H' => W c a s H')
theorem o_none : PO X none (tO G W fun _ h => .ok none h) := ⟨fun pins s σ H Q I ⟨il, h, r, w, er, q⟩ => po_none.run pins s σ H Q I (q il H .refl w)⟩
theorem o_some (ha : PE X a (tV G W va)) : PO X (some a) (tO G W fun r h => (va r h).bind fun d h1 => match d with | .int i => .ok (some i) h1 | _ => .stuck) := by
  refine ⟨fun pins s σ H Q I ⟨il, h, r, w, er, q⟩ => (po_some ha).run pins s σ H Q I ⟨il, h, r, w, er, ?_⟩⟩
  dsimp only at q
  cases o : va r h with
  | stuck => rw [o] at q; exact q
  | exc x y => rw [o] at q; exact q
  | ok d h1 =>
    rw [o] at q
    simp only [Out.bind_ok] at q
    cases d <;> try exact q.elim
    intro v il' H' e w' r'
    exact ⟨_, r'.int_inv, q il' H' e w'⟩
theorem s_slc {vl vh : Env1 → Hs → Out (Option Int)} {lo hi : Option Expr} {p2 : Pos} (hK : X.K = G.K) (ha : PE X a (tV G W va)) (hl : PO X lo (tO G W vl)) (hh : PO X hi (tO G W vh)) :
    PE X (.Subscript a (.Slice lo hi none p2) pos) (tV G W fun r h => (va r h).bind fun x h1 => (vl r h1).bind fun l h2 => (vh r h2).bind fun u h3 => slcD x l u h3) := by
  refine ⟨fun pins s σ H Q I h => (pe_slice sl_list ha hl hh).run pins s σ H Q I ?_⟩
  obtain ⟨il, h, r, w, er, q⟩ := h
  refine ⟨il, h, r, w, er, after_imp (after.bind q) fun x H1 ⟨il1, h1, dx, e1, w1, r1, q1⟩ => ?_⟩
  refine ⟨il1, h1, r, w1, er.ext e1, afterO_imp (after.bindO q1) fun l H2 ⟨il2, h2, e2, w2, q2⟩ => ?_⟩
  refine ⟨il2, h2, r, w2, er.ext (e1.trans e2), afterO_imp (after.bindO q2) fun u H3 ⟨il3, h3, e3, w3, q3⟩ => ?_⟩
  unfold slcD at q3
  split at q3
  · rename_i ds e
    obtain ⟨p, xs, rfl, hq, nl, rs⟩ := (r1.ext (e2.trans e3)).lseq w3 e
    refine ⟨p, xs, rfl, hK ▸ hq, fun np hp => ?_⟩
    have rc : Reps G il3 H3 (cutD ds l u) (cutV xs l u) := by
      unfold cutD cutV
      rw [rs.length]
      exact (rs.drop _).take _
    obtain ⟨e', w', r'⟩ := Rep.new w3 hp (noLoc_cut _ _ nl) rc
    exact q3 _ il3 _ e' w' r'
  · exact q3.elim
end

/-! ### calls of built-ins by values -/
section
variable {X : Cx} {G : Sg}
/-- what a call asks by data -/
def rC (G : Sg) (f : List D → Hs → Out D) (E : XK) : List V → Hp → VK → Prop := fun xs H Q => ∃ il h ds, WR G il H h ∧ Reps G il H ds xs ∧ after G (f ds h) il H Q E
theorem reps1 {il : Lay} {H : Hp} {d : D} {xs : List V} (r : Reps G il H [d] xs) : ∃ x, xs = [x] ∧ Rep G il H d x := by
  cases r with | cons a b => cases b; exact ⟨_, rfl, a⟩
theorem c_len (hK : X.K = G.K) (E : XK) : CallR X (.builtin "len") (rC G (bltD .len) E) := by
  rintro pins s σ H xs us Q I rx ⟨il, h, ds, w, rs, q⟩
  cases rs with
  | nil => exact q.elim
  | @cons d x _ _ r rs =>
    cases rs with
    | cons _ _ => exact q.elim
    | nil =>
      have sq : ∀ ds, seqOf d h = some ds → after G (.ok (.int ds.length) h) il H Q E → wpAny (model X.prog X.w) X.A (call (.builtin "len") us) (EP X pins σ Q) X.xe s := fun ds e q => by
        obtain ⟨p, ys, rfl, hq, _, ry⟩ := r.seq w e
        refine call_len_seq pins s σ H _ us Q I rx ⟨p, ys, rfl, hK ▸ hq, ?_⟩
        rw [← ry.length]
        exact q _ il H .refl w (.int _)
      simp only [bltD] at q
      cases d with
      | str z =>
        cases r.str_inv
        simp only [lenD] at q
        split at q
        · rename_i c
          exact call_len_str pins s σ H _ us Q I rx ⟨_, rfl, c, q _ il H .refl w (.int _)⟩
        · exact q.elim
      | _ =>
        simp only [lenD] at q
        split at q
        · rename_i ds e; exact sq ds e q
        · exact q.elim
theorem c_sum (hK : X.K = G.K) (hc : X.calm = true) (E : XK) : CallR X (.builtin "sum") (rC G (bltD .sum) E) := by
  rintro pins s σ H xs us Q I rx ⟨il, h, ds, w, rs, q⟩
  cases rs with
  | nil => exact q.elim
  | cons r rs =>
    cases rs with
    | cons _ _ => exact q.elim
    | nil =>
      simp only [bltD] at q
      split at q
      · rename_i is e
        obtain ⟨ds, e1, e2⟩ := Option.bind_eq_some_iff.mp e
        obtain ⟨p, ys, rfl, hq, _, ry⟩ := r.lseq w e1
        have ey := ry.ints e2
        subst ey
        exact cr_sum hc pins s σ H _ us Q I rx ⟨p, is, rfl, hK ▸ hq, q _ il H .refl w (.int _)⟩
      · exact q.elim
theorem minL_spec : ∀ (a : Int) (l : List Int), minL a l ∈ a :: l ∧ ∀ y ∈ a :: l, minL a l ≤ y
  | a, [] => ⟨List.mem_cons_self .., fun y m => by
      have e : y = a := by simpa using m
      subst e; exact Int.le_refl _⟩
  | a, b :: bs => by
    unfold minL
    by_cases hc : b < a
    · rw [if_pos hc]
      obtain ⟨h1, h2⟩ := minL_spec b bs
      have h3 := h2 _ (List.mem_cons_self ..)
      refine ⟨List.mem_cons_of_mem _ h1, fun y m => ?_⟩
      rcases List.mem_cons.mp m with e | m
      · subst e; omega
      · exact h2 y m
    · rw [if_neg hc]
      obtain ⟨h1, h2⟩ := minL_spec a bs
      have h3 := h2 _ (List.mem_cons_self ..)
      refine ⟨?_, fun y m => ?_⟩
      · rcases List.mem_cons.mp h1 with e | m
        · rw [e]; exact List.mem_cons_self ..
        · exact List.mem_cons_of_mem _ (List.mem_cons_of_mem _ m)
      · rcases List.mem_cons.mp m with e | m
        · subst e; omega
        · rcases List.mem_cons.mp m with e | m
          · subst e; omega
          · exact h2 y (List.mem_cons_of_mem _ m)
theorem c_min (hK : X.K = G.K) (hc : X.calm = true) (E : XK) : CallR X (.builtin "min") (rC G (bltD .min_) E) := by
  rintro pins s σ H xs us Q I rx ⟨il, h, ds, w, rs, q⟩
  cases rs with
  | nil => exact q.elim
  | cons r rs =>
    cases rs with
    | cons r2 rs =>
      cases rs with
      | cons _ _ =>
        rename_i d _ d2 _ _ _ _ _
        cases d <;> cases d2 <;> exact q.elim
      | nil =>
        rename_i d _ d2 _
        cases d <;> first | exact q.elim | (cases d2 <;> first | exact q.elim | skip)
        cases r.int_inv
        cases r2.int_inv
        exact call_min2 hc pins s σ H _ us Q I rx ⟨_, _, rfl, q _ il H .refl w (.int _)⟩
    | nil =>
      simp only [bltD] at q
      split at q
      · rename_i i is e
        obtain ⟨ds, e1, e2⟩ := Option.bind_eq_some_iff.mp e
        obtain ⟨p, ys, rfl, hq, _, ry⟩ := r.lseq w e1
        have ey := ry.ints e2
        subst ey
        refine cr_min hc pins s σ H _ us Q I rx ⟨p, i :: is, rfl, hK ▸ hq, by simp, fun m m1 m2 => ?_⟩
        obtain ⟨s1, s2⟩ := minL_spec i is
        have em : m = minL i is := by
          have a1 := m2 _ s1
          have a2 := s2 _ m1
          omega
        rw [em]
        exact q _ il H .refl w (.int _)
      · exact q.elim
theorem maxL_spec : ∀ (a : Int) (l : List Int), maxL a l ∈ a :: l ∧ ∀ y ∈ a :: l, y ≤ maxL a l
  | a, [] => ⟨List.mem_cons_self .., fun y m => by
      have e : y = a := by simpa using m
      subst e; exact Int.le_refl _⟩
  | a, b :: bs => by
    unfold maxL
    by_cases hc : b > a
    · rw [if_pos hc]
      obtain ⟨h1, h2⟩ := maxL_spec b bs
      have h3 := h2 _ (List.mem_cons_self ..)
      refine ⟨List.mem_cons_of_mem _ h1, fun y m => ?_⟩
      rcases List.mem_cons.mp m with e | m
      · subst e; omega
      · exact h2 y m
    · rw [if_neg hc]
      obtain ⟨h1, h2⟩ := maxL_spec a bs
      have h3 := h2 _ (List.mem_cons_self ..)
      refine ⟨?_, fun y m => ?_⟩
      · rcases List.mem_cons.mp h1 with e | m
        · rw [e]; exact List.mem_cons_self ..
        · exact List.mem_cons_of_mem _ (List.mem_cons_of_mem _ m)
      · rcases List.mem_cons.mp m with e | m
        · subst e; omega
        · rcases List.mem_cons.mp m with e | m
          · subst e; omega
          · exact h2 y (List.mem_cons_of_mem _ m)
theorem c_max (hK : X.K = G.K) (hc : X.calm = true) (E : XK) : CallR X (.builtin "max") (rC G (bltD .max_) E) := by
  rintro pins s σ H xs us Q I rx ⟨il, h, ds, w, rs, q⟩
  cases rs with
  | nil => exact q.elim
  | cons r rs =>
    cases rs with
    | cons r2 rs =>
      cases rs with
      | cons _ _ =>
        rename_i d _ d2 _ _ _ _ _
        cases d <;> cases d2 <;> exact q.elim
      | nil =>
        rename_i d _ d2 _
        cases d <;> first | exact q.elim | (cases d2 <;> first | exact q.elim | skip)
        cases r.int_inv
        cases r2.int_inv
        exact call_max2 hc pins s σ H _ us Q I rx ⟨_, _, rfl, q _ il H .refl w (.int _)⟩
    | nil =>
      simp only [bltD] at q
      split at q
      · rename_i i is e
        obtain ⟨ds, e1, e2⟩ := Option.bind_eq_some_iff.mp e
        obtain ⟨p, ys, rfl, hq, _, ry⟩ := r.lseq w e1
        have ey := ry.ints e2
        subst ey
        refine cr_max hc pins s σ H _ us Q I rx ⟨p, i :: is, rfl, hK ▸ hq, by simp, fun m m1 m2 => ?_⟩
        obtain ⟨s1, s2⟩ := maxL_spec i is
        have em : m = maxL i is := by
          have a1 := m2 _ s1
          have a2 := s2 _ m1
          omega
        rw [em]
        exact q _ il H .refl w (.int _)
      · exact q.elim
theorem c_all (hK : X.K = G.K) (hc : X.calm = true) (E : XK) : CallR X (.builtin "all") (rC G (bltD .all_) E) := by
  rintro pins s σ H xs us Q I rx ⟨il, h, ds, w, rs, q⟩
  cases rs with
  | nil => exact q.elim
  | cons r rs =>
    cases rs with
    | cons _ _ => exact q.elim
    | nil =>
      simp only [bltD] at q
      split at q
      · rename_i is e
        obtain ⟨ds, e1, e2⟩ := Option.bind_eq_some_iff.mp e
        obtain ⟨p, ys, rfl, hq, _, ry⟩ := r.lseq w e1
        have ey := ry.bools e2
        subst ey
        exact cr_all hc pins s σ H _ us Q I rx ⟨p, is, rfl, hK ▸ hq, q _ il H .refl w (.bl _)⟩
      · exact q.elim
theorem c_any (hK : X.K = G.K) (hc : X.calm = true) (E : XK) : CallR X (.builtin "any") (rC G (bltD .any_) E) := by
  rintro pins s σ H xs us Q I rx ⟨il, h, ds, w, rs, q⟩
  cases rs with
  | nil => exact q.elim
  | cons r rs =>
    cases rs with
    | cons _ _ => exact q.elim
    | nil =>
      simp only [bltD] at q
      split at q
      · rename_i is e
        obtain ⟨ds, e1, e2⟩ := Option.bind_eq_some_iff.mp e
        obtain ⟨p, ys, rfl, hq, _, ry⟩ := r.lseq w e1
        have ey := ry.bools e2
        subst ey
        exact cr_any hc pins s σ H _ us Q I rx ⟨p, is, rfl, hK ▸ hq, q _ il H .refl w (.bl _)⟩
      · exact q.elim
theorem c_abs (E : XK) : CallR X (.builtin "abs") (rC G (bltD .abs_) E) := by
  rintro pins s σ H xs us Q I rx ⟨il, h, ds, w, rs, q⟩
  cases rs with
  | nil => exact q.elim
  | @cons d _ _ _ r rs =>
    cases rs with
    | cons _ _ => cases d <;> exact q.elim
    | nil =>
      cases d <;> try exact q.elim
      rename_i i
      cases r.int_inv
      refine call_abs pins s σ H _ us Q I rx ⟨i, rfl, ?_⟩
      have e : (if i < 0 then -i else i) = ((i.natAbs : Nat) : Int) := by split <;> omega
      rw [e]
      exact q _ il H .refl w (.int _)
theorem c_int (E : XK) : CallR X (.type "int") (rC G (bltD .int_) E) := by
  rintro pins s σ H xs us Q I rx ⟨il, h, ds, w, rs, q⟩
  cases rs with
  | nil => exact q.elim
  | @cons d _ _ _ r rs =>
    cases rs with
    | cons _ _ => cases d <;> exact q.elim
    | nil =>
      cases d <;> try exact q.elim
      · rename_i c
        cases r.bl_inv
        exact call_int1 pins s σ H _ us Q I rx (.inr ⟨c, rfl, q _ il H .refl w (.int _)⟩)
      · rename_i i
        cases r.int_inv
        exact call_int1 pins s σ H _ us Q I rx (.inl ⟨i, rfl, q _ il H .refl w (.int _)⟩)
theorem c_list (hK : X.K = G.K) (E : XK) : CallR X (.type "list") (rC G (bltD .list_) E) := by
  rintro pins s σ H xs us Q I rx ⟨il, h, ds, w, rs, q⟩
  cases rs with
  | nil => exact q.elim
  | cons r rs =>
    cases rs with
    | cons _ _ => exact q.elim
    | nil =>
      simp only [bltD] at q
      split at q
      · rename_i ds e
        obtain ⟨p, ys, rfl, hq, nl, ry⟩ := r.seq w e
        refine call_list_of pins s σ H _ us Q I rx ⟨p, ys, rfl, hK ▸ hq, fun l hl => ?_⟩
        obtain ⟨e', w', r'⟩ := Rep.new w hl nl ry
        exact q _ il _ e' w' r'
      · exact q.elim
end
end GY

namespace GY
open PySem PySem.Spec PyProof.Rows L2

/-! ### targets -/
mutual
def slotsT : T → List Nat
  | .nm i => [i]
  | .tp ts => slotsTs ts
def slotsTs : List T → List Nat
  | [] => []
  | t :: ts => slotsT t ++ slotsTs ts
end
/-- alike but at some slots -/
structure OffS (sl : List Nat) (s s' : L2.St) : Prop where
  len : s'.length = s.length
  eq : ∀ j, j ∉ sl → s'[j]? = s[j]?
def gD (G : Sg) (sl : List Nat) (t : D → Env1 → Hs → Option Env1) : TG := fun v s H Q => ∃ il h r d, WR G il H h ∧ ER G il H r s ∧ Rep G il H d v ∧ ∃ r', t d r h = some r' ∧ ∀ s', ER G il H r' s' → OffS sl s s' → Q s' H
def gDs (G : Sg) (sl : List Nat) (t : List D → Env1 → Hs → Option Env1) : TGs := fun v s H Q => ∃ il h r d, WR G il H h ∧ ER G il H r s ∧ Reps G il H d v ∧ ∃ r', t d r h = some r' ∧ ∀ s', ER G il H r' s' → OffS sl s s' → Q s' H
theorem OffS.refl {sl : List Nat} {s : L2.St} : OffS sl s s := ⟨rfl, fun _ _ => rfl⟩
theorem OffS.app {sl sm : List Nat} {s s1 s2 : L2.St} (a : OffS sl s s1) (b : OffS sm s1 s2) : OffS (sl ++ sm) s s2 :=
  ⟨b.len.trans a.len, fun j h => by rw [List.mem_append, not_or] at h; exact (b.eq j h.2).trans (a.eq j h.1)⟩
theorem OffS.set {s : L2.St} {i : Nat} {v : Option V} : OffS [i] s (s.set i v) := ⟨by simp, fun j h => by
  rw [List.getElem?_set_ne]
  intro z; subst z; exact h (by simp)⟩
theorem wipe_get (s : L2.St) : ∀ (vs : List Nat) (j : Nat), (wipe s vs)[j]? = if j ∈ vs then (if j < s.length then some none else none) else s[j]?
  | [], j => by simp [wipe]
  | v :: vs, j => by
    unfold wipe
    by_cases hj : v = j
    · subst hj
      rw [if_pos (List.mem_cons_self ..)]
      by_cases hl : v < s.length
      · rw [if_pos hl, List.getElem?_set_self (by rw [wipe_length]; exact hl)]
      · rw [if_neg hl, List.getElem?_eq_none (by rw [List.length_set, wipe_length]; omega)]
    · rw [List.getElem?_set_ne hj, wipe_get s vs j]
      by_cases hm : j ∈ vs
      · rw [if_pos hm, if_pos (List.mem_cons_of_mem _ hm)]
      · rw [if_neg hm, if_neg (fun z => (List.mem_cons.mp z).elim (fun z => hj z.symm) hm)]
theorem wipe_off {vs sl : List Nat} {s s' : L2.St} (o : OffS sl (wipe s vs) s') (h : ∀ j ∈ sl, j ∈ vs) : wipe s' vs = wipe s vs := by
  refine List.ext_getElem? fun j => ?_
  rw [wipe_get, wipe_get]
  by_cases hj : j ∈ vs
  · rw [if_pos hj, if_pos hj, o.len, wipe_length]
  · rw [if_neg hj, if_neg hj, o.eq j (fun z => hj (h j z)), wipe_get, if_neg hj]
theorem wipe_er {G : Sg} {il : Lay} {H : Hp} {r : Env1} {s : L2.St} (e : ER G il H r s) : ∀ vs : List Nat, ER G il H (wipeE r vs) (wipe s vs)
  | [] => e
  | v :: vs => by
    have ih := wipe_er e vs
    refine ⟨by simp [wipeE, wipe, ih.len], fun i d h => ?_⟩
    unfold wipeE at h
    unfold wipe
    by_cases hi : v = i
    · subst hi
      by_cases hl : v < (wipeE r vs).length
      · rw [List.getElem?_set_self hl] at h; cases h
      · rw [List.getElem?_eq_none (by simp; omega)] at h; cases h
    · rw [List.getElem?_set_ne hi] at h ⊢
      exact ih.at_ i d h
theorem ER.set {G : Sg} {il : Lay} {H : Hp} {r : Env1} {s : L2.St} {d : D} {v : V} (e : ER G il H r s) (i : Nat) (q : Rep G il H d v) : ER G il H (r.set i (some d)) (s.set i (some v)) := by
  refine ⟨by simp [e.len], fun j d' h => ?_⟩
  by_cases hj : i = j
  · subst hj
    by_cases hl : i < r.length
    · rw [List.getElem?_set_self hl] at h
      cases h
      exact ⟨v, by rw [List.getElem?_set_self (by rw [← e.len]; exact hl)], q⟩
    · rw [List.getElem?_eq_none (by simp; omega)] at h; cases h
  · rw [List.getElem?_set_ne hj] at h ⊢
    exact e.at_ j d' h
section
variable {X : Cx} {G : Sg} {pos : Pos}
theorem g_nm {i : Nat} {x : Str} (hN : X.N.Nodup) (hi : X.N[i]? = some x) (hx : Loc X.env.scope x) (hf : X.fn x = true ∨ X.env.scope.names.lookup x = some .local) : PG X (.Name x pos) (gD G (slotsT (.nm i)) fun d r h => bindT (.nm i) d r h) := by
  refine ⟨fun pins s σ H v u Q I rv q => (pg_name hN hi hx hf).run pins s σ H v u Q I rv ?_⟩
  obtain ⟨il, h, r, d, w, er, rd, r', e, q⟩ := q
  simp only [bindT, Option.some.injEq] at e
  subst e
  exact q _ (er.set i rd) OffS.set
theorem gs_nil : PGs X [] (gDs G (slotsTs []) fun d r h => bindTs [] d r h) := by
  refine ⟨fun pins s σ H v u Q I rv q => pgs_nil.run pins s σ H v u Q I rv ?_⟩
  obtain ⟨il, h, r, d, w, er, rd, r', e, q⟩ := q
  cases rd with
  | nil => simp only [bindTs, Option.some.injEq] at e; subst e; exact ⟨rfl, q _ er .refl⟩
  | cons _ _ => simp [bindTs] at e
theorem assignEach_plain {e : Expr} {es : List Expr} {env : Env} (h : isStar e = false) : assignEach (e :: es) env = (false, assign e env) :: assignEach es env := by
  cases e <;> first | rfl | cases h
theorem gs_cons {e : Expr} {es : List Expr} {t : T} {ts : List T} (hs : isStar e = false) (h1 : PG X e (gD G (slotsT t) fun d r h => bindT t d r h)) (h2 : PGs X es (gDs G (slotsTs ts) fun d r h => bindTs ts d r h)) : PGs X (e :: es) (gDs G (slotsTs (t :: ts)) fun d r h => bindTs (t :: ts) d r h) := by
  refine ⟨fun pins s σ H v u Q I rv q => (pgs_cons h1 h2 (by rw [assignEach_plain hs]; rfl)).run pins s σ H v u Q I rv ?_⟩
  obtain ⟨il, h, r, d, w, er, rd, r', e, q⟩ := q
  cases rd with
  | nil => simp [bindTs] at e
  | @cons d v ds vs rd rds =>
    simp only [bindTs] at e
    split at e
    · rename_i r1 e1
      exact ⟨v, vs, rfl, il, h, r, d, w, er, rd, r1, e1, fun s' er' hl => ⟨il, h, r1, ds, w, er', rds, r', e, fun s'' er'' hl' => q s'' er'' (hl.app hl')⟩⟩
    · cases e
theorem assignEach_len {env : Env} : ∀ {es : List Expr}, (assignEach es env).length = es.length
  | [] => rfl
  | e :: es => by cases e <;> (show Nat.succ _ = Nat.succ _; rw [assignEach_len])
theorem assignEach_find {env : Env} : ∀ {es : List Expr}, es.all (fun e => !isStar e) = true → (assignEach es env).findIdx? (·.1) = none
  | [], _ => rfl
  | e :: es, h => by
    rw [List.all_cons, Bool.and_eq_true] at h
    rw [assignEach_plain (by simpa using h.1), List.findIdx?_cons, if_neg (show ¬ false = true from by decide), assignEach_find h.2]
    rfl
theorem bindTs_len {h : Hs} : ∀ {ts : List T} {ds : List D} {r r' : Env1}, bindTs ts ds r h = some r' → ds.length = ts.length
  | [], [], _, _, _ => rfl
  | [], _ :: _, _, _, e => by simp [bindTs] at e
  | _ :: _, [], _, _, e => by simp [bindTs] at e
  | t :: ts, d :: ds, r, r', e => by
    simp only [bindTs] at e
    split at e
    · exact congrArg Nat.succ (bindTs_len e)
    · cases e
theorem g_tp {es : List Expr} {ts : List T} {k : Nat} (hK : X.K = G.K) (hc : X.calm = true) (hs : es.all (fun e => !isStar e) = true) (hl : es.length = ts.length) (h : PGs X es (gDs G (slotsTs ts) fun d r h => bindTs ts d r h)) : PG X (.Tuple es k pos) (gD G (slotsT (.tp ts)) fun d r h => bindT (.tp ts) d r h) := by
  refine ⟨fun pins s σ H v u Q I rv q => ?_⟩
  obtain ⟨il, h1, r, d, w, er, rd, r', e, q⟩ := q
  simp only [bindT] at e
  split at e
  · rename_i ds es1
    obtain ⟨a, xs, rfl, hq, nl, rs⟩ := rd.seq w es1
    have hn : xs.length = es.length := by rw [← rs.length, bindTs_len e, hl]
    rcases hq with hq | hq
    · exact (pg_lst hc h assignEach_len (assignEach_find hs)).run pins s σ H _ u Q I rv ⟨a, xs, rfl, hK ▸ hq, hn, il, h1, r, ds, w, er, rs, r', e, q⟩
    · exact (pg_tup hc h assignEach_len (assignEach_find hs)).run pins s σ H _ u Q I rv ⟨a, xs, rfl, hK ▸ hq, hn, il, h1, r, ds, w, er, rs, r', e, q⟩
  · cases e
end

/-! ### what is walked -/
/-- J gives the data ds, one behind another, while g holds of the store -/
structure WalkD (G : Sg) (J : It) (ds : List D) (g : Hs → Prop) (il0 : Lay) (H0 : Hp) : Prop where
  go : ∀ il H h i, Ext0 il0 H0 il H → WR G il H h → g h → i < ds.length → J.go i H
  stop : ∀ il H h, Ext0 il0 H0 il H → WR G il H h → g h → J.stop ds.length H
  yld : ∀ il H h i x H', Ext0 il0 H0 il H → WR G il H h → g h → i < ds.length → J.yld i H x H' → Ext il H il H' ∧ WR G il H' h ∧ ∃ d, ds[i]? = some d ∧ Rep G il H' d x
def afterI (G : Sg) (o : Out (List D × D)) (il : Lay) (H : Hp) (R : It → Hp → Prop) (E : XK) : Prop :=
  match o with
    | .ok p h' => ∀ il' H' J, Ext il H il' H' → WR G il' H' h' → WalkD G J p.1 (stays p.2 h') il' H' → R J H'
    | .exc e h' => ∀ cls a il' H', Ext il H il' H' → WR G il' H' h' → RepX G il' H' e cls a → E cls a H'
    | .stuck => False
def tI (G : Sg) (W : WX) (v : Env1 → Hs → Out (List D × D)) : TI := fun s H R => ∃ il h r, WR G il H h ∧ ER G il H r s ∧ afterI G (v r h) il H R fun cls a H' => W cls a s H'
theorem walk_l {G : Sg} {il : Lay} {H : Hp} {a : Addr} {ds : List D} {g : Hs → Prop} (hq : ∀ il' H' h', Ext0 il H il' H' → WR G il' H' h' → g h' → ∃ xs', SqL G.K H' a xs' ∧ Reps G il' H' ds xs') : WalkD G (Itl G.K a) ds g il H where
  go := fun il' H' h' i e w gh hi => by
    obtain ⟨xs', h1, h2⟩ := hq il' H' h' e w gh
    obtain ⟨v, h3, _⟩ := h2.get (List.getElem?_eq_getElem hi)
    exact ⟨xs', v, h1, h3⟩
  stop := fun il' H' h' e w gh => by
    obtain ⟨xs', h1, h2⟩ := hq il' H' h' e w gh
    exact ⟨xs', h1, by rw [h2.length]; exact Nat.le_refl _⟩
  yld := fun il' H' h' i x H'' e w gh hi y => by
    obtain ⟨xs', h1, h2⟩ := hq il' H' h' e w gh
    obtain ⟨e1, y⟩ := y
    subst e1
    obtain ⟨d, h3, h4⟩ := h2.get2 (y xs' h1)
    exact ⟨.refl, w, d, h3, h4⟩
theorem walk_t {G : Sg} {il : Lay} {H : Hp} {a : Addr} {ds : List D} {g : Hs → Prop} (hq : ∀ il' H' h', Ext0 il H il' H' → WR G il' H' h' → g h' → ∃ xs', SqT G.K H' a xs' ∧ Reps G il' H' ds xs') : WalkD G (Itt G.K a) ds g il H where
  go := fun il' H' h' i e w gh hi => by
    obtain ⟨xs', h1, h2⟩ := hq il' H' h' e w gh
    obtain ⟨v, h3, _⟩ := h2.get (List.getElem?_eq_getElem hi)
    exact ⟨xs', v, h1, h3⟩
  stop := fun il' H' h' e w gh => by
    obtain ⟨xs', h1, h2⟩ := hq il' H' h' e w gh
    exact ⟨xs', h1, by rw [h2.length]; exact Nat.le_refl _⟩
  yld := fun il' H' h' i x H'' e w gh hi y => by
    obtain ⟨xs', h1, h2⟩ := hq il' H' h' e w gh
    obtain ⟨e1, y⟩ := y
    subst e1
    obtain ⟨d, h3, h4⟩ := h2.get2 (y xs' h1)
    exact ⟨.refl, w, d, h3, h4⟩
theorem rngD_len (lo hi : Int) : (rngD lo hi).length = (hi - lo).toNat := by simp [rngD]
theorem rngD_get {lo hi : Int} {i : Nat} (h : i < (hi - lo).toNat) : (rngD lo hi)[i]? = some (.int (lo + i)) := by
  simp [rngD, List.getElem?_map, List.getElem?_range h]
theorem walk_r {G : Sg} {il : Lay} {H : Hp} {lo hi : Int} {g : Hs → Prop} : WalkD G (Itr lo (hi - lo).toNat) (rngD lo hi) g il H where
  go := fun il' H' h' i e w gh hi => by rw [rngD_len] at hi; exact hi
  stop := fun il' H' h' e w gh => by rw [rngD_len]; exact Nat.le_refl _
  yld := fun il' H' h' i x H'' e w gh hi y => by
    obtain ⟨e1, y⟩ := y
    subst e1; subst y
    rw [rngD_len] at hi
    exact ⟨.refl, w, _, rngD_get hi, .int _⟩
section
variable {X : Cx} {G : Sg} {W : WX} {tg it a b : Expr} {va vb : Env1 → Hs → Out D} {pos : Pos}
theorem i_seq (hK : X.K = G.K) (ha : PE X it (tV G W va)) : PI X tg it (tI G W (itOf va)) := by
  refine ⟨fun pins s σ H R I h => ?_⟩
  obtain ⟨il, h, r, w, er, q⟩ := h
  have h' : tV G W va σ H fun x H1 => ∃ a J, x = .ref a ∧ R J H1 ∧ ((J = Itl G.K a ∧ ∃ xs, SqL G.K H1 a xs) ∨ (J = Itt G.K a ∧ ∃ xs, SqT G.K H1 a xs)) := by
    refine ⟨il, h, r, w, er, ?_⟩
    have q' := q
    unfold itOf at q'
    cases o : va r h with
    | stuck => rw [o] at q'; exact q'
    | exc x y => rw [o] at q'; exact q'
    | ok d h1 =>
      rw [o] at q'
      simp only [Out.bind_ok] at q'
      cases e1 : seqOf d h1 with
      | none => rw [e1] at q'; exact q'.elim
      | some ds =>
        rw [e1] at q'
        dsimp only at q'
        intro v il' H' e w' r'
        obtain ⟨a, xs, rfl, hq, nl, rs⟩ := r'.seq w' e1
        cases r' with
        | @tup a' xs' ds' hh nl' rs' =>
          cases e1
          refine ⟨a, _, rfl, q' il' H' (Itt G.K a) e w' (walk_t fun il2 H2 h2 e2 w2 g2 => ?_), .inr ⟨rfl, xs', sqT_of hh⟩⟩
          exact ⟨xs', sqT_of (hh.elim (fun z => .inl ((Rd.ext0 e2 z.1 z.2))) .inr), rs'.ext0 e2⟩
        | @lst a' xs' ds' hh m nl' rs' =>
          cases e1
          refine ⟨a, _, rfl, q' il' H' (Itl G.K a) e w' (walk_l fun il2 H2 h2 e2 w2 g2 => ?_), .inl ⟨rfl, xs', SqL.of hh⟩⟩
          exact ⟨xs', SqL.of (e2.keep _ _ hh m), rs'.ext0 e2⟩
        | @frz a' xs' ds' hh nl' rs' =>
          cases e1
          refine ⟨a, _, rfl, q' il' H' (Itl G.K a) e w' (walk_l fun il2 H2 h2 e2 w2 g2 => ?_), .inl ⟨rfl, xs', sqL_of hh⟩⟩
          exact ⟨xs', sqL_of (hh.elim (fun z => .inl ((Rd.ext0 e2 z.1 z.2))) .inr), rs'.ext0 e2⟩
        | @loc n a' hn =>
          have e1' := e1
          simp only [seqOf] at e1
          split at e1
          · rename_i ds' q2
            cases e1
            obtain ⟨xs2, e3, r3, nl3⟩ := w'.ob n a _ hn q2
            refine ⟨a, _, rfl, q' il' H' (Itl G.K a) e w' (walk_l fun il2 H2 h2 e2 w2 g2 => ?_), .inl ⟨rfl, xs2, SqL.of e3⟩⟩
            have g2 : h2[n]? = h1[n]? := g2
            rw [q2] at g2
            obtain ⟨xs4, e4, r4, _⟩ := w2.ob n a _ (e2.at_ hn) g2
            exact ⟨xs4, SqL.of e4, r4⟩
          · cases e1
        | ins => cases e1
        | _ => cases e1
  refine thn (ha.run pins s σ H _ I h') fun v s1 ⟨x, H1, I1, r1, a, J, ex, q1, c⟩ => ?_
  subst ex
  cases r1
  rcases c with ⟨rfl, xs, hq⟩ | ⟨rfl, xs, hq⟩
  · obtain ⟨its, rv, p, hz⟩ := I1.list (hK ▸ hq)
    refine wpAny_pyIter_list p.isList ?_
    refine ⟨s1.heap.objs.size, [s1.heap.objs.size], _, _, H1, rfl, I1.kept (t' := s1.toks) fun b o e => Heap.get?_push_of_some _ e, turn_list a _, ⟨_, Heap.get?_push_size _ rfl, rfl, rfl⟩, fun b hb => ?_, hK ▸ q1⟩
    have e : b = s1.heap.objs.size := by simpa using hb
    subst e
    exact I1.fpOk (Nat.le_refl _) (I1.hok.fresh (Nat.le_refl _))
  · obtain ⟨its, rv, p, hz⟩ := I1.tuple (hK ▸ hq)
    refine wpAny_pyIter_tuple (show s1.heap.IsTuple a its.toArray from p) ?_
    refine ⟨s1.heap.objs.size, [s1.heap.objs.size], _, _, H1, rfl, I1.kept (t' := s1.toks) fun b o e => Heap.get?_push_of_some _ e, turn_tuple a _, ⟨_, Heap.get?_push_size _ rfl, rfl, rfl⟩, fun b hb => ?_, hK ▸ q1⟩
    have e : b = s1.heap.objs.size := by simpa using hb
    subst e
    exact I1.fpOk (Nat.le_refl _) (I1.hok.fresh (Nat.le_refl _))
theorem i_rng1 {p : Pos} (hg : Gl X "range") (hm : X.mg "range" = none) (hs : isStar a = false) (ha : PE X a (tV G W va)) :
    PI X tg (.Call (.Name "range" p) [a] [] pos) (tI G W fun r h => (va r h).bind fun x h1 => match x with
    | .int j => if -(2 ^ 62) ≤ j ∧ j < 2 ^ 62 then .ok (rngD 0 j, .non) h1 else .stuck
    | _ => .stuck) := by
  refine ⟨fun pins s σ H R I h => (pi_range1 hg hm (pa_cons ha pa_nil (starEach_plain hs)) (starEach_plain hs)).run pins s σ H R I ?_⟩
  obtain ⟨il, h, r, w, er, q⟩ := h
  refine ⟨il, h, r, w, er, ?_⟩
  dsimp only at q
  cases o : va r h with
  | stuck => rw [o] at q; exact q
  | exc x y => rw [o] at q; exact q
  | ok d h1 =>
    rw [o] at q
    simp only [Out.bind_ok] at q
    cases d <;> try exact q.elim
    rename_i j
    dsimp only at q
    intro v il' H' e w' r'
    by_cases c : -(2 ^ 62) ≤ j ∧ j < 2 ^ 62
    · rw [if_pos c] at q
      refine ⟨j, by rw [r'.int_inv], c.1, c.2, ?_⟩
      have z := q il' H' (Itr 0 (j - 0).toNat) e w' walk_r
      rw [Int.sub_zero] at z
      exact z
    · rw [if_neg c] at q; exact q.elim
theorem i_rng2 {p : Pos} (hg : Gl X "range") (hm : X.mg "range" = none) (hs : isStar a = false) (hs2 : isStar b = false) (ha : PE X a (tV G W va)) (hb : PE X b (tV G W vb)) :
    PI X tg (.Call (.Name "range" p) [a, b] [] pos) (tI G W fun r h => (va r h).bind fun x h1 => (vb r h1).bind fun y h2 => match x, y with
    | .int i, .int j => if -(2 ^ 62) ≤ i ∧ i < 2 ^ 62 ∧ -(2 ^ 62) ≤ j ∧ j < 2 ^ 62 then .ok (rngD i j, .non) h2 else .stuck
    | _, _ => .stuck) := by
  refine ⟨fun pins s σ H R I h => (pi_range2 hg hm (pa_cons ha (pa_cons hb pa_nil (starEach_plain hs2)) (starEach_plain hs)) (by rw [starEach_plain hs, starEach_plain hs2]; rfl) (starEach_plain hs2)).run pins s σ H R I ?_⟩
  obtain ⟨il, h, r, w, er, q⟩ := h
  refine ⟨il, h, r, w, er, ?_⟩
  dsimp only at q
  cases o : va r h with
  | stuck => rw [o] at q; exact q
  | exc x y => rw [o] at q; exact q
  | ok d h1 =>
    rw [o] at q
    simp only [Out.bind_ok] at q
    intro v il' H' e w' r'
    refine ⟨il', h1, r, w', er.ext e, ?_⟩
    cases o2 : vb r h1 with
    | stuck => rw [o2] at q; exact q
    | exc x y =>
      rw [o2] at q
      exact fun c a il2 H2 e2 => q c a il2 H2 (e.trans e2)
    | ok d2 h2 =>
      rw [o2] at q
      simp only [Out.bind_ok] at q
      intro v2 il2 H2 e2 w2 r2
      cases d <;> try exact q.elim
      cases d2 <;> try exact q.elim
      rename_i i j
      dsimp only at q
      by_cases c : -(2 ^ 62) ≤ i ∧ i < 2 ^ 62 ∧ -(2 ^ 62) ≤ j ∧ j < 2 ^ 62
      · rw [if_pos c] at q
        refine ⟨i, j, by rw [r'.int_inv, r2.int_inv], c, ?_⟩
        exact q il2 H2 (Itr i (j - i).toNat) (e.trans e2) w2 walk_r
      · rw [if_neg c] at q; exact q.elim
end
end GY

namespace GY
open PySem PySem.Spec PyProof.Rows L2
abbrev W0 : WX := fun _ _ _ _ => False
section
variable {G : Sg} {il il1 : Lay} {H H1 : Hp} {h : Hs}
/-- an object that is held apart is let go -/
theorem WR.letGo (w : WR G il H h) {ex : List Addr} (hx : ∀ a ∈ ex, a ∈ il.ex) : WR G ⟨il.st, ex⟩ H h :=
  ⟨w.len, w.nd, fun n a o h1 h2 => by
    have q := w.ob n a o h1 h2
    have rr : ∀ {ds : List D} {vs : List V}, noLoc ds = true → Reps G il H ds vs → Reps G ⟨il.st, ex⟩ H ds vs := fun nl r => Reps.less (il := il) (il1 := ⟨il.st, ex⟩) (Nat.le_refl _) (List.prefix_refl _) hx nl r
    cases o with
    | lst ds => obtain ⟨xs, e1, r, nl⟩ := q; exact ⟨xs, e1, rr nl r, nl⟩
    | ins c fs => obtain ⟨hk, dx, gs, e1, e2, n1, n2, e3, r⟩ := q; exact ⟨hk, dx, gs, e1, e2, ⟨n1.1, fun z => n1.2 (hx _ z)⟩, n2, e3, rr n2 r⟩, fun a m => w.trk a (hx a m), fun a m => w.dis a (hx a m), w.tab⟩
theorem Ext.letGo (e : Ext il1 H1 il H) {ex : List Addr} (hx : ∀ a ∈ ex, a ∈ il.ex) (hs : ∀ a ∈ il1.ex, a ∈ ex) : Ext il1 H1 ⟨il.st, ex⟩ H :=
  ⟨e.pre, hs, fun a o h n nt => e.keep a o h n nt, fun a m => e.new a fun z => m ⟨z.1, fun y => z.2 (hx a y)⟩, e.kex⟩
theorem Ext.exput (e : Ext il1 H1 il H) {p : Addr} {o : HO} (hp : H1 p = none) : Ext il1 H1 il (upd H p o) :=
  ⟨e.pre, e.sub, fun a u q n nt => by rw [upd_ne (ne_of_none q hp)]; exact e.keep a u q n nt, e.new, fun a m u q => by rw [upd_ne (ne_of_none q hp)]; exact e.kex a m u q⟩
theorem Rep.exput {p : Addr} {o : HO} (hp : p ∈ il.ex) {d : D} {v : V} (r : Rep G il H d v) : Rep G il (upd H p o) d v := by
  have q := Reps.exput (o := o) hp (Reps.cons r .nil)
  cases q with | cons a _ => exact a
end

section
variable {G : Sg} {W : WX} {own : List Nat} {tg : T} {it elt : Den} {cnd : List Den}
/-- a comprehension's reading -/
theorem lc_imp (hsl : ∀ j ∈ slotsT tg, j ∈ own) {σ : L2.St} {H : Hp} {Q : VK} (h : tV G W (lcD own tg it cnd elt) σ H Q) :
    tLc (tI G W it.i) (gD G (slotsT tg) fun d r h => bindT tg d r h) (tB1 G W0 (tss cnd)) (tV G W0 elt.v) own σ H Q := by
  obtain ⟨il, h, r, w, er, q⟩ := h
  refine ⟨il, h, r, w, er, ?_⟩
  unfold lcD at q
  cases o : it.i r h with
  | stuck => rw [o] at q; exact q
  | exc x y => rw [o] at q; exact q
  | ok p h1 =>
    rw [o] at q
    simp only [Out.bind_ok] at q
    obtain ⟨ds, w0⟩ := p
    intro il1 H1 J e1 w1 wd p hp
    dsimp only at q wd
    have er1 := er.ext e1
    have q := after.mono e1 q
    generalize hf : (fun (d : D) (h2 : Hs) => match bindT tg d (wipeE r own) h2 with
        | some r2 => (tss cnd r2 h2).bind fun b h3 => if b = true then (elt.v r2 h3).bind fun y h4 => Out.ok (some y) h4 else Out.ok none h3
        | none => Out.stuck) = f at q
    obtain ⟨wD, eD⟩ := w1.hide (xs := []) hp
    refine ⟨fun i m H2 => m = ds.length - i ∧ i ≤ ds.length ∧ ∃ il2 h2 acc accv, Ext il1 H1 il2 H2 ∧ p ∈ il2.ex ∧ WR G il2 H2 h2 ∧ H2 p = some (.lst accv) ∧ Reps G il2 H2 acc accv ∧ noLoc acc = true ∧ stays w0 h1 h2 ∧
      after G ((compL f (stays w0 h1) (ds.drop i) acc h2).bind fun ys h => .ok (.lst ys) h) il1 H1 Q fun c a H' => W c a σ H',
      ⟨_, rfl, Nat.zero_le _, il1.add p, h1, [], [], eD, List.mem_cons_self .., wD, upd_same, .nil, rfl, ?_, q⟩, ?_⟩
    · cases w0 <;> first | exact rfl | trivial
    · rintro i m H2 ⟨rfl, hi, il2, h2, acc, accv, e2, hx, w2, hD, ra, nl, gs, q2⟩
      by_cases hlt : i < ds.length
      · refine .inr ⟨wd.go il2 H2 h2 i e2.e0 w2 gs hlt, fun H3 => i + 1 ≤ ds.length ∧ ∃ il3 h3 acc accv, Ext il1 H1 il3 H3 ∧ p ∈ il3.ex ∧ WR G il3 H3 h3 ∧ H3 p = some (.lst accv) ∧ Reps G il3 H3 acc accv ∧ noLoc acc = true ∧ stays w0 h1 h3 ∧
          after G ((compL f (stays w0 h1) (ds.drop (i + 1)) acc h3).bind fun ys h => .ok (.lst ys) h) il1 H1 Q fun c a H' => W c a σ H',
          fun H' z => ⟨ds.length - (i + 1), by omega, rfl, z.1, z.2⟩, fun x H3 y => ?_⟩
        obtain ⟨e3, w3, d, hd, rd⟩ := wd.yld il2 H2 h2 i x H3 e2.e0 w2 gs hlt y
        have ed : ds.drop i = d :: ds.drop (i + 1) := by
          rw [List.drop_eq_getElem_cons hlt]
          congr 1
          rw [List.getElem?_eq_getElem hlt] at hd
          exact Option.some.inj hd
        rw [ed] at q2
        unfold compL at q2
        -- the target
        have hfd : f d h2 = match bindT tg d (wipeE r own) h2 with
          | some r2 => (tss cnd r2 h2).bind fun b h3 => if b = true then (elt.v r2 h3).bind fun y h4 => Out.ok (some y) h4 else Out.ok none h3
          | none => Out.stuck := by rw [← hf]
        cases eb : bindT tg d (wipeE r own) h2 with
        | none =>
          rw [eb] at hfd
          rw [hfd] at q2
          exact q2.elim
        | some r2 =>
          rw [eb] at hfd
          dsimp only at hfd
          refine ⟨il2, h2, wipeE r own, d, w3, wipe_er ((er1.ext e2).ext e3) own, rd, r2, eb, fun s2 er2 off => ⟨wipe_off off hsl, ?_⟩⟩
          refine ⟨il2, h2, r2, w3, er2, ?_⟩
          cases ot : tss cnd r2 h2 with
          | stuck => rw [ot] at hfd; simp only [Out.bind_stuck] at hfd; rw [hfd] at q2; exact q2.elim
          | exc a b => rw [ot] at hfd; simp only [Out.bind_exc] at hfd; rw [hfd] at q2; exact q2.elim
          | ok b h3 =>
            rw [ot] at hfd
            simp only [Out.bind_ok] at hfd
            intro il4 H4 e4 w4
            have hD3 : H3 p = some (.lst accv) := e3.kex p hx _ hD
            have hD4 : H4 p = some (.lst accv) := e4.kex p hx _ hD3
            have hx4 : p ∈ il4.ex := e4.sub p hx
            cases b with
            | false =>
              rw [if_neg (by decide)] at hfd
              rw [hfd] at q2
              rw [if_neg (by decide)]
              dsimp only at q2
              split at q2
              · rename_i gs3
                exact ⟨hlt, il4, h3, acc, accv, e2.trans (e3.trans e4), hx4, w4, hD4, (ra.ext e3).ext e4, nl, gs3, q2⟩
              · exact q2.elim
            | true =>
              rw [if_pos rfl] at hfd
              rw [if_pos rfl]
              refine ⟨il4, h3, r2, w4, er2.ext e4, ?_⟩
              cases oe : elt.v r2 h3 with
              | stuck => rw [oe] at hfd; simp only [Out.bind_stuck] at hfd; rw [hfd] at q2; exact q2.elim
              | exc a b => rw [oe] at hfd; simp only [Out.bind_exc] at hfd; rw [hfd] at q2; exact q2.elim
              | ok y h5 =>
                rw [oe] at hfd
                simp only [Out.bind_ok] at hfd
                rw [hfd] at q2
                dsimp only at q2
                intro v il5 H5 e5 w5 ry
                split at q2
                · rename_i gs5
                  split at q2
                  · rename_i c
                    rw [Bool.and_eq_true, decide_eq_true_eq] at c
                    have hx5 : p ∈ il5.ex := e5.sub p hx4
                    have ra5 := ((ra.ext e3).ext e4).ext e5
                    refine ⟨accv, e5.kex p hx4 _ hD4, by rw [← ra.length]; exact c.2, hlt, il5, h5, acc ++ [y], accv ++ [v], (e2.trans (e3.trans (e4.trans e5))).exput hp, hx5, w5.exput hx5, upd_same, (ra5.snoc ry).exput hx5, ?_, gs5, q2⟩
                    exact noLoc_append nl (by unfold noLoc; rw [List.all_cons, List.all_nil, Bool.and_true]; exact c.1)
                  · exact q2.elim
                · exact q2.elim
      · have ei : i = ds.length := by omega
        subst ei
        refine .inl ⟨wd.stop il2 H2 h2 e2.e0 w2 gs, ?_⟩
        rw [List.drop_length] at q2
        unfold compL at q2
        simp only [Out.bind_ok] at q2
        have px : p ∉ il1.ex := (w1.notin hp).2
        have hsub : ∀ a ∈ il2.ex.filter (fun a => decide (a ≠ p)), a ∈ il2.ex := fun a m => (List.mem_filter.mp m).1
        refine q2 (.ref p) ⟨il2.st, il2.ex.filter fun a => decide (a ≠ p)⟩ H2 (e2.letGo hsub fun a m => List.mem_filter.mpr ⟨e2.sub a m, decide_eq_true fun z => px (z ▸ m)⟩) (w2.letGo hsub) (.lst hD ⟨w2.dis p hx, fun z => by simpa using (List.mem_filter.mp z).2⟩ nl (Reps.less (il := il2) (il1 := ⟨il2.st, il2.ex.filter fun a => decide (a ≠ p)⟩) (Nat.le_refl _) (List.prefix_refl _) hsub nl ra))
end
end GY

namespace GY
open PySem PySem.Spec PyProof.Rows L2

/-! ### statements -/
def afterS (G : Sg) (o : Os) (il : Lay) (H : Hp) (De : Ends) (W : WX) : Prop :=
  match o with
  | .ok .nx r' h' => ∀ s' il' H', Ext il H il' H' → WR G il' H' h' → ER G il' H' r' s' → De.nx s' H'
  | .ok .bk r' h' => ∀ s' il' H', Ext il H il' H' → WR G il' H' h' → ER G il' H' r' s' → De.bk s' H'
  | .ok .ct r' h' => ∀ s' il' H', Ext il H il' H' → WR G il' H' h' → ER G il' H' r' s' → De.ct s' H'
  | .ok (.rt d) r' h' => ∀ v il' H', Ext il H il' H' → WR G il' H' h' → Rep G il' H' d v → De.rt v H'
  | .exc e r' h' => ∀ cls a s' il' H', Ext il H il' H' → WR G il' H' h' → ER G il' H' r' s' → RepX G il' H' e cls a → W cls a s' H'
  | .stuck => False
def tS (G : Sg) (W : WX) (f : Env1 → Hs → Os) : TS := fun De s H => ∃ il h r, WR G il H h ∧ ER G il H r s ∧ afterS G (f r h) il H De W
theorem _root_.L2.PS.imp {X : Cx} {e : Stmt} {t t' : TS} (p : PS X e t) (f : ∀ De s H, t' De s H → t De s H) : PS X e t' := ⟨fun pins s σ H Q I h => p.run pins s σ H Q I (f _ _ _ h)⟩
theorem _root_.L2.PSs.imp {X : Cx} {e : List Stmt} {t t' : TS} (p : PSs X e t) (f : ∀ De s H, t' De s H → t De s H) : PSs X e t' := ⟨fun pins s σ H Q I h => p.run pins s σ H Q I (f _ _ _ h)⟩
section
variable {G : Sg} {W : WX} {il il1 : Lay} {H H1 : Hp} {De : Ends}
theorem afterS.mono {o : Os} (e : Ext il H il1 H1) (h : afterS G o il H De W) : afterS G o il1 H1 De W := by
  cases o with
  | ok f r h' => cases f <;> exact fun s il' H' e' => h s il' H' (e.trans e')
  | exc x r h' => exact fun c a s il' H' e' => h c a s il' H' (e.trans e')
  | stuck => exact h
/-- an expression, then the rest -/
theorem afterS.os {α : Type} {o : Out α} {r : Env1} {s : L2.St} {f : α → Hs → Os} (h : afterS G (o.os r f) il H De W) (er : ER G il H r s) :
    (∀ a h', o = .ok a h' → afterS G (f a h') il H De W) ∧ (∀ e h', o = .exc e h' → ∀ cls a il' H', Ext il H il' H' → WR G il' H' h' → RepX G il' H' e cls a → W cls a s H') ∧ o ≠ .stuck := by
  cases o with
  | ok a h' => exact ⟨fun a' h'' e => by cases e; exact h, fun _ _ e => (nomatch e), fun e => (nomatch e)⟩
  | exc x h' => exact ⟨fun _ _ e => (nomatch e), fun e h'' z => by cases z; exact fun cls a il' H' e' w' rx => h cls a s il' H' e' w' (er.ext e') rx, fun e => (nomatch e)⟩
  | stuck => exact h.elim
theorem afterS.osD {o : Out D} {r : Env1} {s : L2.St} {f : D → Hs → Os} (h : afterS G (o.os r f) il H De W) (er : ER G il H r s) :
    after G o il H (fun v H1 => ∃ il1 h1 d, Ext il H il1 H1 ∧ WR G il1 H1 h1 ∧ Rep G il1 H1 d v ∧ ER G il1 H1 r s ∧ afterS G (f d h1) il1 H1 De W) (fun c a H' => W c a s H') := by
  obtain ⟨h1, h2, h3⟩ := h.os er
  cases o with
  | ok a h' => exact fun v il' H' e w rv => ⟨il', h', a, e, w, rv, er.ext e, (h1 a h' rfl).mono e⟩
  | exc x h' => exact fun c a il' H' e w rx => h2 x h' rfl c a il' H' e w rx
  | stuck => exact absurd rfl h3
theorem afterS.osL {o : Out (List D)} {r : Env1} {s : L2.St} {f : List D → Hs → Os} (h : afterS G (o.os r f) il H De W) (er : ER G il H r s) :
    afterL G o il H (fun v H1 => ∃ il1 h1 d, Ext il H il1 H1 ∧ WR G il1 H1 h1 ∧ Reps G il1 H1 d v ∧ ER G il1 H1 r s ∧ afterS G (f d h1) il1 H1 De W) (fun c a H' => W c a s H') := by
  obtain ⟨h1, h2, h3⟩ := h.os er
  cases o with
  | ok a h' => exact fun v il' H' e w rv => ⟨il', h', a, e, w, rv, er.ext e, (h1 a h' rfl).mono e⟩
  | exc x h' => exact fun c a il' H' e w rx => h2 x h' rfl c a il' H' e w rx
  | stuck => exact absurd rfl h3
theorem afterS.osB {o : Out Bool} {r : Env1} {s : L2.St} {f : Bool → Hs → Os} (h : afterS G (o.os r f) il H De W) (er : ER G il H r s) :
    afterB G o il H (fun b H1 => ∃ il1 h1, Ext il H il1 H1 ∧ WR G il1 H1 h1 ∧ ER G il1 H1 r s ∧ afterS G (f b h1) il1 H1 De W) (fun c a H' => W c a s H') := by
  obtain ⟨h1, h2, h3⟩ := h.os er
  cases o with
  | ok a h' => exact fun il' H' e w => ⟨il', h', e, w, er.ext e, (h1 a h' rfl).mono e⟩
  | exc x h' => exact fun c a il' H' e w rx => h2 x h' rfl c a il' H' e w rx
  | stuck => exact absurd rfl h3
theorem afterS.seq {o : Os} {f : Env1 → Hs → Os} (h : afterS G (o.seq f) il H De W) :
    afterS G o il H { De with nx := fun s' H' => ∃ il1 h1 r1, Ext il H il1 H' ∧ WR G il1 H' h1 ∧ ER G il1 H' r1 s' ∧ afterS G (f r1 h1) il1 H' De W } W := by
  cases o with
  | ok fl r h' => cases fl with
    | nx => exact fun s' il' H' e w er => ⟨il', h', r, e, w, er, afterS.mono e h⟩
    | bk => exact h
    | ct => exact h
    | rt d => exact h
  | exc x r h' => exact h
  | stuck => exact h
end

section
variable {X : Cx} {G : Sg} {W : WX} {e tg : Expr} {v : Env1 → Hs → Out D} {st : Stmt} {sts : List Stmt} {f g : Env1 → Hs → Os} {pos : Pos}
theorem x_nil : PSs X [] (tS G W fun r h => .ok .nx r h) := pss_nil.imp fun De s H ⟨il, h, r, w, er, q⟩ => q s il H .refl w er
theorem x_cons (a : PS X st (tS G W f)) (b : PSs X sts (tS G W g)) : PSs X (st :: sts) (tS G W fun r h => (f r h).seq g) := by
  refine (pss_cons a b).imp fun De s H ⟨il, h, r, w, er, q⟩ => ⟨il, h, r, w, er, ?_⟩
  have z := afterS.seq q
  cases o : f r h with
  | ok fl r' h' =>
    rw [o] at z
    cases fl with
    | nx => exact fun s' il' H' e' w' er' => let ⟨il1, h1, r1, _, w1, er1, q1⟩ := z s' il' H' e' w' er'; ⟨il1, h1, r1, w1, er1, q1⟩
    | bk => exact z
    | ct => exact z
    | rt d => exact z
  | exc x r' h' => rw [o] at z; exact z
  | stuck => rw [o] at z; exact z
theorem x_pass : PS X (.Pass pos) (tS G W fun r h => .ok .nx r h) := ps_pass.imp fun De s H ⟨il, h, r, w, er, q⟩ => q s il H .refl w er
theorem x_break : PS X (.Break pos) (tS G W fun r h => .ok .bk r h) := ps_break.imp fun De s H ⟨il, h, r, w, er, q⟩ => q s il H .refl w er
theorem x_continue : PS X (.Continue pos) (tS G W fun r h => .ok .ct r h) := ps_continue.imp fun De s H ⟨il, h, r, w, er, q⟩ => q s il H .refl w er
/-- no comprehension -/
def isComp : Expr → Bool
  | .ListComp .. => true
  | .SetComp .. => true
  | .DictComp .. => true
  | _ => false
theorem swaps_plain {t : Option Expr} {l : Nat} {env : Env} (h : isComp e = false) : swapsWith e t l env = pure false := by
  cases e <;> first | rfl | cases h
theorem x_expr (hc : isComp e = false) (a : PE X e (tV G W v)) : PS X (.Expr e pos) (tS G W fun r h => (v r h).os r fun _ h1 => .ok .nx r h1) := by
  refine (ps_expr a (swaps_plain hc)).imp fun De s H ⟨il, h, r, w, er, q⟩ => ⟨il, h, r, w, er, after_imp (afterS.osD q er) fun x H1 ⟨il1, h1, d, e1, w1, r1, er1, q1⟩ => ?_⟩
  exact q1 s il1 H1 .refl w1 er1
theorem x_ret (a : PE X e (tV G W v)) : PS X (.Return (some e) pos) (tS G W fun r h => (v r h).os r fun d h1 => .ok (.rt d) r h1) := by
  refine (ps_ret a).imp fun De s H ⟨il, h, r, w, er, q⟩ => ⟨il, h, r, w, er, after_imp (afterS.osD q er) fun x H1 ⟨il1, h1, d, e1, w1, r1, er1, q1⟩ => ?_⟩
  exact q1 x il1 H1 .refl w1 r1
theorem x_retN : PS X (.Return none pos) (tS G W fun r h => .ok (.rt .non) r h) := ps_retN.imp fun De s H ⟨il, h, r, w, er, q⟩ => q .non il H .refl w .non
theorem x_if {c : Expr} {t : Env1 → Hs → Out Bool} {a b : List Stmt} (hc : PT X c (tB1 G W t)) (ha : PSs X a (tS G W f)) (hb : PSs X b (tS G W g)) : PS X (.If c a b pos) (tS G W fun r h => (t r h).os r fun k h1 => if k = true then f r h1 else g r h1) := by
  refine (ps_if hc ha hb).imp fun De s H ⟨il, h, r, w, er, q⟩ => ⟨il, h, r, w, er, after_impB (afterS.osB q er) fun k H1 ⟨il1, h1, e1, w1, er1, q1⟩ => ?_⟩
  cases k with
  | true => exact ⟨il1, h1, r, w1, er1, q1⟩
  | false => exact ⟨il1, h1, r, w1, er1, q1⟩
/-- target = value -/
theorem asg_imp {t : T} {De : Ends} {s : L2.St} {H : Hp} (h : tS G W (fun r h => (v r h).os r fun d h1 => match bindT t d r h1 with | some r1 => .ok .nx r1 h1 | none => .stuck) De s H) :
    tAsg (tV G W v) (gD G (slotsT t) fun d r h => bindT t d r h) De s H := by
  obtain ⟨il, h, r, w, er, q⟩ := h
  refine ⟨il, h, r, w, er, after_imp (afterS.osD q er) fun x H1 ⟨il1, h1, d, e1, w1, r1, er1, q1⟩ => ?_⟩
  split at q1
  · rename_i r' e
    exact ⟨il1, h1, r, d, w1, er1, r1, r', e, fun s' er' _ => q1 s' il1 H1 .refl w1 er'⟩
  · exact q1.elim
theorem x_asgN {i : Nat} {x : Str} {px : Pos} (hN : X.N.Nodup) (hi : X.N[i]? = some x) (hx : Loc X.env.scope x) (hf : X.fn x = true ∨ X.env.scope.names.lookup x = some .local) (hs : swapsWith e (some (.Name x px)) pos.line X.env = pure false) (a : PE X e (tV G W v)) :
    PS X (.Assign [.Name x px] e pos) (tS G W fun r h => (v r h).os r fun d h1 => match bindT (.nm i) d r h1 with | some r1 => .ok .nx r1 h1 | none => .stuck) := by
  refine (ps_set hN hi hx a hs hf).imp fun De s H ⟨il, h, r, w, er, q⟩ => ⟨il, h, r, w, er, after_imp (afterS.osD q er) fun x H1 ⟨il1, h1, d, e1, w1, r1, er1, q1⟩ => ?_⟩
  exact q1 _ il1 H1 .refl w1 (er1.set i r1)
theorem swaps_tup {es : List Expr} {kt : Nat} {pt : Pos} {l : Nat} {env : Env} : swapsWith e (some (.Tuple es kt pt)) l env = pure false := by
  cases e <;> rfl
theorem x_asgT {es : List Expr} {kt : Nat} {pt : Pos} {ts : List T} (hw : swappedStores [.Tuple es kt pt] e X.env = pure none) (a : PE X e (tV G W v)) (g1 : PG X (.Tuple es kt pt) (gD G (slotsT (.tp ts)) fun d r h => bindT (.tp ts) d r h)) :
    PS X (.Assign [.Tuple es kt pt] e pos) (tS G W fun r h => (v r h).os r fun d h1 => match bindT (.tp ts) d r h1 with | some r1 => .ok .nx r1 h1 | none => .stuck) :=
  (ps_asg a g1 (by unfold swapsWithSole; exact swaps_tup) hw rfl).imp fun De s H h => asg_imp h
/-- a, b = x, y and three of them -/
theorem x_par {i j : Nat} {x y : Str} {a b : Expr} {px py pt pt2 : Pos} {kt k2} {vs : Env1 → Hs → Out (List D)} (hc : X.calm = true) (hN : X.N.Nodup) (hi : X.N[i]? = some x) (hj : X.N[j]? = some y) (hij : i ≠ j)
    (hx : X.env.scope.names.lookup x = some .local) (hy : X.env.scope.names.lookup y = some .local) (ha : PA X [a, b] (tL G W vs)) (hw : swappedStores [.Tuple [.Name x px, .Name y py] kt pt] (.Tuple [a, b] k2 pt2) X.env = pure (some [x, y])) :
    PS X (.Assign [.Tuple [.Name x px, .Name y py] kt pt] (.Tuple [a, b] k2 pt2) pos) (tS G W fun r h => (vs r h).os r fun ds h1 => match setAll [i, j] ds r with | some r1 => .ok .nx r1 h1 | none => .stuck) := by
  refine (ps_par hc hN hi hj hij hx hy ha hw (by rfl)).imp fun De s H ⟨il, h, r, w, er, q⟩ => ⟨il, h, r, w, er, after_impL (afterS.osL q er) fun xs H1 ⟨il1, h1, ds, e1, w1, r1, er1, q1⟩ => ?_⟩
  cases r1 with
  | nil => exact q1.elim
  | cons a1 r1 =>
    cases r1 with
    | nil => exact q1.elim
    | cons a2 r1 =>
      cases r1 with
      | cons _ _ => exact q1.elim
      | nil => exact ⟨_, _, rfl, q1 _ il1 H1 .refl w1 ((er1.set i a1).set j a2)⟩
theorem x_par3 {i j k : Nat} {x y z : Str} {a b c : Expr} {px py pz pt pt2 : Pos} {kt k2} {vs : Env1 → Hs → Out (List D)} (hc : X.calm = true) (hN : X.N.Nodup) (hi : X.N[i]? = some x) (hj : X.N[j]? = some y) (hk : X.N[k]? = some z) (hij : i ≠ j) (hik : i ≠ k) (hjk : j ≠ k)
    (hx : X.env.scope.names.lookup x = some .local) (hy : X.env.scope.names.lookup y = some .local) (hz : X.env.scope.names.lookup z = some .local) (ha : PA X [a, b, c] (tL G W vs))
    (hw : swappedStores [.Tuple [.Name x px, .Name y py, .Name z pz] kt pt] (.Tuple [a, b, c] k2 pt2) X.env = pure (some [x, y, z])) :
    PS X (.Assign [.Tuple [.Name x px, .Name y py, .Name z pz] kt pt] (.Tuple [a, b, c] k2 pt2) pos) (tS G W fun r h => (vs r h).os r fun ds h1 => match setAll [i, j, k] ds r with | some r1 => .ok .nx r1 h1 | none => .stuck) := by
  refine (ps_par3 hc hN hi hj hk hij hik hjk hx hy hz ha hw (by rfl)).imp fun De s H ⟨il, h, r, w, er, q⟩ => ⟨il, h, r, w, er, after_impL (afterS.osL q er) fun xs H1 ⟨il1, h1, ds, e1, w1, r1, er1, q1⟩ => ?_⟩
  cases r1 with
  | nil => exact q1.elim
  | cons a1 r1 =>
    cases r1 with
    | nil => exact q1.elim
    | cons a2 r1 =>
      cases r1 with
      | nil => exact q1.elim
      | cons a3 r1 =>
        cases r1 with
        | cons _ _ => exact q1.elim
        | nil => exact ⟨_, _, _, rfl, q1 _ il1 H1 .refl w1 (((er1.set i a1).set j a2).set k a3)⟩
/-- o[i] = e -/
theorem x_put {o i : Expr} {po : Pos} {vo vi : Env1 → Hs → Out D} (hc : isComp e = false) (hsl : isSlice i = false) (ha : PE X e (tV G W v)) (ho : PE X o (tV G W vo)) (hi : PE X i (tV G W vi)) :
    PS X (.Assign [.Subscript o i po] e pos) (tS G W fun r h => (v r h).os r fun d h1 => (vo r h1).os r fun x h2 => (vi r h2).os r fun y h3 => (putD x y d h3).os r fun _ h4 => .ok .nx r h4) := by
  have hg : ∀ vv, assign (.Subscript o i po) X.env vv = (do
      let ov ← holding [vv] (eval o X.env)
      let iv ← holding [vv, ov] (eval i X.env)
      standAt po
      holding [vv, ov, iv] (setItem ov iv vv)
      release [vv, ov, iv] []) := fun vv => by cases i <;> first | rfl | cases hsl
  refine (ps_asg ha (pg_sub ho hi set_list hg) (by unfold swapsWithSole; exact swaps_plain hc) rfl rfl).imp fun De s H ⟨il, h, r, w, er, q⟩ => ⟨il, h, r, w, er, after_imp (afterS.osD q er) fun x1 H1 ⟨il1, h1, d, e1, w1, r1, er1, q1⟩ => ?_⟩
  refine ⟨il1, h1, r, w1, er1, after_imp (afterS.osD q1 er1) fun x2 H2 ⟨il2, h2, x, e2, w2, r2, er2, q2⟩ => ?_⟩
  refine ⟨il2, h2, r, w2, er2, after_imp (afterS.osD q2 er2) fun x3 H3 ⟨il3, h3, y, e3, w3, r3, er3, q3⟩ => ?_⟩
  have rx := r2.ext e3
  have rd := (r1.ext e2).ext e3
  obtain ⟨n, rfl⟩ : ∃ n, x = .loc n := by cases x <;> first | exact ⟨_, rfl⟩ | exact q3.elim
  obtain ⟨k, rfl⟩ : ∃ k, y = .int k := by cases y <;> first | exact ⟨_, rfl⟩ | exact q3.elim
  simp only [putD] at q3
  cases rx with
  | @loc _ a hn =>
    cases r3.int_inv
    cases eo : h3[n]? with
    | none => rw [eo] at q3; exact q3.elim
    | some ob =>
      rw [eo] at q3
      cases ob with
      | ins _ _ => exact q3.elim
      | lst ds =>
        dsimp only at q3
        split at q3
        · rename_i nl
          split at q3
          · rename_i j ej
            obtain ⟨xs, ea, ra, nla⟩ := w3.ob n a _ hn eo
            refine ⟨a, xs, k, j, rfl, rfl, ea, by rw [← ra.length]; exact ej, ?_⟩
            have nl2 : noLoc (ds.set j d) = true := by
              unfold noLoc at *
              rw [List.all_eq_true] at *
              intro z hz
              rcases List.mem_or_eq_of_mem_set hz with hz | hz
              · exact nla z hz
              · subst hz; exact nl
            obtain ⟨w4, e4⟩ := w3.put hn (Reps.set rd j ra) nl2
            exact q3 s il3 _ e4 w4 (er3.ext e4)
          · exact q3.elim
        · exact q3.elim
/-! ### loops -/
theorem x_for {t : T} {it : Expr} {vi : Env1 → Hs → Out (List D × D)} {body : List Stmt} (hp : PassesOwn (model X.prog X.w) X.A X.env X.xe) (hc : X.calm = true) (hs : ∀ x, foldedSetIterable it X.env x = pure x)
    (hi : PI X tg it (tI G W vi)) (hg : PG X tg (gD G (slotsT t) fun d r h => bindT t d r h)) (hb : PSs X body (tS G W f)) :
    PS X (.For tg it body [] pos) (tS G W fun r h => (vi r h).os r fun p h1 => forL (fun d r1 h2 => match bindT t d r1 h2 with | some r2 => f r2 h2 | none => .stuck) (stays p.2 h1) p.1 r h1) := by
  refine (ps_for hp hc hi hg hb hs).imp fun De s H ⟨il, h, r, w, er, q⟩ => ⟨il, h, r, w, er, ?_⟩
  obtain ⟨q1, q2, q3⟩ := afterS.os q er
  cases o : vi r h with
  | stuck => exact absurd o q3
  | exc x y => exact fun c a il' H' e w rx => q2 x y o c a il' H' e w rx
  | ok p h1 =>
    intro il1 H1 J e1 w1 wd
    have q := (q1 p h1 o).mono e1
    have er1 := er.ext e1
    obtain ⟨ds, w0⟩ := p
    dsimp only at q wd
    generalize hf : (fun (d : D) (r1 : Env1) (h2 : Hs) => match bindT t d r1 h2 with | some r2 => f r2 h2 | none => Os.stuck) = ff at q
    refine ⟨fun i m s2 H2 => m = ds.length - i ∧ i ≤ ds.length ∧ ∃ il2 h2 r2, Ext il1 H1 il2 H2 ∧ WR G il2 H2 h2 ∧ ER G il2 H2 r2 s2 ∧ stays w0 h1 h2 ∧ afterS G (forL ff (stays w0 h1) (ds.drop i) r2 h2) il2 H2 De W,
      ⟨_, rfl, Nat.zero_le _, il1, h1, r, .refl, w1, er1, by cases w0 <;> first | exact rfl | trivial, q⟩, ?_⟩
    rintro i m s2 H2 ⟨rfl, hi, il2, h2, r2, e2, w2, er2, gs, q2⟩
    by_cases hlt : i < ds.length
    · refine .inr ⟨wd.go il2 H2 h2 i e2.e0 w2 gs hlt, fun s3 H3 => i + 1 ≤ ds.length ∧ ∃ il3 h3 r3, Ext il1 H1 il3 H3 ∧ WR G il3 H3 h3 ∧ ER G il3 H3 r3 s3 ∧ stays w0 h1 h3 ∧ afterS G (forL ff (stays w0 h1) (ds.drop (i + 1)) r3 h3) il3 H3 De W,
        fun s' H' z => ⟨ds.length - (i + 1), by omega, rfl, z.1, z.2⟩, fun x H3 y => ?_⟩
      obtain ⟨e3, w3, d, hd, rd⟩ := wd.yld il2 H2 h2 i x H3 e2.e0 w2 gs hlt y
      have ed : ds.drop i = d :: ds.drop (i + 1) := by
        rw [List.drop_eq_getElem_cons hlt]
        congr 1
        rw [List.getElem?_eq_getElem hlt] at hd
        exact Option.some.inj hd
      rw [ed] at q2
      unfold forL at q2
      have hfd : ff d r2 h2 = match bindT t d r2 h2 with | some r3 => f r3 h2 | none => Os.stuck := by rw [← hf]
      cases eb : bindT t d r2 h2 with
      | none => rw [eb] at hfd; rw [hfd] at q2; exact q2.elim
      | some r3 =>
        rw [eb] at hfd
        dsimp only at hfd
        refine ⟨il2, h2, r2, d, w3, er2.ext e3, rd, r3, eb, fun s3 er3 _ => ⟨il2, h2, r3, w3, er3, ?_⟩⟩
        rw [hfd] at q2
        cases of : f r3 h2 with
        | stuck => rw [of] at q2; exact q2.elim
        | exc x r4 h4 =>
          rw [of] at q2
          exact fun c a s4 il4 H4 e4 => q2 c a s4 il4 H4 (e3.trans e4)
        | ok fl r4 h4 =>
          rw [of] at q2
          cases fl with
          | nx =>
            dsimp only at q2
            intro s4 il4 H4 e4 w4 er4
            split at q2
            · rename_i gs4
              exact ⟨hlt, il4, h4, r4, e2.trans (e3.trans e4), w4, er4, gs4, q2.mono (e3.trans e4)⟩
            · exact q2.elim
          | ct =>
            dsimp only at q2
            intro s4 il4 H4 e4 w4 er4
            split at q2
            · rename_i gs4
              exact ⟨hlt, il4, h4, r4, e2.trans (e3.trans e4), w4, er4, gs4, q2.mono (e3.trans e4)⟩
            · exact q2.elim
          | bk => exact fun s4 il4 H4 e4 => q2 s4 il4 H4 (e3.trans e4)
          | rt dv => exact fun v4 il4 H4 e4 => q2 v4 il4 H4 (e3.trans e4)
    · have ei : i = ds.length := by omega
      subst ei
      refine .inl ⟨wd.stop il2 H2 h2 e2.e0 w2 gs, ?_⟩
      rw [List.drop_length] at q2
      unfold forL at q2
      exact q2 s2 il2 H2 .refl w2 er2
theorem x_while {c : Expr} {t : Env1 → Hs → Out Bool} {body : List Stmt} (n : Nat) (hp : PassesOwn (model X.prog X.w) X.A X.env X.xe) (hc : PT X c (tB1 G W t)) (hb : PSs X body (tS G W f)) :
    PS X (.While c body [] pos) (tS G W fun r h => whlN t f n r h) := by
  refine (ps_while hp hc hb).imp fun De s H ⟨il, h, r, w, er, q⟩ => ?_
  refine ⟨fun m s2 H2 => ∃ il2 h2 r2, WR G il2 H2 h2 ∧ ER G il2 H2 r2 s2 ∧ afterS G (whlN t f m r2 h2) il2 H2 De W, ⟨n, il, h, r, w, er, q⟩, ?_⟩
  rintro m s2 H2 ⟨il2, h2, r2, w2, er2, q2⟩
  cases m with
  | zero => exact q2.elim
  | succ m =>
    unfold whlN at q2
    refine ⟨il2, h2, r2, w2, er2, after_impB (afterS.osB q2 er2) fun k H3 ⟨il3, h3, e3, w3, er3, q3⟩ => ?_⟩
    cases k with
    | false => exact q3 s2 il3 H3 .refl w3 er3
    | true =>
      rw [if_pos rfl] at q3 ⊢
      refine ⟨fun s4 H4 => ∃ il4 h4 r4, WR G il4 H4 h4 ∧ ER G il4 H4 r4 s4 ∧ afterS G (whlN t f m r4 h4) il4 H4 De W, fun s' H' z => ⟨m, Nat.lt_succ_self m, z⟩, il3, h3, r2, w3, er3, ?_⟩
      cases of : f r2 h3 with
      | stuck => rw [of] at q3; exact q3.elim
      | exc x r4 h4 => rw [of] at q3; exact q3
      | ok fl r4 h4 =>
        rw [of] at q3
        cases fl with
        | nx => exact fun s4 il4 H4 e4 w4 er4 => ⟨il4, h4, r4, w4, er4, q3.mono e4⟩
        | ct => exact fun s4 il4 H4 e4 w4 er4 => ⟨il4, h4, r4, w4, er4, q3.mono e4⟩
        | bk => exact q3
        | rt dv => exact q3
end
end GY

namespace GY
open PySem PySem.Spec PyProof.Rows L2
section
variable {G : Sg} {W : WX} {own vs1 : List Nat} {tg tg1 : T} {it it1 elt : Den} {cnd cnd1 : List Den}
/-- the inner turns of a comprehension of two clauses -/
theorem compW {R : Out (List D) → Prop} (hR : ¬ R .stuck) (hsl : ∀ j ∈ slotsT tg, j ∈ own) {il1 il4 : Lay} {H1 H4 : Hp} {J : It} {ds : List D} {gs : Hs → Prop} (wd : WalkD G J ds gs il4 H4) (e14 : Ext il1 H1 il4 H4) {p : Addr} (hp : H1 p = none) (hx4 : p ∈ il4.ex)
    {σ2 : L2.St} {r2 : Env1} (er2 : ER G il4 H4 r2 σ2) {acc : List D} {accv : List V} {h4 : Hs} (w4 : WR G il4 H4 h4) (hD4 : H4 p = some (.lst accv)) (ra4 : Reps G il4 H4 acc accv) (nl4 : noLoc acc = true) (g4 : gs h4) (q : R (compL (turn1 own tg cnd elt r2) gs ds acc h4))
    {Nx : Hp → Prop} (hN : ∀ il2 H2 h2 acc accv, Ext il1 H1 il2 H2 → p ∈ il2.ex → WR G il2 H2 h2 → H2 p = some (.lst accv) → Reps G il2 H2 acc accv → noLoc acc = true → R (.ok acc h2) → Nx H2) :
    ∃ W1 : Nat → Nat → Hp → Prop, (∃ m, W1 0 m H4) ∧ ∀ j k H, W1 j k H → (J.stop j H ∧ Nx H) ∨ (J.go j H ∧ ∃ Nx1 : Hp → Prop, (∀ H', Nx1 H' → ∃ k', k' < k ∧ W1 (j + 1) k' H') ∧ ∀ x H', J.yld j H x H' → gD G (slotsT tg) (fun d r h => bindT tg d r h) x (wipe σ2 own) H' fun σ3 H5 => wipe σ3 own = wipe σ2 own ∧ tB1 G W0 (tss cnd) σ3 H5 fun b H6 =>
        if b = true then tV G W0 elt.v σ3 H6 fun y H7 => ∃ acc, H7 p = some (.lst acc) ∧ acc.length < sizeLine ∧ Nx1 (upd H7 p (.lst (acc ++ [y]))) else Nx1 H6) := by
  refine ⟨fun i m H2 => m = ds.length - i ∧ i ≤ ds.length ∧ ∃ il2 h2 acc accv, Ext il1 H1 il2 H2 ∧ Ext0 il4 H4 il2 H2 ∧ p ∈ il2.ex ∧ WR G il2 H2 h2 ∧ H2 p = some (.lst accv) ∧ Reps G il2 H2 acc accv ∧ noLoc acc = true ∧ gs h2 ∧ R (compL (turn1 own tg cnd elt r2) gs (ds.drop i) acc h2),
    ⟨_, rfl, Nat.zero_le _, il4, h4, acc, accv, e14, Ext.refl.e0, hx4, w4, hD4, ra4, nl4, g4, q⟩, ?_⟩
  rintro i m H2 ⟨rfl, hi, il2, h2, acc, accv, e2, e02, hx, w2, hD, ra, nl, g2, q2⟩
  by_cases hlt : i < ds.length
  · refine .inr ⟨wd.go il2 H2 h2 i e02 w2 g2 hlt, fun H3 => i + 1 ≤ ds.length ∧ ∃ il3 h3 acc accv, Ext il1 H1 il3 H3 ∧ Ext0 il4 H4 il3 H3 ∧ p ∈ il3.ex ∧ WR G il3 H3 h3 ∧ H3 p = some (.lst accv) ∧ Reps G il3 H3 acc accv ∧ noLoc acc = true ∧ gs h3 ∧ R (compL (turn1 own tg cnd elt r2) gs (ds.drop (i + 1)) acc h3),
      fun H' z => ⟨ds.length - (i + 1), by omega, rfl, z.1, z.2⟩, fun x H3 y => ?_⟩
    obtain ⟨e3, w3, d, hd, rd⟩ := wd.yld il2 H2 h2 i x H3 e02 w2 g2 hlt y
    have ed : ds.drop i = d :: ds.drop (i + 1) := by
      rw [List.drop_eq_getElem_cons hlt]
      congr 1
      rw [List.getElem?_eq_getElem hlt] at hd
      exact Option.some.inj hd
    rw [ed] at q2
    unfold compL at q2
    have hfd : turn1 own tg cnd elt r2 d h2 = match bindT tg d (wipeE r2 own) h2 with
      | some r2 => (tss cnd r2 h2).bind fun b h3 => if b = true then (elt.v r2 h3).bind fun y h4 => Out.ok (some y) h4 else Out.ok none h3
      | none => Out.stuck := rfl
    cases eb : bindT tg d (wipeE r2 own) h2 with
    | none =>
      rw [eb] at hfd
      rw [hfd] at q2
      exact (hR q2).elim
    | some r3 =>
      rw [eb] at hfd
      dsimp only at hfd
      have er3 := er2.ext0 (e02.trans e3.e0)
      refine ⟨il2, h2, wipeE r2 own, d, w3, wipe_er er3 own, rd, r3, eb, fun s2 er5 off => ⟨wipe_off off hsl, ?_⟩⟩
      refine ⟨il2, h2, r3, w3, er5, ?_⟩
      cases ot : tss cnd r3 h2 with
      | stuck => rw [ot] at hfd; simp only [Out.bind_stuck] at hfd; rw [hfd] at q2; exact (hR q2).elim
      | exc a b => rw [ot] at hfd; simp only [Out.bind_exc] at hfd; rw [hfd] at q2; exact (hR q2).elim
      | ok b h3 =>
        rw [ot] at hfd
        simp only [Out.bind_ok] at hfd
        intro il5 H5 e5 w5
        have hD3 : H3 p = some (.lst accv) := e3.kex p hx _ hD
        have hD5 : H5 p = some (.lst accv) := e5.kex p hx _ hD3
        have hx5 : p ∈ il5.ex := e5.sub p hx
        cases b with
        | false =>
          rw [if_neg (by decide)] at hfd
          rw [hfd] at q2
          rw [if_neg (by decide)]
          dsimp only at q2
          split at q2
          · rename_i gs3
            exact ⟨hlt, il5, h3, acc, accv, e2.trans (e3.trans e5), e02.trans (e3.trans e5).e0, hx5, w5, hD5, (ra.ext e3).ext e5, nl, gs3, q2⟩
          · exact (hR q2).elim
        | true =>
          rw [if_pos rfl] at hfd
          rw [if_pos rfl]
          refine ⟨il5, h3, r3, w5, er5.ext e5, ?_⟩
          cases oe : elt.v r3 h3 with
          | stuck => rw [oe] at hfd; simp only [Out.bind_stuck] at hfd; rw [hfd] at q2; exact (hR q2).elim
          | exc a b => rw [oe] at hfd; simp only [Out.bind_exc] at hfd; rw [hfd] at q2; exact (hR q2).elim
          | ok y h6 =>
            rw [oe] at hfd
            simp only [Out.bind_ok] at hfd
            rw [hfd] at q2
            dsimp only at q2
            intro v il6 H6 e6 w6 ry
            split at q2
            · rename_i gs5
              split at q2
              · rename_i c
                rw [Bool.and_eq_true, decide_eq_true_eq] at c
                have hx6 : p ∈ il6.ex := e6.sub p hx5
                have ra6 := ((ra.ext e3).ext e5).ext e6
                refine ⟨accv, e6.kex p hx5 _ hD5, by rw [← ra.length]; exact c.2, hlt, il6, h6, acc ++ [y], accv ++ [v], (e2.trans (e3.trans (e5.trans e6))).exput hp, (e02.trans (e3.trans (e5.trans e6)).e0).exput hx4, hx6, w6.exput hx6, upd_same, (ra6.snoc ry).exput hx6, ?_, gs5, q2⟩
                exact noLoc_append nl (by unfold noLoc; rw [List.all_cons, List.all_nil, Bool.and_true]; exact c.1)
              · exact (hR q2).elim
            · exact (hR q2).elim
  · have ei : i = ds.length := by omega
    subst ei
    rw [List.drop_length] at q2
    unfold compL at q2
    exact .inl ⟨wd.stop il2 H2 h2 e02 w2 g2, hN il2 H2 h2 acc accv e2 hx w2 hD ra nl q2⟩
open Classical in
/-- a comprehension of two clauses, its reading -/
theorem lc2_imp (hsl : ∀ j ∈ slotsT tg, j ∈ own) (hsl1 : ∀ j ∈ slotsT tg1, j ∈ vs1) {σ : L2.St} {H : Hp} {Q : VK} (h : tV G W (lc2D own tg it cnd vs1 tg1 it1 cnd1 elt) σ H Q) :
    tLc2 (tI G W it.i) (gD G (slotsT tg) fun d r h => bindT tg d r h) (tB1 G W0 (tss cnd)) (tI G W0 it1.i) (gD G (slotsT tg1) fun d r h => bindT tg1 d r h) (tB1 G W0 (tss cnd1)) (tV G W0 elt.v) own vs1 σ H Q := by
  obtain ⟨il, h, r, w, er, q⟩ := h
  refine ⟨il, h, r, w, er, ?_⟩
  unfold lc2D at q
  cases o : it.i r h with
  | stuck => rw [o] at q; exact q
  | exc x y => rw [o] at q; exact q
  | ok p h1 =>
    rw [o] at q
    simp only [Out.bind_ok] at q
    obtain ⟨ds, w0⟩ := p
    intro il1 H1 J e1 w1 wd p hp
    dsimp only at q wd
    have er1 := er.ext e1
    have q := after.mono e1 q
    generalize hf : (fun (d : D) (acc : List D) (h2 : Hs) => match bindT tg d (wipeE r own) h2 with
        | some r2 => (tss cnd r2 h2).bind fun b h3 => if b = true then (it1.i r2 h3).bind fun p1 h4 => compL (turn1 vs1 tg1 cnd1 elt r2) (stays p1.2 h4) p1.1 acc h4 else Out.ok acc h3
        | none => Out.stuck) = f at q
    obtain ⟨wD, eD⟩ := w1.hide (xs := []) hp
    refine ⟨fun i m H2 => m = ds.length - i ∧ i ≤ ds.length ∧ ∃ il2 h2 acc accv, Ext il1 H1 il2 H2 ∧ p ∈ il2.ex ∧ WR G il2 H2 h2 ∧ H2 p = some (.lst accv) ∧ Reps G il2 H2 acc accv ∧ noLoc acc = true ∧ stays w0 h1 h2 ∧
      after G ((comp2L f (stays w0 h1) (ds.drop i) acc h2).bind fun ys h => .ok (.lst ys) h) il1 H1 Q fun c a H' => W c a σ H',
      ⟨_, rfl, Nat.zero_le _, il1.add p, h1, [], [], eD, List.mem_cons_self .., wD, upd_same, .nil, rfl, ?_, q⟩, ?_⟩
    · cases w0 <;> first | exact rfl | trivial
    · rintro i m H2 ⟨rfl, hi, il2, h2, acc, accv, e2, hx, w2, hD, ra, nl, gs, q2⟩
      by_cases hlt : i < ds.length
      · refine .inr ⟨wd.go il2 H2 h2 i e2.e0 w2 gs hlt, fun H3 => i + 1 ≤ ds.length ∧ ∃ il3 h3 acc accv, Ext il1 H1 il3 H3 ∧ p ∈ il3.ex ∧ WR G il3 H3 h3 ∧ H3 p = some (.lst accv) ∧ Reps G il3 H3 acc accv ∧ noLoc acc = true ∧ stays w0 h1 h3 ∧
          after G ((comp2L f (stays w0 h1) (ds.drop (i + 1)) acc h3).bind fun ys h => .ok (.lst ys) h) il1 H1 Q fun c a H' => W c a σ H',
          fun H' z => ⟨ds.length - (i + 1), by omega, rfl, z.1, z.2⟩, fun x H3 y => ?_⟩
        obtain ⟨e3, w3, d, hd, rd⟩ := wd.yld il2 H2 h2 i x H3 e2.e0 w2 gs hlt y
        have ed : ds.drop i = d :: ds.drop (i + 1) := by
          rw [List.drop_eq_getElem_cons hlt]
          congr 1
          rw [List.getElem?_eq_getElem hlt] at hd
          exact Option.some.inj hd
        rw [ed] at q2
        unfold comp2L at q2
        have hfd : f d acc h2 = match bindT tg d (wipeE r own) h2 with
          | some r2 => (tss cnd r2 h2).bind fun b h3 => if b = true then (it1.i r2 h3).bind fun p1 h4 => compL (turn1 vs1 tg1 cnd1 elt r2) (stays p1.2 h4) p1.1 acc h4 else Out.ok acc h3
          | none => Out.stuck := by rw [← hf]
        cases eb : bindT tg d (wipeE r own) h2 with
        | none =>
          rw [eb] at hfd
          rw [hfd] at q2
          exact q2.elim
        | some r2 =>
          rw [eb] at hfd
          dsimp only at hfd
          refine ⟨il2, h2, wipeE r own, d, w3, wipe_er ((er1.ext e2).ext e3) own, rd, r2, eb, fun s2 er2 off => ⟨wipe_off off hsl, ?_⟩⟩
          refine ⟨il2, h2, r2, w3, er2, ?_⟩
          cases ot : tss cnd r2 h2 with
          | stuck => rw [ot] at hfd; simp only [Out.bind_stuck] at hfd; rw [hfd] at q2; exact q2.elim
          | exc a b => rw [ot] at hfd; simp only [Out.bind_exc] at hfd; rw [hfd] at q2; exact q2.elim
          | ok b h3 =>
            rw [ot] at hfd
            simp only [Out.bind_ok] at hfd
            intro il4 H4 e4 w4
            have hD3 : H3 p = some (.lst accv) := e3.kex p hx _ hD
            have hD4 : H4 p = some (.lst accv) := e4.kex p hx _ hD3
            have hx4 : p ∈ il4.ex := e4.sub p hx
            cases b with
            | false =>
              rw [if_neg (by decide)] at hfd
              rw [hfd] at q2
              rw [if_neg (by decide)]
              dsimp only at q2
              split at q2
              · rename_i gs3
                exact ⟨hlt, il4, h3, acc, accv, e2.trans (e3.trans e4), hx4, w4, hD4, (ra.ext e3).ext e4, nl, gs3, q2⟩
              · exact q2.elim
            | true =>
              rw [if_pos rfl] at hfd
              rw [if_pos rfl]
              refine ⟨il4, h3, r2, w4, er2.ext e4, ?_⟩
              cases oi : it1.i r2 h3 with
              | stuck => rw [oi] at hfd; simp only [Out.bind_stuck] at hfd; rw [hfd] at q2; exact q2.elim
              | exc a b => rw [oi] at hfd; simp only [Out.bind_exc] at hfd; rw [hfd] at q2; exact q2.elim
              | ok p1 h5 =>
                rw [oi] at hfd
                simp only [Out.bind_ok] at hfd
                rw [hfd] at q2
                intro il5 H5 J1 e5 w5 wd1
                have hD5 : H5 p = some (.lst accv) := e5.kex p hx4 _ hD4
                have hx5 : p ∈ il5.ex := e5.sub p hx4
                refine compW (R := fun o => after G ((match o with
                    | .ok acc' h1' => if stays w0 h1 h1' then comp2L f (stays w0 h1) (ds.drop (i + 1)) acc' h1' else .stuck
                    | _ => .stuck : Out (List D)).bind fun ys h => .ok (.lst ys) h) il1 H1 Q fun c a H' => W c a σ H') (fun z => z.elim) hsl1 wd1 (e2.trans (e3.trans (e4.trans e5))) hp hx5 ((er2.ext e4).ext e5) w5 hD5 (((ra.ext e3).ext e4).ext e5) nl ?_ q2 ?_
                · obtain ⟨p11, p12⟩ := p1
                  cases p12 <;> first | exact rfl | trivial
                · intro il6 H6 h6 acc6 accv6 e6 hx6 w6 hD6 ra6 nl6 q6
                  dsimp only at q6
                  split at q6
                  · rename_i gs6
                    exact ⟨hlt, il6, h6, acc6, accv6, e6, hx6, w6, hD6, ra6, nl6, gs6, q6⟩
                  · exact q6.elim
      · have ei : i = ds.length := by omega
        subst ei
        refine .inl ⟨wd.stop il2 H2 h2 e2.e0 w2 gs, ?_⟩
        rw [List.drop_length] at q2
        unfold comp2L at q2
        simp only [Out.bind_ok] at q2
        have px : p ∉ il1.ex := (w1.notin hp).2
        have hsub : ∀ a ∈ il2.ex.filter (fun a => decide (a ≠ p)), a ∈ il2.ex := fun a m => (List.mem_filter.mp m).1
        refine q2 (.ref p) ⟨il2.st, il2.ex.filter fun a => decide (a ≠ p)⟩ H2 (e2.letGo hsub fun a m => List.mem_filter.mpr ⟨e2.sub a m, decide_eq_true fun z => px (z ▸ m)⟩) (w2.letGo hsub) (.lst hD ⟨w2.dis p hx, fun z => by simpa using (List.mem_filter.mp z).2⟩ nl (Reps.less (il := il2) (il1 := ⟨il2.st, il2.ex.filter fun a => decide (a ≠ p)⟩) (Nat.le_refl _) (List.prefix_refl _) hsub nl ra))
end
end GY

namespace GY
open PySem PySem.Spec PyProof.Rows L2

theorem loop_pure {α β : Type} {f : α → β → Sem (ForInStep β)} {g : β → α → β} (P : List α → β → Prop) (h : ∀ a r b, P (a :: r) b → f a b = pure (.yield (g b a)) ∧ P r (g b a)) :
    ∀ (l : List α) (b : β), P l b → forIn l b f = (pure (l.foldl g b) : Sem β)
  | [], b, _ => rfl
  | a :: r, b, p => by
    obtain ⟨e, p'⟩ := h a r b p
    rw [List.forIn_cons, e]
    show forIn r (g b a) f = _
    rw [loop_pure P h r _ p']
    rfl
theorem loop_looks {M : Model} {hp : Heap} {α β : Type} {f : α → β → Sem (ForInStep β)} {g : β → α → β} (P : List α → β → Prop) (h : ∀ a r b, P (a :: r) b → PySem.W.Looks M hp (f a b) (.yield (g b a)) ∧ P r (g b a)) :
    ∀ (l : List α) (b : β), P l b → PySem.W.Looks M hp (forIn l b f) (l.foldl g b)
  | [], b, _ => .of_pure rfl
  | a :: r, b, p => by
    obtain ⟨e, p'⟩ := h a r b p
    rw [List.forIn_cons]
    exact e.andThen (loop_looks P h r _ p')

theorem filterMap_same {α β : Type} {f g : α → Option β} : ∀ (l : List α), (∀ a ∈ l, f a = g a) → l.filterMap f = l.filterMap g
  | [], _ => rfl
  | a :: l, h => by
    rw [List.filterMap_cons, List.filterMap_cons, h a (List.mem_cons_self ..), filterMap_same l fun b hb => h b (List.mem_cons_of_mem _ hb)]
/-- the values by name: written ones, then keywords, then defaults -/
def bindNames (ps1 ps2 : List Str) (us : List Value) (kw dfl : List (Str × Value)) : List (Str × Value) :=
  (ps1 ++ ps2).filterMap fun n => (((ps1.zip us ++ kw) ++ dfl).lookup n).map (n, ·)
def addN (s : List (Str × Value)) (p : Str × Value) : List (Str × Value) := if (s.lookup p.1).isNone = true then s ++ [p] else s
theorem lookup_addN (s : List (Str × Value)) (p : Str × Value) (n : Str) : (addN s p).lookup n = (s ++ [p]).lookup n := by
  unfold addN
  split
  · rfl
  · rename_i hn
    rw [List.lookup_append]
    cases e : s.lookup n with
    | some v => rfl
    | none =>
      have : (n == p.1) = false := by
        cases q : n == p.1 with
        | false => rfl
        | true =>
          have : n = p.1 := by simpa using q
          subst this
          rw [e] at hn; simp at hn
      simp [List.lookup, this]
theorem lookup_foldN (n : Str) : ∀ (l s : List (Str × Value)), (l.foldl addN s).lookup n = (s ++ l).lookup n
  | [], s => by simp
  | p :: l, s => by
    rw [List.foldl_cons, lookup_foldN n l, List.lookup_append, List.lookup_append, lookup_addN, List.lookup_append]
    cases s.lookup n <;> simp [List.lookup]
    cases n == p.1 <;> simp
structure BindP (fd : FuncData) (ps1 ps2 : List Str) (va : Option Str) : Prop where
  po : fd.params.posonlyargs = []
  ar : fd.params.args.map (·.arg) = ps1
  ko : fd.params.kwonlyargs.map (·.arg) = ps2
  ka : fd.params.kwarg = none
  va : fd.params.vararg.map (·.arg) = va
theorem bind_ok {K : PySem.W.Frag} {M : Model} {A : Around} {E : Value → Shared → Prop} {s : Shared} {fd : FuncData} {ps1 ps2 : List Str} {va : Option Str} {us : List Value} {kw : List (Str × Value)} {its : List Value} {kds : List (Str × Value)} {Q : List (Str × Value) → Shared → Prop}
    (KX : K.In s.heap) (B : BindP fd ps1 ps2 va)
    (hd : (its = [] ∧ fd.defaults = .none) ∨ ∃ (T : Addr) (o : Obj) (n : Nat), fd.defaults = .ref T ∧ K.lookup T = some o ∧ o.data = .seq its.toArray n) (hl : its.length ≤ ps1.length)
    (hk : (kds = [] ∧ ∀ n ∈ ps2, ((ps1.zip us ++ kw) ++ ((ps1.drop (ps1.length - its.length)).zip its)).lookup n ≠ none) ∨ ∃ D : Addr, fd.kwdefaults = .ref D ∧ kds.map (·.1) = ps2 ∧ ∀ q ∈ kds, PySem.W.nsIn K D q.1 = some (some q.2))
    (hkw : ∀ p ∈ kw, p.1 ∈ ps1 ∨ p.1 ∈ ps2) (hnd : (kw.map (·.1)).Nodup) (hap : ∀ p ∈ kw, (ps1.zip us).lookup p.1 = none) (hgiven : us.length ≤ ps1.length ∨ va ≠ none)
    (hmiss : ∀ n ∈ ps1.take (ps1.length - its.length), (ps1.zip us ++ kw).lookup n ≠ none) (h2 : ps2.Nodup)
    (h0 : va = none → Q (bindNames ps1 ps2 us kw ((ps1.drop (ps1.length - its.length)).zip its ++ kds)) s)
    (h1 : ∀ v, va = some v → wpAny M A (newTuple (us.drop ps1.length)) (fun t s' => Q (bindNames ps1 ps2 us kw ((ps1.drop (ps1.length - its.length)).zip its ++ kds) ++ [(v, t)]) s') E s) :
    wpAny M A (bindArgs fd ⟨us, kw⟩) Q E s := by
  unfold bindArgs
  simp only [B.po, B.ar, B.ko, B.ka, List.map_nil, List.nil_append, Option.isSome_none, Bool.false_eq_true, if_false, List.filter_nil, List.isEmpty_nil, Bool.not_true]
  rw [loop_pure (g := fun (st : List (Str × Value) × List (Str × Value)) (p : Str × Value) => (st.1 ++ [p], st.2)) (P := fun l st => (∀ p ∈ l, p.1 ∈ ps1 ∨ p.1 ∈ ps2) ∧ (l.map (·.1)).Nodup ∧ ∀ p ∈ l, st.1.lookup p.1 = none) ?f kw _ ⟨hkw, hnd, hap⟩]
  case f =>
    rintro ⟨k, v⟩ r ⟨s1, s2⟩ ⟨c1, c2, c3⟩
    have m := c1 (k, v) (List.mem_cons_self ..)
    have l := c3 (k, v) (List.mem_cons_self ..)
    dsimp only at m l
    have hc : (ps1.contains k || ps2.contains k) = true := by rw [Bool.or_eq_true, List.contains_iff_mem, List.contains_iff_mem]; exact m
    refine ⟨?_, fun p hp => c1 p (List.mem_cons_of_mem _ hp), (List.nodup_cons.mp c2).2, fun p hp => ?_⟩
    · simp only [hc, if_true, l, Option.isSome_none, Bool.false_eq_true, if_false]
    · have hne : p.1 ≠ k := fun z => (List.nodup_cons.mp c2).1 (List.mem_map.mpr ⟨p, hp, z⟩)
      show (s1 ++ [(k, v)]).lookup p.1 = none
      have hb : (p.1 == k) = false := by simpa using hne
      rw [List.lookup_append, c3 p (List.mem_cons_of_mem _ hp)]
      simp [List.lookup, hb]
  have e1 : ∀ (l : List (Str × Value)) (st : List (Str × Value) × List (Str × Value)), l.foldl (fun st p => (st.1 ++ [p], st.2)) st = (st.1 ++ l, st.2) := by
    intro l
    induction l with
    | nil => intro st; simp
    | cons p l ih => intro st; rw [List.foldl_cons, ih]; simp
  rw [e1]
  refine wpAny_bind (wpAny_pure ?_)
  dsimp only
  -- the defaults
  have hdef : wpAny M A (seqItems? fd.defaults) (fun r s' => s' = s ∧ (r.getD #[]).toList = its) E s := by
    rcases hd with ⟨rfl, e⟩ | ⟨T, o, n, e, hT, ho⟩
    · rw [e]
      simp only [seqItems?]
      exact wpAny_bind (wpAny_pure (wpAny_pure ⟨rfl, rfl⟩))
    · rw [e]
      exact wpAny_seqItems (KX _ _ hT) ho ⟨rfl, by simp⟩
  refine wpAny_bind (wpAny_mono hdef (fun r s' hr => ?_) fun _ _ z => z)
  obtain ⟨rfl, er⟩ := hr
  rw [er]
  have hg : (decide (us.length > ps1.length) && fd.params.vararg.isNone) = false := by
    rcases hgiven with g | g
    · rw [decide_eq_false (by omega)]; rfl
    · have : fd.params.vararg.isNone = false := by
        cases z : fd.params.vararg with
        | none => rw [← B.va, z] at g; exact absurd rfl g
        | some a => rfl
      rw [this, Bool.and_false]
  simp only [hg, Bool.false_eq_true, if_false]
  have ed : its.drop (its.length - ps1.length) = its := by rw [Nat.sub_eq_zero_of_le hl]; rfl
  rw [ed]
  have hm : (List.filter (fun n => (List.lookup n (ps1.zip us ++ kw)).isNone) (List.take (ps1.length - its.length) ps1)) = [] := by
    rw [List.filter_eq_nil_iff]
    intro n hn z
    exact hmiss n hn (by simpa using z)
  simp only [hm, List.isEmpty_nil, Bool.not_true, Bool.false_eq_true, if_false]
  rw [loop_pure (g := addN) (P := fun _ _ => True) ?f2 _ _ trivial]
  case f2 =>
    rintro ⟨k, v⟩ r st _
    refine ⟨?_, trivial⟩
    unfold addN
    dsimp only
    split <;> rfl
  refine wpAny_bind (wpAny_pure ?_)
  generalize hS2 : ((List.drop (ps1.length - its.length) ps1).zip its).foldl addN (ps1.zip us ++ kw) = S2
  have lS2 : ∀ n, S2.lookup n = ((ps1.zip us ++ kw) ++ ((ps1.drop (ps1.length - its.length)).zip its)).lookup n := fun n => by rw [← hS2, lookup_foldN]
  -- the keyword-only ones
  have hloop0 : ∀ (f : Str → List (Str × Value) × List Str → Sem (ForInStep (List (Str × Value) × List Str))), (∀ n st, (st.1.lookup n).isNone = false → f n st = pure (.yield st)) →
      (∀ n st v, (st.1.lookup n).isNone = true → PySem.W.Looks M s'.heap (match fd.kwdefaults with | .ref d => nsGet d n | _ => pure none) (some v) → PySem.W.Looks M s'.heap (f n st) (.yield (st.1 ++ [(n, v)], st.2))) →
      ∃ S3, PySem.W.Looks M s'.heap (forIn ps2 (S2, []) f) (S3, []) ∧ ∀ n, n ∈ ps1 ++ ps2 → S3.lookup n = (S2 ++ kds).lookup n := by
    intro f f1 f2
    rcases hk with ⟨rfl, hk⟩ | ⟨D, eD, em, hk⟩
    · refine ⟨S2, ?_, fun n _ => by simp⟩
      have := loop_looks (M := M) (hp := s'.heap) (f := f) (g := fun st _ => st) (P := fun l st => st.1 = S2 ∧ ∀ n ∈ l, n ∈ ps2) (fun n r st ⟨e, hm⟩ => ⟨.of_pure (f1 n st (by
          rw [e, lS2]
          have := hk n (hm n (List.mem_cons_self ..))
          cases z : ((ps1.zip us ++ kw) ++ ((ps1.drop (ps1.length - its.length)).zip its)).lookup n with
          | none => exact absurd z this
          | some v => rfl)), e, fun m hm' => hm m (List.mem_cons_of_mem _ hm')⟩) ps2 (S2, []) ⟨rfl, fun _ h => h⟩
      have e2 : ∀ (l : List Str) (b : List (Str × Value) × List Str), l.foldl (fun st _ => st) b = b := by
        intro l
        induction l with
        | nil => intro b; rfl
        | cons a l ih => intro b; exact ih b
      rw [e2] at this
      exact this
    · subst em
      refine ⟨kds.foldl addN S2, ?_, fun n _ => lookup_foldN n kds S2⟩
      have key : ∀ (l : List (Str × Value)) (st : List (Str × Value)), (∀ q ∈ l, q ∈ kds) → PySem.W.Looks M s'.heap (forIn (l.map (·.1)) (st, []) f) (l.foldl addN st, []) := by
        intro l
        induction l with
        | nil => intro st _; exact .of_pure rfl
        | cons q l ih =>
          intro st hm
          rw [List.map_cons, List.forIn_cons, List.foldl_cons]
          have hq := hk q (hm q (List.mem_cons_self ..))
          cases z : (st.lookup q.1).isNone with
          | false =>
            have e : addN st q = st := by unfold addN; rw [if_neg (by rw [z]; decide)]
            rw [e]
            exact (PySem.W.Looks.of_pure (f1 q.1 (st, []) z)).andThen (ih st fun p hp => hm p (List.mem_cons_of_mem _ hp))
          | true =>
            have e : addN st q = st ++ [q] := by unfold addN; rw [if_pos z]
            rw [e]
            refine (f2 q.1 (st, []) q.2 z ?_).andThen (ih _ fun p hp => hm p (List.mem_cons_of_mem _ hp))
            rw [eD]
            exact PySem.W.looks_nsIn KX hq
      exact key kds S2 fun _ h => h
  have hloop : ∀ (f : Str → List (Str × Value) × List Str → Sem (ForInStep (List (Str × Value) × List Str))) (Q' : List (Str × Value) × List Str → Shared → Prop),
      (∀ S3, (∀ n, n ∈ ps1 ++ ps2 → S3.lookup n = (S2 ++ kds).lookup n) → Q' (S3, []) s') → (∀ n st, (st.1.lookup n).isNone = false → f n st = pure (.yield st)) →
      (∀ n st v, (st.1.lookup n).isNone = true → PySem.W.Looks M s'.heap (match fd.kwdefaults with | .ref d => nsGet d n | _ => pure none) (some v) → PySem.W.Looks M s'.heap (f n st) (.yield (st.1 ++ [(n, v)], st.2))) →
      wpAny M A (forIn ps2 (S2, []) f) Q' E s' := fun f Q' k a b => by
    obtain ⟨S3, h3, h4⟩ := hloop0 f a b
    exact h3.here (k S3 h4)
  refine wpAny_bind (hloop _ _ (fun S3 lS3 => ?_) (fun n st z => ?_) (fun n st v z x => ?_))
  rotate_left
  · simp only [z, Bool.false_eq_true, if_false]
  · simp only [z, if_true]
    revert x
    cases fd.kwdefaults <;> intro x <;> exact x.andThen (.of_pure rfl)
  dsimp only
  simp only [List.isEmpty_nil, Bool.not_true, Bool.false_eq_true, if_false]
  have fin : (ps1 ++ ps2).filterMap (fun n => Option.map (fun x => (n, x)) (List.lookup n S3)) = bindNames ps1 ps2 us kw ((ps1.drop (ps1.length - its.length)).zip its ++ kds) := by
    unfold bindNames
    refine filterMap_same _ fun n hn => ?_
    rw [lS3 n hn, List.lookup_append, lS2, ← List.lookup_append, List.append_assoc]
  cases hv : fd.params.vararg with
  | none =>
    have e : va = none := by rw [← B.va, hv]; rfl
    dsimp only
    rw [fin]
    exact wpAny_pure (h0 e)
  | some a =>
    have e : va = some a.arg := by rw [← B.va, hv]; rfl
    dsimp only
    refine wpAny_bind (wpAny_mono (h1 a.arg e) (fun t s' ht => ?_) fun _ _ z => z)
    rw [fin]
    exact wpAny_pure ht
end GY

namespace GY
open PySem PySem.Spec PyProof.Rows L2
section
variable {G : Sg} {il : Lay} {H : Hp}
/-- a datum and a model's value -/
def RelD (G : Sg) (il : Lay) (H : Hp) (d : D) (u : Value) : Prop := ∃ v, RelV v u ∧ Rep G il H d v
theorem fm_zip {L : List (Str × Value)} : ∀ (ps : List Str) (ds : List D), ps.length = ds.length → (∀ (i : Nat) (n : Str) (d : D), ps[i]? = some n → ds[i]? = some d → ∃ u, L.lookup n = some u ∧ RelD G il H d u) →
    ∃ us vs, ps.filterMap (fun n => (L.lookup n).map (n, ·)) = ps.zip us ∧ Vals vs us ∧ Reps G il H ds vs ∧ us.length = ps.length
  | [], [], _, _ => ⟨[], [], rfl, .nil, .nil, rfl⟩
  | [], _ :: _, e, _ => nomatch e
  | _ :: _, [], e, _ => nomatch e
  | p :: ps, d :: ds, e, h => by
    obtain ⟨u, e1, v, r1, r2⟩ := h 0 p d rfl rfl
    obtain ⟨us, vs, e2, r3, r4, r5⟩ := fm_zip ps ds (Nat.succ.inj e) fun i n d hn hd => h (i + 1) n d (by simpa using hn) (by simpa using hd)
    refine ⟨u :: us, v :: vs, ?_, .cons r1 r3, .cons r2 r4, congrArg Nat.succ r5⟩
    rw [List.filterMap_cons, e1]
    show (p, u) :: _ = _
    rw [e2]
    rfl
theorem bindFrom_get {f : Nat → Option D} : ∀ {k n : Nat} {ds : List D}, bindFrom f n k = some ds → ds.length = k ∧ ∀ i d, ds[i]? = some d → f (n + i) = some d
  | 0, n, ds, h => by cases h; exact ⟨rfl, fun i d e => by simp at e⟩
  | k + 1, n, ds, h => by
    unfold bindFrom at h
    split at h
    · rename_i d e1
      split at h
      · rename_i ds' e2
        cases h
        obtain ⟨hl, hg⟩ := bindFrom_get e2
        refine ⟨congrArg Nat.succ hl, fun i d' e => ?_⟩
        cases i with
        | zero => simp at e; subst e; exact e1
        | succ i =>
          have := hg i d' (by simpa using e)
          rw [show n + (i + 1) = n + 1 + i by omega]
          exact this
      · cases h
    · cases h
theorem lookup_zip {α : Type} : ∀ {ps : List Str} {us : List α} {i : Nat} {n : Str}, ps.Nodup → ps[i]? = some n → (ps.zip us).lookup n = us[i]?
  | [], _, _, _, _, h => by simp at h
  | p :: ps, [], i, n, _, h => by simp
  | p :: ps, u :: us, 0, n, nd, h => by
    simp at h; subst h
    simp [List.lookup]
  | p :: ps, u :: us, i + 1, n, nd, h => by
    have h' : ps[i]? = some n := by simpa using h
    have hne : (n == p) = false := by
      have := (List.nodup_cons.mp nd).1
      have hm : n ∈ ps := List.mem_of_getElem? h'
      have : n ≠ p := fun z => this (z ▸ hm)
      simpa using this
    have := lookup_zip (us := us) (List.nodup_cons.mp nd).2 h'
    simp [List.lookup, hne, this]
theorem lookup_zip_none {α : Type} {n : Str} : ∀ {ps : List Str} {us : List α}, n ∉ ps → (ps.zip us).lookup n = none
  | [], _, _ => rfl
  | _ :: _, [], _ => rfl
  | p :: ps, u :: us, h => by
    have hne : (n == p) = false := by
      have : n ≠ p := fun z => h (z ▸ List.mem_cons_self ..)
      simpa using this
    have := lookup_zip_none (ps := ps) (us := us) fun z => h (List.mem_cons_of_mem _ z)
    simp [List.lookup, hne, this]
/-- keywords by place and by name -/
inductive KwR (G : Sg) (il : Lay) (H : Hp) (ps : List Str) : List (Nat × D) → List (Str × Value) → Prop
  | nil : KwR G il H ps [] []
  | cons {i : Nat} {n : Str} {d : D} {u : Value} {a : List (Nat × D)} {b : List (Str × Value)} : ps[i]? = some n → RelD G il H d u → KwR G il H ps a b → KwR G il H ps ((i, d) :: a) ((n, u) :: b)
theorem ix_eq {ps : List Str} (nd : ps.Nodup) {i j : Nat} {n m : Str} (a : ps[i]? = some n) (b : ps[j]? = some m) : (n == m) = (i == j) := by
  by_cases e : i = j
  · subst e; rw [a] at b; cases b; simp
  · have : n ≠ m := fun z => e (nodup_ix nd a (z ▸ b))
    rw [beq_eq_false_iff_ne.mpr this, beq_eq_false_iff_ne.mpr e]
theorem KwR.look {ps : List Str} (nd : ps.Nodup) {j : Nat} {m : Str} (hj : ps[j]? = some m) : ∀ {a : List (Nat × D)} {b : List (Str × Value)}, KwR G il H ps a b → (∀ d, a.lookup j = some d → ∃ u, b.lookup m = some u ∧ RelD G il H d u) ∧ (a.lookup j = none → b.lookup m = none)
  | _, _, .nil => ⟨(fun _ e => nomatch e), (fun _ => rfl)⟩
  | _, _, .cons (i := i) (n := n) (d := d) (u := u) (a := a) (b := b) hi hr t => by
    have ih := KwR.look nd hj t
    have e := ix_eq nd hj hi
    cases q : j == i with
    | true =>
      rw [q] at e
      refine ⟨fun d' h => ?_, fun h => ?_⟩
      · rw [List.lookup_cons, q] at h; cases h
        exact ⟨u, by rw [List.lookup_cons, e], hr⟩
      · rw [List.lookup_cons, q] at h; cases h
    | false =>
      rw [q] at e
      refine ⟨fun d' h => ?_, fun h => ?_⟩
      · rw [List.lookup_cons, q] at h
        obtain ⟨u', h1, h2⟩ := ih.1 d' h
        exact ⟨u', by rw [List.lookup_cons, e]; exact h1, h2⟩
      · rw [List.lookup_cons, q] at h
        rw [List.lookup_cons, e]; exact ih.2 h
theorem kwOk_all {fd : Fd} {m : Nat} : ∀ {kws : List (Nat × D)}, kwOk fd m kws = true → (kws.map (·.1)).Nodup ∧ ∀ p ∈ kws, p.1 < fd.npos + fd.kdf.length ∧ (fd.npos ≤ p.1 ∨ m ≤ p.1)
  | [], _ => ⟨List.nodup_nil, (fun _ h => nomatch h)⟩
  | p :: r, h => by
    simp only [kwOk, Bool.and_eq_true, Bool.or_eq_true, decide_eq_true_eq] at h
    obtain ⟨⟨⟨h1, h2⟩, h3⟩, h4⟩ := h
    obtain ⟨n1, n2⟩ := kwOk_all h4
    refine ⟨?_, fun q hq => ?_⟩
    · rw [List.map_cons, List.nodup_cons]
      refine ⟨fun z => ?_, n1⟩
      rw [List.all_eq_true] at h3
      simpa using h3 _ z
    · rcases List.mem_cons.mp hq with rfl | hq
      · exact ⟨h1, h2⟩
      · exact n2 q hq
theorem KwR.mem {ps : List Str} : ∀ {a : List (Nat × D)} {b : List (Str × Value)}, KwR G il H ps a b → ∀ q ∈ b, ∃ p ∈ a, ps[p.1]? = some q.1
  | _, _, .nil, _, h => nomatch h
  | _, _, .cons hi hr t, q, h => by
    rcases List.mem_cons.mp h with rfl | h
    · exact ⟨_, List.mem_cons_self .., hi⟩
    · obtain ⟨p, h1, h2⟩ := KwR.mem t q h
      exact ⟨p, List.mem_cons_of_mem _ h1, h2⟩
theorem KwR.nodup {ps : List Str} (nd : ps.Nodup) : ∀ {a : List (Nat × D)} {b : List (Str × Value)}, KwR G il H ps a b → (a.map (·.1)).Nodup → (b.map (·.1)).Nodup
  | _, _, .nil, _ => List.nodup_nil
  | _, _, .cons hi hr t, h => by
    rw [List.map_cons, List.nodup_cons] at h ⊢
    refine ⟨fun z => ?_, KwR.nodup nd t h.2⟩
    obtain ⟨q, hq, e⟩ := List.mem_map.mp z
    obtain ⟨p, h1, h2⟩ := KwR.mem t q hq
    rw [e] at h2
    exact h.1 (List.mem_map.mpr ⟨p, h1, nodup_ix nd h2 hi⟩)
/-- two lists in step -/
theorem rels_get : ∀ {ds : List D} {vs : List V} {us : List Value} {i : Nat} {d : D}, Reps G il H ds vs → Vals vs us → ds[i]? = some d → ∃ u, us[i]? = some u ∧ RelD G il H d u := fun {ds vs us i d} r q h => by
  obtain ⟨v, h1, h2⟩ := r.get h
  obtain ⟨u, h3, h4⟩ := q.get h1
  exact ⟨u, h3, v, h4, h2⟩
/-- the parameters' values, by the model and by data -/
theorem bind_vals {fd : Fd} {ps1 ps2 : List Str} {usD : List D} {uv : List V} {us : List Value} {kwD : List (Nat × D)} {kw : List (Str × Value)} {pv kv : List V} {its kvs : List Value} {ds : List D} (nd : (ps1 ++ ps2).Nodup) (l1 : ps1.length = fd.npos) (l2 : ps2.length = fd.kdf.length)
    (r1 : Reps G il H usD uv) (v1 : Vals uv us) (rk : KwR G il H (ps1 ++ ps2) kwD kw) (r2 : Reps G il H fd.pdf pv) (v2 : Vals pv its) (r3 : Reps G il H fd.kdf kv) (v3 : Vals kv kvs) (hp : fd.pdf.length ≤ fd.npos)
    (h : bindFrom (bindOne fd usD kwD) 0 (fd.npos + fd.kdf.length) = some ds) :
    (∃ us' vs, bindNames ps1 ps2 us kw ((ps1.drop (ps1.length - its.length)).zip its ++ ps2.zip kvs) = (ps1 ++ ps2).zip us' ∧ Vals vs us' ∧ Reps G il H ds vs ∧ us'.length = (ps1 ++ ps2).length) ∧
    (∀ n ∈ ps1.take (ps1.length - its.length), (ps1.zip us ++ kw).lookup n ≠ none) := by
  obtain ⟨hl, hg⟩ := bindFrom_get h
  have nd1 : ps1.Nodup := (List.nodup_append.mp nd).1
  have nd2 : ps2.Nodup := (List.nodup_append.mp nd).2.1
  have li : its.length = fd.pdf.length := by rw [← v2.length, r2.length]
  -- the look of a name
  have key : ∀ (i : Nat) (n : Str) (d : D), (ps1 ++ ps2)[i]? = some n → bindOne fd usD kwD i = some d → (∃ u, (((ps1.zip us ++ kw) ++ ((ps1.drop (ps1.length - its.length)).zip its ++ ps2.zip kvs))).lookup n = some u ∧ RelD G il H d u) ∧
      (i < ps1.length - its.length → (ps1.zip us ++ kw).lookup n ≠ none) := by
    intro i n d hn hd
    have hus : ∀ d, (if i < fd.npos then usD[i]? else none) = some d → ∃ u, (ps1.zip us).lookup n = some u ∧ RelD G il H d u := fun d e => by
      split at e
      · rename_i hi
        have hn1 : ps1[i]? = some n := by rw [List.getElem?_append_left (by omega)] at hn; exact hn
        obtain ⟨u, h1, h2⟩ := rels_get r1 v1 e
        exact ⟨u, by rw [lookup_zip nd1 hn1]; exact h1, h2⟩
      · cases e
    have hnone : (if i < fd.npos then usD[i]? else none) = none → (ps1.zip us).lookup n = none := fun e => by
      by_cases hi : i < fd.npos
      · rw [if_pos hi] at e
        have hn1 : ps1[i]? = some n := by rw [List.getElem?_append_left (by omega)] at hn; exact hn
        rw [lookup_zip nd1 hn1]
        have h1 := List.getElem?_eq_none_iff.mp e
        refine List.getElem?_eq_none_iff.mpr ?_
        rw [← v1.length, ← r1.length]
        exact h1
      · refine lookup_zip_none fun z => ?_
        rw [List.getElem?_append_right (by omega)] at hn
        exact (List.nodup_append.mp nd).2.2 n z n (List.mem_of_getElem? hn) rfl
    unfold bindOne at hd
    split at hd
    · rename_i d' e
      cases hd
      obtain ⟨u, h1, h2⟩ := hus d e
      refine ⟨⟨u, by rw [List.lookup_append, List.lookup_append, h1]; rfl, h2⟩, fun _ => by rw [List.lookup_append, h1]; simp⟩
    · rename_i e
      have hz := hnone e
      obtain ⟨k1, k2⟩ := rk.look nd hn
      split at hd
      · rename_i d' e2
        cases hd
        obtain ⟨u, h1, h2⟩ := k1 d e2
        exact ⟨⟨u, by rw [List.lookup_append, List.lookup_append, hz, h1]; rfl, h2⟩, fun _ => by rw [List.lookup_append, hz, h1]; simp⟩
      · rename_i e2
        have hkn := k2 e2
        have pre : ∀ L : List (Str × Value), ((ps1.zip us ++ kw) ++ L).lookup n = L.lookup n := fun L => by rw [List.lookup_append, List.lookup_append, hz, hkn]; rfl
        split at hd
        · rename_i hi
          rw [List.getElem?_append_right (by omega)] at hn
          obtain ⟨u, h1, h2⟩ := rels_get r3 v3 (show fd.kdf[i - ps1.length]? = some d by rw [l1]; exact hd)
          have hn1 : n ∉ ps1.drop (ps1.length - its.length) := fun z => (List.nodup_append.mp nd).2.2 n (List.mem_of_mem_drop z) n (List.mem_of_getElem? hn) rfl
          refine ⟨⟨u, ?_, h2⟩, fun z => by omega⟩
          rw [pre, List.lookup_append, lookup_zip_none hn1, lookup_zip nd2 hn, h1]
          rfl
        · rename_i hi
          split at hd
          · rename_i hj
            have hn1 : ps1[i]? = some n := by rw [List.getElem?_append_left (by omega)] at hn; exact hn
            obtain ⟨u, h1, h2⟩ := rels_get r2 v2 hd
            have hn2 : (ps1.drop (ps1.length - its.length))[i - (fd.npos - fd.pdf.length)]? = some n := by
              rw [List.getElem?_drop, li, l1, show fd.npos - fd.pdf.length + (i - (fd.npos - fd.pdf.length)) = i by omega]
              exact hn1
            refine ⟨⟨u, ?_, h2⟩, fun z => by omega⟩
            rw [pre, List.lookup_append, lookup_zip (nd1.sublist (List.drop_sublist _ _)) hn2, h1]
            rfl
          · cases hd
  have ll : (ps1 ++ ps2).length = ds.length := by rw [List.length_append, l1, l2, hl]
  refine ⟨?_, fun n hn => ?_⟩
  · obtain ⟨us', vs, e1, e2, e3, e4⟩ := fm_zip (G := G) (il := il) (H := H) (ps1 ++ ps2) ds ll fun i n d hn hd => by
      have := hg i d hd
      rw [Nat.zero_add] at this
      exact (key i n d hn this).1
    exact ⟨us', vs, e1, e2, e3, e4⟩
  · obtain ⟨i, hi, e⟩ := List.getElem_of_mem hn
    rw [List.length_take] at hi
    have hi1 : i < ps1.length := by omega
    have hn1 : (ps1 ++ ps2)[i]? = some n := by
      rw [List.getElem?_append_left hi1, List.getElem?_eq_getElem hi1, ← e, List.getElem_take]
    have hi2 : i < ds.length := by rw [← ll, List.length_append]; omega
    have := hg i _ (List.getElem?_eq_getElem hi2)
    rw [Nat.zero_add] at this
    exact (key i n _ hn1 this).2 (by omega)
end
end GY

namespace GY
open PySem PySem.Spec PyProof.Rows L2

section
variable {G : Sg} {il il1 : Lay} {H H1 : Hp} {h h1 : Hs}
/-- the state as the caller knows it -/
theorem WR.cut (w : WR G il H h) (w1 : WR G il1 H1 h1) (e : Ext il H il1 H1) : WR G il H1 (h1.take h.length) := by
  refine ⟨?_, w.nd, fun n a o h2 h3 => ?_, fun a m => ?_, w.dis, w1.tab⟩
  · rw [List.length_take, ← w.len]
    have := e.pre.length_le
    rw [w1.len] at this
    omega
  · have hn : n < h.length := by
      rw [← w.len]
      exact (List.getElem?_eq_some_iff.mp h2).1
    rw [List.getElem?_take_of_lt hn] at h3
    have q := w1.ob n a o (e.at_ h2) h3
    have rr : ∀ {ds : List D} {vs : List V}, noLoc ds = true → Reps G il1 H1 ds vs → Reps G il H1 ds vs := fun nl r => Reps.less (il := il1) (il1 := il) e.pre.length_le e.pre e.sub nl r
    have off : ∀ {b : Addr}, il1.off b → il.off b := fun z => ⟨fun y => z.1 (e.pre.subset y), fun y => z.2 (e.sub _ y)⟩
    cases o with
    | lst ds => obtain ⟨xs, e1, r, nl⟩ := q; exact ⟨xs, e1, rr nl r, nl⟩
    | ins c fs => obtain ⟨hk, dx, gs, e1, e2, n1, n2, e3, r⟩ := q; exact ⟨hk, dx, gs, e1, e2, off n1, n2, e3, rr n2 r⟩
  · obtain ⟨u, q⟩ := w.trk a m
    exact ⟨u, e.kex a m _ q⟩
theorem Ext.cut (e : Ext il H il1 H1) : Ext il H il H1 := ⟨List.prefix_refl _, fun _ m => m, fun a o h n nt => e.keep a o h n nt, fun _ m => .inl m, e.kex⟩
mutual
theorem Rep.low (hs : ∀ a ∈ il1.st, a ∈ il.st) (hx : ∀ a ∈ il1.ex, a ∈ il.ex) : ∀ {d : D} {v : V}, isLoc d = false → Rep G il H d v → Rep G il1 H d v
  | _, _, _, .non => .non
  | _, _, _, .bl b => .bl b
  | _, _, _, .int i => .int i
  | _, _, _, .str x => .str x
  | _, _, _, .tup (.inl h) n r => .tup (.inl ⟨h.1, fun z => h.2.1 (hs _ z), fun z => h.2.2 (hx _ z)⟩) n (Reps.low hs hx n r)
  | _, _, _, .tup (.inr h) n r => .tup (.inr h) n (Reps.low hs hx n r)
  | _, _, _, .lst h m n r => .lst h ⟨fun z => m.1 (hs _ z), fun z => m.2 (hx _ z)⟩ n (Reps.low hs hx n r)
  | _, _, _, .frz (.inl h) n r => .frz (.inl ⟨h.1, fun z => h.2.1 (hs _ z), fun z => h.2.2 (hx _ z)⟩) n (Reps.low hs hx n r)
  | _, _, _, .frz (.inr h) n r => .frz (.inr h) n (Reps.low hs hx n r)
  | _, _, _, .ins hk h1 h2 n1 n2 n3 h3 r => .ins hk h1 h2 ⟨fun z => n1.1 (hs _ z), fun z => n1.2 (hx _ z)⟩ ⟨fun z => n2.1 (hs _ z), fun z => n2.2 (hx _ z)⟩ n3 h3 (Reps.low hs hx n3 r)
  | _, _, e, .loc h => nomatch e
theorem Reps.low (hs : ∀ a ∈ il1.st, a ∈ il.st) (hx : ∀ a ∈ il1.ex, a ∈ il.ex) : ∀ {d : List D} {v : List V}, noLoc d = true → Reps G il H d v → Reps G il1 H d v
  | _, _, _, .nil => .nil
  | _, _, n, .cons a b => by
    unfold noLoc at n
    rw [List.all_cons, Bool.and_eq_true] at n
    exact .cons (Rep.low hs hx (by simpa using n.1) a) (Reps.low hs hx n.2 b)
end
/-- an object that the def has made is the caller's from now on -/
theorem WR.keepNew (w : WR G il H h) (w1 : WR G il1 H1 h1) (e : Ext il H il1 H1) {m : Nat} {p : Addr} {o : Ob} (hm : il1.st[m]? = some p) (hl : h.length ≤ m) (ho : h1[m]? = some o) (hoff : il.off p) :
    WR G (il.push p) H1 (h1.take h.length ++ [o]) ∧ Ext il H (il.push p) H1 := by
  have hnew : ∀ o, H p = some o → ∃ ps, o = .tbl ps := (e.new p fun z => z.1 (List.mem_of_getElem? hm)).resolve_left fun z => z hoff
  have hle : h.length ≤ h1.length := by rw [← w.len, ← w1.len]; exact e.pre.length_le
  have sub : ∀ a ∈ (il.push p).st, a ∈ il1.st := fun a ha => by
    rcases List.mem_append.mp ha with z | z
    · exact e.pre.subset z
    · have : a = p := by simpa using z
      subst this; exact List.mem_of_getElem? hm
  have off : ∀ {b : Addr}, il1.off b → (il.push p).off b := fun z => ⟨fun y => z.1 (sub _ y), fun y => z.2 (e.sub _ y)⟩
  have obj : ∀ {o : Ob} {a : Addr}, ObR G il1 H1 o a → ObR G (il.push p) H1 o a := fun {o a} q => by
    cases o with
    | lst ds => obtain ⟨xs, e1, r, nl⟩ := q; exact ⟨xs, e1, Reps.low (il := il1) (il1 := il.push p) sub e.sub nl r, nl⟩
    | ins c fs => obtain ⟨hk, dx, gs, e1, e2, n1, n2, e3, r⟩ := q; exact ⟨hk, dx, gs, e1, e2, off n1, n2, e3, Reps.low (il := il1) (il1 := il.push p) sub e.sub n2 r⟩
  refine ⟨⟨?_, ?_, fun n a o' h2 h3 => ?_, fun a m => ?_, fun a m => ?_, w1.tab⟩, ⟨List.prefix_append _ _, fun _ m => m, fun a o h n nt => e.keep a o h n nt, fun a m => ?_, e.kex⟩⟩
  · show (il.st ++ [p]).length = _
    simp [w.len, Nat.min_eq_left hle]
  · show (il.st ++ [p]).Nodup
    rw [List.nodup_append]
    refine ⟨w.nd, by simp, fun a ha b hb => ?_⟩
    have : b = p := by simpa using hb
    subst this
    rintro rfl
    exact hoff.1 ha
  · have h2 : (il.st ++ [p])[n]? = some a := h2
    by_cases hn : n < il.st.length
    · rw [List.getElem?_append_left hn] at h2
      have hn' : n < h.length := by rw [← w.len]; exact hn
      rw [List.getElem?_append_left (by simp; omega), List.getElem?_take_of_lt hn'] at h3
      exact obj (w1.ob n a o' (e.at_ h2) h3)
    · have hn' : n = il.st.length := by
        have := (List.getElem?_eq_some_iff.mp h2).1
        simp at this
        omega
      subst hn'
      rw [List.getElem?_append_right (Nat.le_refl _)] at h2
      rw [List.getElem?_append_right (by rw [w.len]; simp; omega), w.len] at h3
      simp [Nat.min_eq_left hle] at h2 h3
      subst h2; subst h3
      exact obj (w1.ob m _ _ hm ho)
  · obtain ⟨u, q⟩ := w.trk a m
    exact ⟨u, e.kex a m _ q⟩
  · intro z
    rcases List.mem_append.mp z with z | z
    · exact w.dis a m z
    · have : a = p := by simpa using z
      subst this
      exact hoff.2 m
  · by_cases ha : a = p
    · exact .inr (by rw [ha]; exact hnew)
    · exact .inl fun z => m ⟨fun y => (List.mem_append.mp y).elim z.1 (fun y => ha (by simpa using y)), z.2⟩
theorem finish_ok {fr : Bool} {Q : VK} {E : XK} {d : D} {v : V} (w : WR G il H h) (w1 : WR G il1 H1 h1) (e : Ext il H il1 H1) (r : Rep G il1 H1 d v) (q : after G (finish fr h.length d h1) il H Q E) : Q v H1 := by
  have wc := w.cut w1 e
  have plain : isLoc d = false → after G (.ok d (h1.take h.length)) il H Q E → Q v H1 := fun hl z => z v il H1 e.cut wc (Rep.less (il := il1) (il1 := il) e.pre.length_le e.pre e.sub hl r)
  cases d with
  | loc m =>
    cases r with
    | @loc _ a ha =>
      unfold finish at q
      dsimp only at q
      by_cases hm : m < h.length
      · rw [if_pos hm] at q
        refine q _ il H1 e.cut wc (.loc ?_)
        obtain ⟨t, ht⟩ := e.pre
        rw [← ht, List.getElem?_append_left (by rw [w.len]; exact hm)] at ha
        exact ha
      · rw [if_neg hm] at q
        have off : il.off a := by
          refine ⟨fun z => ?_, fun z => w1.dis a (e.sub a z) (List.mem_of_getElem? ha)⟩
          obtain ⟨i, hi, ei⟩ := List.getElem_of_mem z
          have h2 : il1.st[i]? = some a := e.at_ (by rw [List.getElem?_eq_getElem hi, ei])
          obtain ⟨l1, e1⟩ := List.getElem?_eq_some_iff.mp ha
          obtain ⟨l2, e2⟩ := List.getElem?_eq_some_iff.mp h2
          have := (List.getElem_inj w1.nd).mp (e1.trans e2.symm)
          rw [w.len] at hi
          omega
        split at q
        · rename_i ds eo
          obtain ⟨xs, e1, rs, nl⟩ := w1.ob m a _ ha eo
          have rs' := Reps.less (il := il1) (il1 := il) e.pre.length_le e.pre e.sub nl rs
          split at q
          · obtain ⟨w2, e2⟩ := w.keepNew w1 e ha (by omega) eo off
            exact q (.ref a) (il.push a) H1 e2 w2 (.loc (by
              show (il.st ++ [a])[h.length]? = some a
              rw [← w.len, List.getElem?_append_right (Nat.le_refl _), Nat.sub_self]; rfl))
          · exact q _ il H1 e.cut wc (.lst e1 off nl rs')
        · rename_i c fs eo
          obtain ⟨hk, dx, gs, e1, e2, n1, n2, e3, rs⟩ := w1.ob m a _ ha eo
          exact q _ il H1 e.cut wc (.ins hk e1 e2 off ⟨fun y => n1.1 (e.pre.subset y), fun y => n1.2 (e.sub _ y)⟩ n2 e3 (Reps.less (il := il1) (il1 := il) e.pre.length_le e.pre e.sub n2 rs))
        · exact q.elim
  | _ => exact plain rfl q
end

/-- what a def keeps: ap is its evaluator -/
structure FnI (Pr : Program) (w : World) (K : PySem.W.Frag) (mg : Str → Option Value) (base : Heap) (G : Sg) (k : Nat) (f : Addr) (ps : List Str) (ap : List D → List (Nat × D) → Hs → Out D) : Prop where
  run : ∀ (A : Around) (outer : List Env) (s : Shared) (H : Hp) (us : List Value) (kw : List (Str × Value)) (uv : List V) (il : Lay) (h : Hs) (usD : List D) (kwD : List (Nat × D)) (Q : VK) (E : XK),
    Room (5 * k) A → Env0 Pr w K mg base A outer s H → Vals uv us → WR G il H h → Reps G il H usD uv → KwR G il H ps kwD kw → after G (ap usD kwD h) il H Q E →
    codeAny (model Pr w) A (.call (.ref f) ⟨us, kw⟩) (CR (L2.CX Pr w) outer Pr w H s Q E) s

/-- defaults by data: the same at every state -/
def DflR (G : Sg) (ds : List D) (vs : List V) : Prop := ∀ il H, Reps G il H ds vs

section
variable {Pr : Program} {w : World} {K : PySem.W.Frag} {mg : Str → Option Value} {base : Heap} {G : Sg} {k : Nat} {f : Addr} {name qual : Str} {params : Arguments} {body : List Stmt} {scope : Scope} {dV kV doc pm cdv ct oc : Value} {an od : Option Addr} {osl : Array (Option Value)} {N ps1 ps2 : List Str} {va : Option Str}
theorem fn_run {P : Nat → Option Fd} {g n : Nat} {fd : Fd} (hP : P g = some fd) (hGK : G.K = K)
    (lk : K.lookup f = some ⟨oc, od, .func (PySem.W.fnOf name qual params body scope dV kV doc pm an cdv ct), osl⟩) (hcd : PySem.W.codeIn K cdv qual = true) (S : FnScope N (ps1 ++ ps2 ++ va.toList) scope)
    (B : BindP (PySem.W.fnOf name qual params body scope dV kV doc pm an cdv ct) ps1 ps2 va) (nd : (ps1 ++ ps2).Nodup) (l1 : ps1.length = fd.npos) (l2 : ps2.length = fd.kdf.length) (hst : fd.star = va.isSome) (hns : N.length = fd.ns)
    (hp : fd.pdf.length ≤ fd.npos) {dvs kvs : List V} (hD : DflV K dV dvs) (rD : DflR G fd.pdf dvs) (hKw : KwdV K kV (ps2.zip kvs)) (rK : DflR G fd.kdf kvs)
    (hbody : ∀ (A : Around) (outer : List Env) (s : Shared) (H : Hp) (E : XK), Room (5 * n + 4) (A.deeper (envOfC qual scope s.heap.objs.size f cdv)) →
      PSs (cxOf (L2.CX Pr w) Pr w K mg base N qual scope f cdv A outer s H E) body (tS G (fun cls d _ H => E cls d H) (exSs (callN P n) fd.body))) :
    FnI Pr w K mg base G (n + 1) f (ps1 ++ ps2) (callN P (n + 1) g) := by
  refine ⟨fun A outer s H us kw uv il h usD kwD Q E hr e0 rv wr r1 rk q => ?_⟩
  rw [callN_succ] at q
  rw [hP] at q
  dsimp only at q
  cases eb : bindD fd usD kwD with
  | none => rw [eb] at q; exact q.elim
  | some ds =>
  rw [eb] at q
  dsimp only at q
  have KX : K.In s.heap := e0.mod.kin.keeps fun b o e => (e0.bs b o e).1
  -- the values
  unfold bindD at eb
  split at eb
  case isFalse => cases eb
  case isTrue hkok =>
  obtain ⟨kn, kall⟩ := kwOk_all hkok
  obtain ⟨its, vI, hdef⟩ : ∃ its : List Value, Vals dvs its ∧ ((its = [] ∧ dV = Value.none) ∨ ∃ (T : Addr) (o : Obj) (m : Nat), dV = .ref T ∧ K.lookup T = some o ∧ o.data = .seq its.toArray m) := by
    rcases hD with ⟨e1, e2⟩ | ⟨_, T, o, its, m, e2, lT, oT, rT⟩
    · subst e1; exact ⟨[], .nil, .inl ⟨rfl, e2⟩⟩
    · exact ⟨its, rT, .inr ⟨T, o, m, e2, lT, oT⟩⟩
  have lkv : kvs.length = fd.kdf.length := ((rK il H).length).symm
  obtain ⟨kus, vK, hkd⟩ : ∃ kus : List Value, Vals kvs kus ∧ ((kus = [] ∧ ps2 = []) ∨ ∃ D : Addr, kV = .ref D ∧ (ps2.zip kus).map (·.1) = ps2 ∧ ∀ q ∈ ps2.zip kus, PySem.W.nsIn K D q.1 = some (some q.2)) := by
    rcases hKw with e1 | ⟨D, e1, e2⟩
    · have : kvs = [] ∧ ps2 = [] := by
        cases kvs with
        | nil =>
          cases ps2 with
          | nil => exact ⟨rfl, rfl⟩
          | cons a b => simp at l2 lkv; omega
        | cons a b =>
          cases ps2 with
          | nil => simp at l2 lkv; omega
          | cons c d => cases e1
      obtain ⟨rfl, rfl⟩ := this
      exact ⟨[], .nil, .inl ⟨rfl, rfl⟩⟩
    · obtain ⟨kus, hl, r, a⟩ := kwd_vals (ms := ps2.zip kvs) e2
      have e3 : (ps2.zip kvs).map (·.1) = ps2 := by rw [List.map_fst_zip]; omega
      have e4 : (ps2.zip kvs).map (·.2) = kvs := by rw [List.map_snd_zip]; omega
      rw [e4] at r
      rw [e3] at a
      exact ⟨kus, r, .inr ⟨D, e1, by rw [List.map_fst_zip]; rw [← r.length]; omega, a⟩⟩
  have lit : its.length = fd.pdf.length := by rw [← vI.length, (rD il H).length]
  have common : ∀ ds, bindFrom (bindOne fd usD kwD) 0 (fd.npos + fd.kdf.length) = some ds → _ := fun ds h => bind_vals nd l1 l2 r1 rv rk (rD il H) vI (rK il H) vK hp h
  -- the binder's conditions
  have cond1 : ∀ p ∈ kw, p.1 ∈ ps1 ∨ p.1 ∈ ps2 := fun p hp' => by
    obtain ⟨q', _, e⟩ := rk.mem p hp'
    exact List.mem_append.mp (List.mem_of_getElem? e)
  have cond2 : (kw.map (·.1)).Nodup := rk.nodup nd kn
  have cond3 : ∀ p ∈ kw, (ps1.zip us).lookup p.1 = none := fun p hp' => by
    obtain ⟨q', hq', e⟩ := rk.mem p hp'
    obtain ⟨k1, k2⟩ := kall q' hq'
    by_cases hi : q'.1 < ps1.length
    · rw [List.getElem?_append_left hi] at e
      rw [lookup_zip (List.nodup_append.mp nd).1 e]
      refine List.getElem?_eq_none_iff.mpr ?_
      rw [← rv.length, ← r1.length]
      omega
    · rw [List.getElem?_append_right (by omega)] at e
      exact lookup_zip_none fun z => (List.nodup_append.mp nd).2.2 _ z _ (List.mem_of_getElem? e) rfl
  -- the body, from the parameters' values
  have bodyRun : ∀ (s2 : Shared) (H2 : Hp) (vs : List V) (il2 : Lay), Ext il H il2 H2 → WR G il2 H2 h → Reps G il2 H2 ds vs → Room (5 * n + 4) (A.deeper (envOfC qual scope s2.heap.objs.size f cdv)) →
      ∃ t, PSs (cxOf (L2.CX Pr w) Pr w K mg base N qual scope f cdv A outer s2 H2 E) body t ∧ t { nx := fun _ H' => Q .non H', rt := Q } (L2.start N vs) H2 := fun s2 H2 vs il2 e2 w2 rs hr2 => by
    refine ⟨_, hbody A outer s2 H2 E hr2, il2, h, ds.map some ++ List.replicate (fd.ns - ds.length) none, w2, ?_, ?_⟩
    · refine ⟨?_, fun i d hd => ?_⟩
      · unfold L2.start
        rw [hns, rs.length]
        simp [rs.length]
      · by_cases hi : i < ds.length
        · rw [List.getElem?_append_left (by simpa using hi), List.getElem?_map] at hd
          cases z : ds[i]? with
          | none => rw [z] at hd; cases hd
          | some d' =>
            rw [z] at hd; cases hd
            obtain ⟨v, h1, h2⟩ := rs.get z
            refine ⟨v, ?_, h2⟩
            unfold L2.start
            rw [List.getElem?_append_left (by rw [List.length_map, ← rs.length]; exact hi), List.getElem?_map, h1]
            rfl
        · rw [List.getElem?_append_right (by simpa using hi), List.getElem?_replicate] at hd
          split at hd <;> cases hd
    · cases o : exSs (callN P n) fd.body (ds.map some ++ List.replicate (fd.ns - ds.length) none) h with
      | stuck => rw [o] at q; exact q.elim
      | exc x r4 h4 =>
        rw [o] at q
        exact fun cls a s4 il4 H4 e4 w4 er4 rx => q cls a ⟨il.st, il.ex⟩ H4 (e2.trans e4).cut (wr.cut w4 (e2.trans e4)) (rx.cut (e2.trans e4))
      | ok fl r4 h4 =>
        rw [o] at q
        cases fl with
        | nx => exact fun s4 il4 H4 e4 w4 er4 => finish_ok wr w4 (e2.trans e4) .non q
        | rt d => exact fun v4 il4 H4 e4 w4 r4 => finish_ok wr w4 (e2.trans e4) r4 q
        | bk => exact q.elim
        | ct => exact q.elim
  have lim0 := e0.mod.nolimit
  cases hva : va with
  | none =>
    subst hva
    have hs : fd.star = false := by rw [hst]; rfl
    rw [hs] at eb
    simp only [Bool.false_eq_true, if_false] at eb
    split at eb
    case isFalse => cases eb
    case isTrue hle =>
    obtain ⟨⟨us', vs, en, ev, er, el⟩, hmiss⟩ := common ds eb
    have S' : FnScope N (ps1 ++ ps2) scope := by simpa using S
    refine StX.run_bnd (G := fun xs H2 => xs = vs ∧ H2 = H) lk hcd S' (show Room ((5 * n + 4) + 1) A from hr) e0 (fun A' Ex Q' hQ => ?_) (fun s2 H2 xs ⟨e1, e2⟩ hr2 => by subst e1 e2; exact bodyRun s2 _ _ il .refl wr er hr2)
    have z := hQ s H vs us' e0 Un.refl rfl (fun _ _ c => c) ev (by rw [ev.length, el]) ⟨rfl, rfl⟩
    rw [← en] at z
    refine bind_ok (K := K) (its := its) (kds := ps2.zip kus) KX B hdef (by omega) ?_ cond1 cond2 cond3 (.inl (by rw [← rv.length, ← r1.length, l1]; exact hle)) hmiss (List.nodup_append.mp nd).2.1 (fun _ => z) (fun v e => nomatch e)
    rcases hkd with ⟨e1, e2⟩ | ⟨D, e1, e2, e3⟩
    · subst e1 e2; exact .inl ⟨rfl, fun _ m => nomatch m⟩
    · exact .inr ⟨D, e1, e2, e3⟩
  | some pv =>
    subst hva
    have hs : fd.star = true := by rw [hst]; rfl
    rw [hs] at eb
    simp only [if_true] at eb
    split at eb
    case h_2 => cases eb
    case h_1 ds0 eb0 =>
    split at eb
    case isFalse => cases eb
    case isTrue hcc =>
    cases eb
    obtain ⟨nl, hz⟩ := mk_cond hcc
    obtain ⟨⟨us', vs, en, ev, er, el⟩, hmiss⟩ := common ds0 eb0
    have S' : FnScope N ((ps1 ++ ps2) ++ [pv]) scope := by simpa using S
    have hn : H s.heap.objs.size = Option.none := e0.hok.fresh (Nat.le_refl _)
    have rd : Reps G il H (usD.drop fd.npos) (uv.drop fd.npos) := r1.drop _
    have vd : Vals (uv.drop fd.npos) (us.drop fd.npos) := rv.drop _
    refine StX.run_bnd (G := fun xs H2 => ∃ p, H p = Option.none ∧ xs = vs ++ [V.ref p] ∧ H2 = upd H p (.tup (uv.drop fd.npos))) lk hcd S' (show Room ((5 * n + 4) + 1) A from hr) e0 (fun A' Ex Q' hQ => ?_) (fun s2 H2 xs ⟨p, hp', ex, eH⟩ hr2 => ?_)
    · refine bind_ok (K := K) (its := its) (kds := ps2.zip kus) KX B hdef (by omega) ?_ cond1 cond2 cond3 (.inr (by simp)) hmiss (List.nodup_append.mp nd).2.1 (fun e => nomatch e) (fun v e => ?_)
      · rcases hkd with ⟨e1, e2⟩ | ⟨D, e1, e2, e3⟩
        · subst e1 e2; exact .inl ⟨rfl, fun _ m => nomatch m⟩
        · exact .inr ⟨D, e1, e2, e3⟩
      · cases e
        have lz : (us.drop ps1.length).length ≤ sizeLine := by rw [l1, ← vd.length, ← rd.length]; exact hz
        refine wpAny_newTuple ?_ lz
        have new : ObjOk Pr w (upd H s.heap.objs.size (.tup (uv.drop fd.npos))) (s.heap.push ({ cls := .type "tuple", data := .seq (us.drop ps1.length).toArray } : Obj)) s.heap.objs.size (.tup (uv.drop fd.npos)) :=
          ⟨by rw [← rd.length]; exact hz, us.drop ps1.length, by rw [l1]; exact vd, ⟨_, Heap.get?_push_size _ rfl, rfl, _, rfl⟩⟩
        have un := StX.un_laid (fs := frs outer) (s := s) (o := ({ cls := .type "tuple", data := .seq (us.drop ps1.length).toArray } : Obj)) (u := .tup (uv.drop fd.npos)) hn
        have z := hQ _ _ (vs ++ [V.ref s.heap.objs.size]) (us' ++ [Value.ref s.heap.objs.size]) (StX.env0_laid e0 new) un rfl (fun e s' => StX.cxUp outer s H _ _ E e s' un (fun b o q => Heap.get?_push_of_some _ q) rfl) (ev.append (.cons rfl .nil))
          (by rw [List.length_append, List.length_append, ev.length, el]; rfl) ⟨_, hn, rfl, rfl⟩
        rw [List.zip_append el.symm, ← en] at z
        exact z
    · subst ex eH
      obtain ⟨e, w', r'⟩ := Rep.newT wr hp' nl rd
      exact bodyRun s2 _ _ il e w' ((er.ext e).append (.cons r' .nil)) hr2
end
end GY

namespace GY
open PySem PySem.Spec PyProof.Rows L2

section
variable {X : Cx} {G : Sg} {W : WX} {a b c : Expr} {va vb vc : Env1 → Hs → Out D} {vs ks : Env1 → Hs → Out (List D)} {pos p : Pos} {es : List Expr} {kws : List Keyword}
theorem k_nil : PK X [] (tL G W fun _ h => .ok [] h) := ⟨fun pos pins s σ H Q I ⟨il, h, r, w, er, q⟩ => pk_nil.run pos pins s σ H Q I (q [] il H .refl w .nil)⟩
theorem k_cons {nm : Option Str} {kpos : Pos} (ha : PE X a (tV G W va)) (hr : PK X kws (tL G W ks)) : PK X (⟨nm, a, kpos⟩ :: kws) (tL G W fun r h => (va r h).bind fun d h1 => (ks r h1).bind fun ds h2 => .ok (d :: ds) h2) := by
  refine ⟨fun pos pins s σ H Q I ⟨il, h, r, w, er, q⟩ => (pk_cons ha hr).run pos pins s σ H Q I ?_⟩
  refine ⟨il, h, r, w, er, after_imp (afterL.bind q) fun x H1 ⟨il1, h1, dx, e1, w1, r1, q1⟩ => ?_⟩
  refine ⟨il1, h1, r, w1, er.ext e1, after_impL (afterL.bindL q1) fun xs H2 ⟨il2, h2, ds, e2, w2, r2, q2⟩ => ?_⟩
  exact q2 _ il2 H2 .refl w2 (.cons (r1.ext e2) r2)
def noStars (es : List Expr) : Bool := es.all fun e => !isStar e
theorem stars_none {env : Env} {pos : Pos} : ∀ {es : List Expr}, noStars es = true → (backTo pos (starEach es env)).any (·.1) = false
  | [], _ => rfl
  | e :: es, h => by
    unfold noStars at h
    rw [List.all_cons, Bool.and_eq_true] at h
    rw [starEach_plain (by simpa using h.1)]
    show (false || (backTo pos (starEach es env)).any (·.1)) = false
    rw [stars_none h.2]
    rfl
/-- the keywords' names -/
def kwNames : List Keyword → Option (List Str)
  | [] => some []
  | k :: ks => match k.arg, kwNames ks with
    | some n, some ns => some (n :: ns)
    | _, _ => none
theorem kw_names {env : Env} {pos : Pos} : ∀ {kws : List Keyword} {ns : List Str}, kwNames kws = some ns → (backToKw pos (keywordEach kws env)).all (·.1.isSome) = true ∧ (backToKw pos (keywordEach kws env)).filterMap (·.1) = ns ∧ (backToKw pos (keywordEach kws env)).any (·.1.isNone) = false
  | [], _, h => by cases h; exact ⟨rfl, rfl, rfl⟩
  | k :: ks, ns, h => by
    obtain ⟨nm, e, kp⟩ := k
    simp only [kwNames] at h
    cases nm with
    | none => cases h
    | some n =>
    cases e2 : kwNames ks with
    | none => rw [e2] at h; cases h
    | some ns' =>
      rw [e2] at h
      cases h
      obtain ⟨h1, h2, h3⟩ := kw_names (env := env) (pos := pos) e2
      refine ⟨?_, ?_, ?_⟩
      · show (true && (backToKw pos (keywordEach ks env)).all (·.1.isSome)) = true
        rw [h1]; rfl
      · show (n :: (backToKw pos (keywordEach ks env)).filterMap (·.1)) = _
        rw [h2]
      · show (false || (backToKw pos (keywordEach ks env)).any (·.1.isNone)) = false
        rw [h3]; rfl
/-- keywords by place and by name, of values in step -/
theorem kwR_of {il : Lay} {H : Hp} {ps : List Str} : ∀ {kis : List Nat} {ns : List Str} {ds : List D} {zs : List V} {ws : List Value}, Paired (fun (i : Nat) (n : Str) => ps[i]? = some n) kis ns → Reps G il H ds zs → Vals zs ws → ds.length = kis.length → KwR G il H ps (kis.zip ds) (ns.zip ws)
  | _, _, _, _, _, .nil, _, _, _ => .nil
  | _, _, [], _, _, .cons h t, _, _, hl => by cases hl
  | _, _, _ :: _, _, _, .cons h t, .cons r rs, .cons v vs, hl => .cons h ⟨_, v, r⟩ (kwR_of t rs vs (Nat.succ.inj hl))
theorem run_fnI {k : Nat} {f : Addr} {ps : List Str} {ap : List D → List (Nat × D) → Hs → Out D} {pins : List (Addr × Obj)} {σ : L2.St} {H : Hp} {s : Shared} {Q : VK} {us : List Value} {kw : List (Str × Value)} {uv : List V} {il : Lay} {h : Hs} {usD : List D} {kwD : List (Nat × D)}
    (F : FnI X.prog X.w X.K X.mg X.base G k f ps ap) (hr : Room (5 * k) X.A) (tk : Takes X W) (I : Inv X pins σ H s) (rv : Vals uv us) (w : WR G il H h) (r1 : Reps G il H usD uv) (rk : KwR G il H ps kwD kw) (q : after G (ap usD kwD h) il H Q (fun c a H' => W c a σ H')) :
    wpAny (model X.prog X.w) X.A (call (.ref f) us kw) (EP X pins σ Q) X.xe s := by
  refine wpAny_call (codeAny_mono (F.run X.A X.stack s H us kw uv il h usD kwD Q _ hr I.env0 rv w r1 rk q) fun r s' hq => ?_)
  cases r with
  | error e => exact tk e s' (XE.of_call I (fun cls d H' h => h) hq)
  | ok fl =>
    cases fl with
    | ret u => exact I.after hq
    | next => exact False.elim hq
    | brk => exact False.elim hq
    | cont => exact False.elim hq
/-- the keywords, then the call -/
theorem kw_call {k : Nat} {f : Addr} {ps : List Str} {ap : List D → List (Nat × D) → Hs → Out D} {kis : List Nat} {ns : List Str} (F : FnI X.prog X.w X.K X.mg X.base G k f ps ap) (hr : Room (5 * k) X.A) (tk : Takes X W)
    (hn : kwNames kws = some ns) (hp : Paired (fun (i : Nat) (n : Str) => ps[i]? = some n) kis ns) (hkw : PK X kws (tL G W ks)) (hlen : ∀ r h ds h', ks r h = .ok ds h' → ds.length = kis.length)
    {pins : List (Addr × Obj)} {σ : L2.St} {H : Hp} {s : Shared} {Q : VK} (I : Inv X pins σ H s) {us : List Value} {uv : List V} (rv : Vals uv us) {il : Lay} {h : Hs} {r : Env1} {ds : List D} (w : WR G il H h) (er : ER G il H r σ) (r1 : Reps G il H ds uv)
    (q : after G ((ks r h).bind fun vds h2 => ap ds (kis.zip vds) h2) il H Q (fun c a H' => W c a σ H')) :
    wpAny (model X.prog X.w) X.A (evalAll ((backToKw pos (keywordEach kws X.env)).map (·.2)))
      (fun ws s2 => X.K.In s2.heap ∧ wpAny (model X.prog X.w) X.A (call (.ref f) ([] ++ us) (((backToKw pos (keywordEach kws X.env)).filterMap (·.1)).zip ws)) (EP X pins σ Q) X.xe s2) X.xe s := by
  obtain ⟨n1, n2, n3⟩ := kw_names (env := X.env) (pos := pos) hn
  have q1' : afterL G (ks r h) il H (fun v H2 => ∃ il2 h2 vds, Ext il H il2 H2 ∧ WR G il2 H2 h2 ∧ Reps G il2 H2 vds v ∧ vds.length = kis.length ∧ after G (ap ds (kis.zip vds) h2) il2 H2 Q fun c a H' => W c a σ H') (fun c a H' => W c a σ H') := by
    have z := after.bindL q
    cases o : ks r h with
    | stuck => rw [o] at z; exact z
    | exc x y => rw [o] at z; exact z
    | ok vds h2 =>
      rw [o] at q
      exact fun v il2 H2 e2 w2 r2 => ⟨il2, h2, vds, e2, w2, r2, hlen _ _ _ _ o, after.mono e2 q⟩
  refine thn (hkw.run pos pins s σ H _ I ⟨il, h, r, w, er, q1'⟩) fun ws s2 ⟨zs, H2, I2, rz, il2, h2, vds, e2, w2, r2, hl2, q2⟩ => ⟨I2.kIn, ?_⟩
  rw [n2]
  exact run_fnI F hr tk I2 rv w2 (r1.ext e2) (kwR_of hp r2 rz hl2) q2
/-- f(e, .., k = e, ..) -/
theorem s_call {k : Nat} {f : Addr} {ps : List Str} {ap : List D → List (Nat × D) → Hs → Out D} {x : Str} {kis : List Nat} {ns : List Str} (F : FnI X.prog X.w X.K X.mg X.base G k f ps ap) (hr : Room (5 * k) X.A) (tk : Takes X W)
    (hg : Gl X x) (hm : X.mg x = some (.ref f)) (hk : PySem.W.keepIn X.K (.ref f) = true) (hdb : (x == ("__debug__" : Str)) = false) (hs : noStars (a :: es) = true) (hn : kwNames kws = some ns) (hp : Paired (fun (i : Nat) (n : Str) => ps[i]? = some n) kis ns)
    (ha : PA X (a :: es) (tL G W vs)) (hkw : PK X kws (tL G W ks)) (hlen : ∀ r h ds h', ks r h = .ok ds h' → ds.length = kis.length) :
    PE X (.Call (.Name x p) (a :: es) kws pos) (tV G W fun r h => (vs r h).bind fun ds h1 => (ks r h1).bind fun vds h2 => ap ds (kis.zip vds) h2) := by
  refine ⟨fun pins s σ H Q I ⟨il, h, r, w, er, q⟩ => ?_⟩
  obtain ⟨n1, n2, n3⟩ := kw_names (env := X.env) (pos := pos) hn
  refine wpAny_Call_Name_kw (ld_glob I hg hm ?_ hdb)
  have he : isStar a = false := by
    unfold noStars at hs
    rw [List.all_cons, Bool.and_eq_true] at hs
    simpa using hs.1
  refine PySem.W.callWith_KW (h₀ := X.base) I.ok.mod.kin hk n1 ?_ (by rw [stars_none hs, n3]; rfl) (starEach_plain he)
  refine thn (ha.run pos pins s σ H _ I ⟨il, h, r, w, er, after_impL (after.bindL q) fun v H z => z⟩) fun us s1 ⟨uv, H1, I1, rv, il1, h1, ds, e1, w1, r1, q1⟩ => ?_
  exact kw_call F hr tk hn hp hkw hlen I1 rv w1 (er.ext e1) r1 q1
theorem s_call0 {k : Nat} {f : Addr} {ps : List Str} {ap : List D → List (Nat × D) → Hs → Out D} {x : Str} {kis : List Nat} {ns : List Str} (F : FnI X.prog X.w X.K X.mg X.base G k f ps ap) (hr : Room (5 * k) X.A) (tk : Takes X W)
    (hg : Gl X x) (hm : X.mg x = some (.ref f)) (hk : PySem.W.keepIn X.K (.ref f) = true) (hdb : (x == ("__debug__" : Str)) = false) (hn : kwNames kws = some ns) (hp : Paired (fun (i : Nat) (n : Str) => ps[i]? = some n) kis ns)
    (hkw : PK X kws (tL G W ks)) (hlen : ∀ r h ds h', ks r h = .ok ds h' → ds.length = kis.length) :
    PE X (.Call (.Name x p) [] kws pos) (tV G W fun r h => (Out.ok [] h).bind fun ds h1 => (ks r h1).bind fun vds h2 => ap ds (kis.zip vds) h2) := by
  refine ⟨fun pins s σ H Q I ⟨il, h, r, w, er, q⟩ => ?_⟩
  obtain ⟨n1, n2, n3⟩ := kw_names (env := X.env) (pos := pos) hn
  refine wpAny_Call_Name_kw (ld_glob I hg hm ?_ hdb)
  refine PySem.W.callWith_KW0 (h₀ := X.base) I.ok.mod.kin hk n1 ?_ (by rw [n3, Bool.or_false]; rfl)
  exact kw_call (us := []) F hr tk hn hp hkw hlen I .nil w er .nil q

/-! ### built-ins by their names -/
theorem s_bltB {x : Str} {id : String} {f : List D → Hs → Out D} (hc : ∀ E, CallR X (.builtin id) (rC G f E)) (hg : Gl X x) (hm : X.mg x = none) (hv : bootBuiltins x = some (.builtin id)) (hn : x ≠ "__name__") (hdb : (x == ("__debug__" : Str)) = false)
    (hs : noStars (a :: es) = true) (ha : PA X (a :: es) (tL G W vs)) : PE X (.Call (.Name x p) (a :: es) [] pos) (tV G W fun r h => (vs r h).bind fun ds h1 => f ds h1) := by
  have hs' := hs
  unfold noStars at hs
  rw [List.all_cons, Bool.and_eq_true] at hs
  refine ⟨fun pins s σ H Q I ⟨il, h, r, w, er, q⟩ => (pe_callB (hc fun c a H' => W c a σ H') hg hm hv ha hn hdb (starEach_plain (by simpa using hs.1)) (stars_none hs.2)).run pins s σ H Q I ?_⟩
  exact ⟨il, h, r, w, er, after_impL (after.bindL q) fun v H1 ⟨il1, h1, ds, e1, w1, r1, q1⟩ => ⟨il1, h1, ds, w1, r1, q1⟩⟩
theorem s_bltT {x : Str} {id : String} {f : List D → Hs → Out D} (hc : ∀ E, CallR X (.type id) (rC G f E)) (hg : Gl X x) (hm : X.mg x = none) (hv : bootBuiltins x = some (.type id)) (hn : x ≠ "__name__") (hdb : (x == ("__debug__" : Str)) = false)
    (hs : noStars (a :: es) = true) (ha : PA X (a :: es) (tL G W vs)) : PE X (.Call (.Name x p) (a :: es) [] pos) (tV G W fun r h => (vs r h).bind fun ds h1 => f ds h1) := by
  have hs' := hs
  unfold noStars at hs
  rw [List.all_cons, Bool.and_eq_true] at hs
  refine ⟨fun pins s σ H Q I ⟨il, h, r, w, er, q⟩ => (pe_callTy (hc fun c a H' => W c a σ H') hg hm hv ha hn hdb (starEach_plain (by simpa using hs.1)) (stars_none hs.2)).run pins s σ H Q I ?_⟩
  exact ⟨il, h, r, w, er, after_impL (after.bindL q) fun v H1 ⟨il1, h1, ds, e1, w1, r1, q1⟩ => ⟨il1, h1, ds, w1, r1, q1⟩⟩
/-- isinstance(e, T) -/
theorem boot_ty : ∀ t ∈ tyTests, bootBuiltins (Str.ofString t) = some (.type t) ∧ Str.ofString t ≠ ("__name__" : Str) ∧ (Str.ofString t == ("__debug__" : Str)) = false := by
  intro t ht
  simp only [tyTests, List.mem_cons, List.not_mem_nil, or_false] at ht
  rcases ht with rfl | rfl | rfl | rfl | rfl <;> exact ⟨by decide +kernel, by decide +kernel, by decide +kernel⟩
theorem isT_one {v : Env1 → Hs → Out D} {ty : String} {p1 p2 : Pos} (hK : X.K = G.K) (ht : ty ∈ tyTests) (hg : Gl X "isinstance") (hm : X.mg "isinstance" = none) (hg2 : Gl X (Str.ofString ty)) (hm2 : X.mg (Str.ofString ty) = none) (hs : isStar a = false) (ha : PE X a (tV G W v)) :
    PE X (.Call (.Name "isinstance" p1) [a, .Name (Str.ofString ty) p2] [] pos) (tV G W fun r h => (v r h).bind fun d h1 => bltD (.isT [ty]) [d] h1) := by
  obtain ⟨b1, b2, b3⟩ := boot_ty ty ht
  refine ⟨fun pins s σ H Q I ⟨il, h, r, w, er, q⟩ => (pe_callB call_isi hg hm boot_isinstance (pa_cons ha (pa_cons (pe_bltn (v := .ty ty) hg2 hm2 b1 rfl b2 b3) pa_nil rfl) (starEach_plain hs)) (by decide) (by decide) (starEach_plain hs) rfl).run pins s σ H Q I ?_⟩
  refine ⟨il, h, r, w, er, after_imp (after.bind q) fun x H1 ⟨il1, h1, d, e1, w1, r1, q1⟩ => ?_⟩
  simp only [bltD] at q1
  split at q1
  · rename_i t et
    refine ⟨x, .ty ty, .type t, .type ty, isTy t [ty], rfl, .ty ty, hK ▸ r1.ty w1 et, ?_, q1 _ il1 H1 .refl w1 (.bl _)⟩
    exact kit_one X.K (tyName_mem et) ht
  · exact q1.elim
theorem pa_tys {tys : List String} (h : ∀ t ∈ tys, t ∈ tyTests ∧ Gl X (Str.ofString t) ∧ X.mg (Str.ofString t) = none) : ∀ {es : List Expr}, Paired (fun (t : String) (e : Expr) => ∃ p, e = .Name (Str.ofString t) p) tys es → PA X es (fun _ H Q => Q (tys.map V.ty) H) := by
  induction tys with
  | nil => intro es z; cases z; exact pa_nil
  | cons t ts ih =>
    intro es z
    cases z with
    | cons z1 z2 =>
      obtain ⟨p, rfl⟩ := z1
      obtain ⟨h1, h2, h3⟩ := h t (List.mem_cons_self ..)
      obtain ⟨b1, b2, b3⟩ := boot_ty t h1
      exact pa_cons (pe_bltn (v := .ty t) h2 h3 b1 rfl b2 b3) (ih (fun x hx => h x (List.mem_cons_of_mem _ hx)) z2) rfl
theorem clsVs : ∀ tys : List String, Paired ClsV (tys.map V.ty) (tys.map Value.type)
  | [] => .nil
  | t :: ts => .cons (.ty t) (clsVs ts)
theorem isT_many {v : Env1 → Hs → Out D} {tys : List String} {p1 p2 : Pos} {k : Nat} {es : List Expr} (hK : X.K = G.K) (hl : tys.length ≤ 10) (ht : ∀ t ∈ tys, t ∈ tyTests ∧ Gl X (Str.ofString t) ∧ X.mg (Str.ofString t) = none) (hg : Gl X "isinstance") (hm : X.mg "isinstance" = none)
    (hp : Paired (fun (t : String) (e : Expr) => ∃ p, e = .Name (Str.ofString t) p) tys es) (hs : isStar a = false) (ha : PE X a (tV G W v)) :
    PE X (.Call (.Name "isinstance" p1) [a, .Tuple es k p2] [] pos) (tV G W fun r h => (v r h).bind fun d h1 => bltD (.isT tys) [d] h1) := by
  refine ⟨fun pins s σ H Q I ⟨il, h, r, w, er, q⟩ => (pe_callB call_isiT hg hm boot_isinstance (pa_cons ha (pa_cons (pe_tup (pa_tys ht hp)) pa_nil rfl) (starEach_plain hs)) (by decide) (by decide) (starEach_plain hs) rfl).run pins s σ H Q I ?_⟩
  refine ⟨il, h, r, w, er, after_imp (after.bind q) fun x H1 ⟨il1, h1, d, e1, w1, r1, q1⟩ => ?_⟩
  simp only [bltD] at q1
  split at q1
  · rename_i t et
    refine ⟨by rw [List.length_map]; exact Nat.le_trans hl (by decide), fun tp htp => ?_⟩
    have e2 := w1.ext1 (o := .tup (tys.map V.ty)) htp
    have w2 := w1.fresh (o := .tup (tys.map V.ty)) htp
    refine ⟨x, tp, tys.map V.ty, .type t, tys.map Value.type, isTy t tys, rfl, upd_same, ?_, hK ▸ (r1.ext e2).ty w2 et, kit_any X.K (tyName_mem et) fun b hb => (ht b hb).1, q1 _ il1 _ e2 w2 (.bl _)⟩
    exact clsVs tys
  · exact q1.elim
/-- x.bit_length() -/
theorem s_bitl {o : Expr} {vo : Env1 → Hs → Out D} {apos : Pos} (hsup : attributeBase o "bit_length" X.env (eval o X.env) = eval o X.env) (hline : (apos.endLine == pos.line) = true) (ho : PE X o (tV G W vo)) :
    PE X (.Call (.Attribute o "bit_length" apos) [] [] pos) (tV G W fun r h => (vo r h).bind fun x h1 => match x with | .int i => .ok (.int (Builtin.Int.intBits i : Nat)) h1 | _ => .stuck) := by
  refine ⟨fun pins s σ H Q I h => (pe_bits ho hsup hline).run pins s σ H Q I ?_⟩
  exact one (R := fun x H1 Q => ∃ i, x = .int i ∧ Q (.int (Builtin.Int.intBits i : Nat)) H1) (fun il H2 h2 x dx w r q => by
    cases dx <;> try exact q.elim
    exact ⟨_, r.int_inv, q _ il H2 .refl w (.int _)⟩) h
/-- xs.append(e), xs an object of the store -/
theorem s_app {o : Expr} {vo v : Env1 → Hs → Out D} {apos : Pos} (hK : X.K = G.K) (hsup : attributeBase o "append" X.env (eval o X.env) = eval o X.env) (hline : (apos.endLine == pos.line) = true) (hs : isStar a = false) (ho : PE X o (tV G W vo)) (ha : PE X a (tV G W v)) :
    PE X (.Call (.Attribute o "append" apos) [a] [] pos) (tV G W fun r h => (vo r h).bind fun x h1 => if lstLoc x h1 = true then (v r h1).bind fun y h2 => appD x y h2 else .stuck) := by
  have hfew : ((backTo pos (starEach [a] X.env)).all (fun x => !x.1) && (backToKw pos (keywordEach [] X.env)).all (fun x => x.1.isSome)
      && decide (([a] : List Expr).length + ([] : List Keyword).length + (if ([] : List Keyword).isEmpty then 0 else 1) < 30)) = true := by rw [starEach_plain hs]; rfl
  refine ⟨fun pins s σ H Q I h => (pe_bm PySem.F.plainAttrs_list PySem.F.slot_list_append PySem.F.type_list_append mt_append ho (pa_cons ha pa_nil (starEach_plain hs)) hsup hfew hline (starEach_plain hs) rfl).run pins s σ H Q I ?_⟩
  obtain ⟨il, h, r, w, er, q⟩ := h
  refine ⟨il, h, r, w, er, after_imp (after.bind q) fun x H1 ⟨il1, h1, dx, e1, w1, r1, q1⟩ => ?_⟩
  cases hl : lstLoc dx h1 with
  | false => rw [hl] at q1; exact q1.elim
  | true =>
    rw [hl] at q1
    cases r1 with
    | @loc n p hp =>
      obtain ⟨ds, hds⟩ : ∃ ds, h1[n]? = some (.lst ds) := by
        simp only [lstLoc] at hl
        split at hl
        · rename_i ds e; exact ⟨ds, e⟩
        · cases hl
      obtain ⟨xs, hx, rx, nx⟩ := w1.ob n p _ hp hds
      refine ⟨.inl ⟨rfl, xs, SqL.of hx⟩, ?_⟩
      refine ⟨il1, h1, r, w1, er.ext e1, after_imp (after.bind q1) fun y H2 ⟨il2, h2, dy, e2, w2, r2, q2⟩ => ?_⟩
      show rAppend (.ref p) [y] H2 Q
      simp only [appD] at q2
      split at q2
      · rename_i ds2 e
        split at q2
        · rename_i c
          rw [Bool.and_eq_true, decide_eq_true_eq] at c
          obtain ⟨xs2, hx2, rx2, nx2⟩ := w2.ob n p _ (e2.at_ hp) e
          have nl : noLoc (ds2 ++ [dy]) = true := by
            unfold noLoc at nx2 ⊢
            rw [List.all_append, nx2, Bool.true_and, List.all_cons, c.1]; rfl
          obtain ⟨w3, e3⟩ := w2.put (e2.at_ hp) (rx2.snoc r2) nl
          exact ⟨p, xs2, y, rfl, rfl, hx2, by rw [← rx2.length]; exact c.2, q2 _ il2 _ e3 w3 .non⟩
        · exact q2.elim
      · exact q2.elim
    | _ => cases hl
end
end GY

namespace PySem.W
open PySem PyProof.Rows
section
variable {prog : Program} {w : World} {A : Around} {E : Value → Shared → Prop} {s : Shared} {K : Frag} {x C L f : Addr} {h₀ : Heap} {m : Str → Option Value} {ox : Obj} {od : Option Obj}
theorem gy_sub_int : isSubtype (.type "int") (.ref C) = pure false := by rw [isSubtype_type]; rfl
/-- o * n, o an instance with an own __mul__, n an int -/
theorem gy_mul_K {i : Int} {t : Tok} {Q : Value → Shared → Prop} (F : Fr h₀ L s.heap m) (X₀ : K.In h₀) (I : InstAt s.heap x ox C od) (hc : selfFirst K C = true)
    (hs : findIn K (.ref C) (PySem.dunder "mul") = some (some (.ref f))) (hr : findIn K (.ref C) (dunderR "mul") = some none) (hf : isFn K (.ref f) = true)
    (h : wpAny (model prog w) A (call (.ref f) [.ref x, .int i t]) (CmpBack Q) E s) : wpAny (model prog w) A (binaryOp .Mult (.ref x) (.int i t)) Q E s := by
  have X := X₀.keeps F.keep
  obtain ⟨cd, hcd, hm⟩ := any_some hc
  obtain ⟨rest, hm⟩ : ∃ rest, cd.mro = .ref C :: rest := by
    cases q : cd.mro with
    | nil => rw [q] at hm; cases hm
    | cons a r => rw [q] at hm; exact ⟨r, by rw [List.head?_cons] at hm; cases (beq_iff_eq.mp hm); rfl⟩
  unfold binaryOp
  refine wpAny_holding (wpAny_bind ?_)
  unfold binaryOp1
  have hti : (typeOf (.int i t) : Sem Value) = pure (.type "int") := rfl
  have hnp : Looks (model prog w) s.heap (numberSlotInPython (.ref C) "mul") true := by
    unfold numberSlotInPython
    refine Looks.andThen (looks_findIn X hs) ?_
    refine Looks.andThen .now ?_
    refine Looks.andThen (looks_findIn X hr) ?_
    refine Looks.andThen .now ?_
    exact .now
  refine wpAny_bind (I.type.here ?_)
  rw [hti]
  refine wpAny_bind (wpAny_pure (wpAny_bind ((fills_K X hcd hm hs).here ?_)))
  have hne : ((Value.ref C) == Value.type "int") = false := rfl
  rw [hne, show fillsNumberSlot (.type "int") "mul" = pure true from PySem.F.fills_int_mul]
  simp only [Bool.false_eq_true, if_false]
  refine wpAny_bind (wpAny_pure ?_)
  simp only [Bool.true_and, if_true, Bool.and_self]
  rw [gy_sub_int]
  refine wpAny_bind (wpAny_pure ?_)
  simp only [Bool.false_eq_true, if_false, Bool.not_false, if_true]
  refine wpAny_bind (hnp.here ?_)
  simp only [if_true]
  rw [show numberSlotInPython (.type "int") "mul" = pure false from rfl]
  refine wpAny_bind (wpAny_pure ?_)
  simp only [Bool.not_false, if_true]
  rw [PySem.F.slot_int_rmul.lookup]
  refine wpAny_bind (wpAny_pure ?_)
  refine wpAny_bind (m := tryMethod (.ref x) _ _) ?_
  unfold tryMethod
  refine wpAny_bind (special_fn X I hs (beq_iff_eq.mp hf) (wpAny_mono h (fun v s' hv => ?_) fun _ _ e => e))
  cases v <;> first | exact hv.elim | exact wpAny_pure (wpAny_pure (wpAny_pure hv))
end
end PySem.W

namespace GY
open PySem PySem.Spec PyProof.Rows L2 PySem.W
open L2 (Inv)
section
variable {G : Sg} {il : Lay} {H : Hp} {h : Hs}
theorem Rep.insOf {d : D} {v : V} {c : Nat} {fs : List (Nat × D)} (w : WR G il H h) (r : Rep G il H d v) (e : fldsOf d h = some (c, fs)) :
    ∃ a dx gs, v = .ref a ∧ G.ok c = true ∧ H a = some (.ins (G.cls c) dx gs) ∧ gs.map (·.1) = fs.map (fun p => G.fld p.1) ∧ Reps G il H (fs.map (·.2)) (gs.map (·.2)) := by
  cases r with
  | ins hk h1 h2 m1 m2 nl e3 rs =>
    simp only [fldsOf, Option.some.injEq, Prod.mk.injEq] at e
    obtain ⟨rfl, rfl⟩ := e
    exact ⟨_, _, _, rfl, hk, h1, e3, rs⟩
  | @loc n a hn =>
    simp only [fldsOf] at e
    split at e
    · rename_i c' fs' q
      cases e
      obtain ⟨hk, dx, gs, e1, e2, n1, n2, e3, rs⟩ := w.ob n a _ hn q
      exact ⟨a, dx, gs, rfl, hk, e1, e3, rs⟩
    · cases e
  | _ => cases e
theorem lookup_some {f : Nat} {d : D} (inj : ∀ i j, G.fld i = G.fld j → i = j) : ∀ {fs : List (Nat × D)} {gs : List (Str × V)}, gs.map (·.1) = fs.map (fun p => G.fld p.1) → Reps G il H (fs.map (·.2)) (gs.map (·.2)) → fs.lookup f = some d → ∃ v, gs.lookup (G.fld f) = some v ∧ Rep G il H d v
  | [], _, _, _, e => by cases e
  | _ :: _, [], e1, _, _ => by cases e1
  | p :: fs, q :: gs, e1, r, e => by
    simp only [List.map_cons, List.cons.injEq] at e1
    cases r with
    | cons r1 r2 =>
      rw [List.lookup_cons] at e ⊢
      by_cases hp : f = p.1
      · subst hp
        rw [e1.1]
        simp only [beq_self_eq_true] at e ⊢
        cases e
        exact ⟨_, rfl, r1⟩
      · have b1 : (f == p.1) = false := by simpa using hp
        have b2 : (G.fld f == q.1) = false := by rw [e1.1]; simpa using fun z => hp (inj _ _ z)
        rw [b1] at e
        rw [b2]
        exact lookup_some inj e1.2 r2 e
theorem lookup_none {f : Nat} (inj : ∀ i j, G.fld i = G.fld j → i = j) : ∀ {fs : List (Nat × D)} {gs : List (Str × V)}, gs.map (·.1) = fs.map (fun p => G.fld p.1) → fs.lookup f = none → gs.lookup (G.fld f) = none
  | [], [], _, _ => rfl
  | [], _ :: _, e1, _ => by cases e1
  | _ :: _, [], e1, _ => by cases e1
  | p :: fs, q :: gs, e1, e => by
    simp only [List.map_cons, List.cons.injEq] at e1
    rw [List.lookup_cons] at e ⊢
    by_cases hp : f = p.1
    · subst hp
      simp only [beq_self_eq_true] at e
      cases e
    · have b1 : (f == p.1) = false := by simpa using hp
      have b2 : (G.fld f == q.1) = false := by rw [e1.1]; simpa using fun z => hp (inj _ _ z)
      rw [b1] at e
      rw [b2]
      exact lookup_none inj e1.2 e
end

/-- a class of the text -/
structure CIn (K : PySem.W.Frag) (C : Addr) : Prop where
  cls : Cls K C
  self : PySem.W.selfFirst K C = true
/-- a def under a name of a class: it stands there and keeps its evaluator, or it is not asked -/
structure MthI (Pr : Program) (w : World) (K : PySem.W.Frag) (mg : Str → Option Value) (base : Heap) (G : Sg) (k : Nat) (C : Addr) (m : Str) (ps : List Str) (ap : List D → List (Nat × D) → Hs → Out D) : Prop where
  ex : (∀ us kw h, ap us kw h = .stuck) ∨ ∃ f, Meth K C m f ∧ PySem.W.fnIn K f = true ∧ FnI Pr w K mg base G k f ps ap
structure PrpI (Pr : Program) (w : World) (K : PySem.W.Frag) (mg : Str → Option Value) (base : Heap) (G : Sg) (k : Nat) (C : Addr) (m : Str) (ap : List D → List (Nat × D) → Hs → Out D) : Prop where
  ex : (∀ us kw h, ap us kw h = .stuck) ∨ ∃ p f ps, PropOf K C m p f ∧ FnI Pr w K mg base G k f ps ap

section
variable {X : Cx} {G : Sg} {W : WX} {a b c : Expr} {va vb vc : Env1 → Hs → Out D} {vs ks : Env1 → Hs → Out (List D)} {pos p : Pos} {es : List Expr} {kws : List Keyword}
/-- a def is called at A, below the running body -/
theorem run_fnA {A : Around} {k : Nat} {f : Addr} {ps : List Str} {ap : List D → List (Nat × D) → Hs → Out D} {pins : List (Addr × Obj)} {σ : L2.St} {H : Hp} {s : Shared} {Q : VK} {us : List Value} {kw : List (Str × Value)} {uv : List V} {il : Lay} {h : Hs} {usD : List D} {kwD : List (Nat × D)}
    (F : FnI X.prog X.w X.K X.mg X.base G k f ps ap) (sb : Sub X (5 * k) A) (tk : Takes X W) (I : Inv X pins σ H s) (rv : Vals uv us) (w : WR G il H h) (r1 : Reps G il H usD uv) (rk : KwR G il H ps kwD kw) (q : after G (ap usD kwD h) il H Q (fun c a H' => W c a σ H')) :
    wpAny (model X.prog X.w) A (call (.ref f) us kw) (EP X pins σ Q) X.xe s := by
  have e0 : Env0 X.prog X.w X.K X.mg X.base A X.stack s H := by
    have e := I.env0
    exact ⟨by rw [sb.fr]; exact e.frames, e.mod, e.bs, e.bsz, e.funs, e.frf, e.hok, e.bare⟩
  refine wpAny_call (codeAny_mono (F.run A X.stack s H us kw uv il h usD kwD Q _ sb.room e0 rv w r1 rk q) fun r s' hq => ?_)
  cases r with
  | error e => exact tk e s' (XE.of_call I (fun cls d H' h => h) hq)
  | ok fl =>
    cases fl with
    | ret u => exact I.after hq
    | next => exact False.elim hq
    | brk => exact False.elim hq
    | cont => exact False.elim hq
/-- o.f, a field -/
theorem s_attr {o : Expr} {vo : Env1 → Hs → Out D} {f : Nat} (inj : ∀ i j, G.fld i = G.fld j → i = j) (hc : ∀ c, G.ok c = true → Cls X.K (G.cls c) ∧ NoAttr X.K (G.cls c) (G.fld f)) (hb : attributeBase o (G.fld f) X.env (eval o X.env) = eval o X.env) (ho : PE X o (tV G W vo)) :
    PE X (.Attribute o (G.fld f) pos) (tV G W fun r h => (vo r h).bind fun x h1 => attrD x f h1) := by
  refine ⟨fun pins s σ H Q I h => (pe_fld ho hb).run pins s σ H Q I ?_⟩
  refine one (R := fun x H1 Q => ∃ a C dx fs v, x = .ref a ∧ H1 a = some (.ins C dx fs) ∧ Cls X.K C ∧ NoAttr X.K C (G.fld f) ∧ fs.lookup (G.fld f) = some v ∧ Q v H1) (fun il H2 h2 x dx w r q => ?_) h
  unfold attrD at q
  split at q
  · rename_i c fs e
    split at q
    · rename_i d e2
      obtain ⟨a, dx, gs, rfl, hk, e1, e3, rs⟩ := r.insOf w e
      obtain ⟨v, l, rv⟩ := lookup_some inj e3 rs e2
      exact ⟨a, _, dx, gs, v, rfl, e1, (hc c hk).1, (hc c hk).2, l, q v il H2 .refl w rv⟩
    · exact q.elim
  · exact q.elim
/-- o.f = e -/
theorem length_putFd (f : Nat) (d : D) : ∀ fs : List (Nat × D), (putFd f d fs).length ≤ fs.length + 1
  | [] => by simp [putFd]
  | p :: r => by
    unfold putFd
    split
    · simp
    · have := length_putFd f d r
      simp; omega
theorem putF_rep {G : Sg} {il : Lay} {H : Hp} (inj : ∀ i j, G.fld i = G.fld j → i = j) {f : Nat} {d : D} {v : V} (rv : Rep G il H d v) : ∀ {fs : List (Nat × D)} {gs : List (Str × V)}, gs.map (·.1) = fs.map (fun p => G.fld p.1) → Reps G il H (fs.map (·.2)) (gs.map (·.2)) →
    (putF (G.fld f) v gs).map (·.1) = (putFd f d fs).map (fun p => G.fld p.1) ∧ Reps G il H ((putFd f d fs).map (·.2)) ((putF (G.fld f) v gs).map (·.2))
  | [], [], _, _ => ⟨rfl, .cons rv .nil⟩
  | [], _ :: _, e, _ => by cases e
  | _ :: _, [], e, _ => by cases e
  | p :: fs, q :: gs, e, r => by
    simp only [List.map_cons, List.cons.injEq] at e
    cases r with
    | cons r1 r2 =>
      unfold putF putFd
      by_cases hp : p.1 = f
      · have : q.1 = G.fld f := by rw [e.1, hp]
        rw [if_pos hp, if_pos this]
        exact ⟨by simp [e.2, this], .cons rv r2⟩
      · have : ¬ q.1 = G.fld f := by rw [e.1]; exact fun z => hp (inj _ _ z)
        rw [if_neg hp, if_neg this]
        obtain ⟨i1, i2⟩ := putF_rep inj rv e.2 r2
        exact ⟨by simp [e.1, i1], .cons r1 i2⟩
theorem noLoc_putFd {f : Nat} {d : D} (hd : isLoc d = false) : ∀ {fs : List (Nat × D)}, noLoc (fs.map (·.2)) = true → noLoc ((putFd f d fs).map (·.2)) = true
  | [], _ => by simp [putFd, noLoc, hd]
  | p :: r, n => by
    simp only [List.map_cons, noLoc, List.all_cons, Bool.and_eq_true] at n
    unfold putFd
    split
    · simp only [List.map_cons, noLoc, List.all_cons, hd, Bool.not_false, Bool.true_and]; exact n.2
    · simp only [List.map_cons, noLoc, List.all_cons, Bool.and_eq_true]; exact ⟨n.1, noLoc_putFd hd n.2⟩
end
section
variable {G : Sg} {il il1 : Lay} {H H1 : Hp} {h h1 : Hs}
/-- an instance of the store is changed -/
theorem WR.putI (w : WR G il H h) {n : Nat} {a dx : Addr} {c : Nat} {fs : List (Nat × D)} {gs : List (Str × V)} (ha : il.st[n]? = some a) (hk : G.ok c = true) (hd : H dx = some (.own a)) (od : il.off dx) (e3 : gs.map (·.1) = fs.map (fun p => G.fld p.1)) (r : Reps G il H (fs.map (·.2)) (gs.map (·.2))) (nl : noLoc (fs.map (·.2)) = true) :
    WR G il (upd H a (.ins (G.cls c) dx gs)) (h.set n (.ins c fs)) ∧ Ext il H il (upd H a (.ins (G.cls c) dx gs)) := by
  have hm : a ∈ il.st := List.mem_of_getElem? ha
  have nx : a ∉ il.ex := fun z => w.dis a z hm
  obtain ⟨o0, ho0, t1, t2⟩ := w.kind ha
  have e : Ext il H il (upd H a (.ins (G.cls c) dx gs)) := ⟨List.prefix_refl _, fun _ m => m, fun b u q nb _ => by
      rw [upd_ne]; exact q
      rintro rfl
      exact nb.1 hm, fun _ m => .inl m, fun b m u q => by
      rw [upd_ne]; exact q
      rintro rfl
      exact nx m⟩
  refine ⟨⟨by simp [w.len], w.nd, fun m b o h1 h2 => ?_, fun b m => ?_, w.dis, tabs_upd w.tab ho0 t1 t2⟩, e⟩
  · by_cases hmn : m = n
    · subst hmn
      rw [ha] at h1; cases h1
      have hl : m < h.length := by rw [← w.len]; exact (List.getElem?_eq_some_iff.mp ha).1
      rw [List.getElem?_set_self hl] at h2
      cases h2
      exact ⟨hk, dx, gs, upd_same, e.keep _ _ hd od, od, nl, e3, r.ext e⟩
    · rw [List.getElem?_set_ne (Ne.symm hmn)] at h2
      refine (w.ob m b o h1 h2).ext e fun u q => ?_
      rw [upd_ne]; exact q
      rintro rfl
      obtain ⟨l1, e1⟩ := List.getElem?_eq_some_iff.mp ha
      obtain ⟨l2, e2⟩ := List.getElem?_eq_some_iff.mp h1
      exact hmn ((List.getElem_inj w.nd).mp (e2.trans e1.symm))
  · obtain ⟨u, q⟩ := w.trk b m
    exact ⟨u, e.kex b m _ q⟩
/-- a new instance of the store -/
theorem WR.pushI (w : WR G il H h) {x dx : Addr} {c : Nat} (hx : H x = none) (hdx : H dx = none) (ne : dx ≠ x) (hk : G.ok c = true) :
    WR G (il.push x) (upd (upd H dx (.own x)) x (.ins (G.cls c) dx [])) (h ++ [.ins c []]) ∧ Ext il H (il.push x) (upd (upd H dx (.own x)) x (.ins (G.cls c) dx [])) ∧ (il.push x).off dx := by
  have kp : ∀ a u, H a = some u → upd (upd H dx (.own x)) x (.ins (G.cls c) dx []) a = some u := fun a u q => by rw [upd_ne (ne_of_none q hx), upd_ne (ne_of_none q hdx)]; exact q
  have e : Ext il H (il.push x) (upd (upd H dx (.own x)) x (.ins (G.cls c) dx [])) := ⟨List.prefix_append _ _, fun _ m => m, fun a u e _ _ => kp a u e, fun a m => by
    by_cases ha : a = x
    · exact .inr fun o q => by rw [ha, hx] at q; cases q
    · exact .inl fun z => m ⟨fun y => (List.mem_append.mp y).elim z.1 (fun y => ha (by simpa using y)), z.2⟩, fun a m u e => kp a u e⟩
  have od : (il.push x).off dx := ⟨fun y => (List.mem_append.mp y).elim (w.notin hdx).1 (fun y => ne (by simpa using y)), (w.notin hdx).2⟩
  refine ⟨⟨by simp [Lay.push, w.len], ?_, fun n a o h1 h2 => ?_, fun a m => ?_, fun a m z => ?_, w.tab.ext fun b o e => kp b o e⟩, e, od⟩
  · show (il.st ++ [x]).Nodup
    rw [List.nodup_append]
    refine ⟨w.nd, by simp, fun a ha b hb => ?_⟩
    have : b = x := by simpa using hb
    subst this
    rintro rfl
    exact (w.notin hx).1 ha
  · have h1 : (il.st ++ [x])[n]? = some a := h1
    by_cases hl : n < il.st.length
    · rw [List.getElem?_append_left hl] at h1
      rw [List.getElem?_append_left (by rw [← w.len]; exact hl)] at h2
      exact (w.ob n a o h1 h2).ext e fun u q => kp a u q
    · have hn' : n = il.st.length := by
        have := (List.getElem?_eq_some_iff.mp h1).1
        simp at this
        omega
      subst hn'
      rw [List.getElem?_append_right (Nat.le_refl _)] at h1
      rw [List.getElem?_append_right (by rw [w.len]; exact Nat.le_refl _), w.len] at h2
      simp at h1 h2
      subst h1; subst h2
      exact ⟨hk, dx, [], upd_same, by rw [upd_ne ne, upd_same], od, rfl, rfl, .nil⟩
  · obtain ⟨u, q⟩ := w.trk a m
    exact ⟨u, kp a _ q⟩
  · rcases List.mem_append.mp z with z | z
    · exact w.dis a m z
    · have : a = x := by simpa using z
      subst this
      exact (w.notin hx).2 m
end
section
variable {X : Cx} {G : Sg} {W : WX} {a b c : Expr} {va vb vc : Env1 → Hs → Out D} {vs ks : Env1 → Hs → Out (List D)} {pos p : Pos} {es : List Expr} {kws : List Keyword}
/-- what stands behind o.f = d -/
theorem setf_ok {il : Lay} {H : Hp} {h h3 : Hs} {x y : V} {dx d : D} {f : Nat} (inj : ∀ i j, G.fld i = G.fld j → i = j) (w : WR G il H h) (rx : Rep G il H dx x) (ry : Rep G il H d y) (e : setfD dx f d h = .ok () h3) :
    ∃ a c dx' gs, x = .ref a ∧ G.ok c = true ∧ H a = some (.ins (G.cls c) dx' gs) ∧ gs.length < 1000 ∧ WR G il (upd H a (.ins (G.cls c) dx' (putF (G.fld f) y gs))) h3 ∧ Ext il H il (upd H a (.ins (G.cls c) dx' (putF (G.fld f) y gs))) := by
  unfold setfD at e
  split at e
  case h_2 => cases e
  rename_i n
  split at e
  case h_2 => cases e
  rename_i c fs q
  split at e
  case isFalse => cases e
  rename_i cc
  rw [Bool.and_eq_true, Bool.not_eq_true', decide_eq_true_eq] at cc
  cases e
  cases rx with
  | @loc _ a hn =>
    obtain ⟨hk, dx', gs, e1, e2, n1, n2, e3, rs⟩ := w.ob n a _ hn q
    obtain ⟨i1, i2⟩ := putF_rep inj ry e3 rs
    obtain ⟨w3, x3⟩ := w.putI (c := c) hn hk e2 n1 i1 i2 (noLoc_putFd cc.1 n2)
    have hl : gs.length = fs.length := by have := congrArg List.length e3; simpa using this
    exact ⟨a, c, dx', gs, rfl, hk, e1, by omega, w3, x3⟩
end
end GY

namespace GY
open PySem PySem.Spec PyProof.Rows L2 PySem.W
open L2 (Inv)
def fewB (es : List Expr) (kws : List Keyword) : Bool := decide (es.length + kws.length + (if kws.isEmpty then 0 else 1) < 30)
theorem backTo_stars {env : Env} {pos : Pos} : ∀ {es : List Expr}, noStars es = true → (backTo pos (starEach es env)).all (fun x => !x.1) = true := fun {es} h => by
  have := stars_none (env := env) (pos := pos) h
  rw [List.all_eq_not_any_not]
  simpa using this
theorem backToKw_all {env : Env} {pos : Pos} {kws : List Keyword} {ns : List Str} (h : kwNames kws = some ns) : (backToKw pos (keywordEach kws env)).all (·.1.isSome) = true := (kw_names (env := env) (pos := pos) h).1
theorem backToKw_emp {env : Env} {pos : Pos} : ∀ {kws : List Keyword}, (backToKw pos (keywordEach kws env)).isEmpty = kws.isEmpty := fun {kws} => by
  cases kws with
  | nil => rfl
  | cons k r => cases k; unfold keywordEach backToKw; rfl
theorem form_ok {env : Env} {pos : Pos} {es : List Expr} {kws : List Keyword} {ns : List Str} (hs : noStars es = true) (hn : kwNames kws = some ns) (hf : fewB es kws = true) :
    methodCallForm (es.length + kws.length) (backTo pos (starEach es env)) (backToKw pos (keywordEach kws env)) = true := by
  unfold methodCallForm
  rw [backTo_stars hs, backToKw_all hn, backToKw_emp]
  simpa [fewB] using hf
theorem meth_of {prog : Program} {w : World} {A : Around} {env : Env} {o : Expr} {m : Str} {apos pos : Pos} {es : List Expr} {kws : List Keyword} {ns : List Str} {s : Shared} {Q : Value → Shared → Prop} {E : Value → Shared → Prop} (hb : attributeBase o m env (eval o env) = eval o env) (hl : (apos.endLine == pos.line) = true)
    (hs : noStars es = true) (hn : kwNames kws = some ns) (hf : fewB es kws = true)
    (h : wpAny (model prog w) A (eval o env) (fun ov s₁ => wpAny (model prog w) A (getMethod ov m (do return (← importBound o env).getD true)) (fun fx s₂ => wpAny (model prog w) A (callWith pos fx.1 fx.2 (backTo pos (starEach es env)) (backToKw pos (keywordEach kws env))) Q E s₂) E s₁) E s) :
    wpAny (model prog w) A (eval (.Call (.Attribute o m apos) es kws pos) env) Q E s := by
  rw [arm_eval_Call, hb]
  refine wpAny_bind (wpAny_mono h (fun ov s₁ h₁ => ?_) fun _ _ e => e)
  refine wpAny_bind (wpAny_standAt ?_)
  unfold methodCall
  have hpos : methodCallPos true o env apos pos = pure pos := by unfold methodCallPos; simp [hl]
  rw [form_ok hs hn hf, hpos]
  refine wpAny_bind (wpAny_holding ?_)
  unfold calleeOf
  rw [if_pos rfl]
  refine wpAny_mono h₁ (fun fx s₂ h₂ => ?_) fun _ _ e => e
  obtain ⟨f, first⟩ := fx
  exact wpAny_bind (wpAny_pure h₂)
section
variable {X : Cx} {G : Sg} {W : WX} {a b c : Expr} {va vb vc : Env1 → Hs → Out D} {vs ks : Env1 → Hs → Out (List D)} {pos p : Pos} {es : List Expr} {kws : List Keyword}
theorem sub_self {k j : Nat} (hr : Room k X.A) (h : j ≤ k) : Sub X j X.A := ⟨hr.mono h, rfl⟩
/-- the keywords, then the call, other values ahead -/
theorem kw_callF {k : Nat} {f : Addr} {ps : List Str} {ap : List D → List (Nat × D) → Hs → Out D} {kis : List Nat} {ns : List Str} {first : List Value} {fv : List V} {fD : List D} (F : FnI X.prog X.w X.K X.mg X.base G k f ps ap) (hr : Room (5 * k) X.A) (tk : Takes X W)
    (hn : kwNames kws = some ns) (hp : Paired (fun (i : Nat) (n : Str) => ps[i]? = some n) kis ns) (hkw : PK X kws (tL G W ks)) (hlen : ∀ r h ds h', ks r h = .ok ds h' → ds.length = kis.length)
    {pins : List (Addr × Obj)} {σ : L2.St} {H : Hp} {s : Shared} {Q : VK} (I : Inv X pins σ H s) {us : List Value} {uv : List V} (rf : Vals fv first) (rv : Vals uv us) {il : Lay} {h : Hs} {r : Env1} {ds : List D} (w : WR G il H h) (er : ER G il H r σ) (r0 : Reps G il H fD fv) (r1 : Reps G il H ds uv)
    (q : after G ((ks r h).bind fun vds h2 => ap (fD ++ ds) (kis.zip vds) h2) il H Q (fun c a H' => W c a σ H')) :
    wpAny (model X.prog X.w) X.A (evalAll ((backToKw pos (keywordEach kws X.env)).map (·.2)))
      (fun ws s2 => X.K.In s2.heap ∧ wpAny (model X.prog X.w) X.A (call (.ref f) (first ++ us) (((backToKw pos (keywordEach kws X.env)).filterMap (·.1)).zip ws)) (EP X pins σ Q) X.xe s2) X.xe s := by
  obtain ⟨n1, n2, n3⟩ := kw_names (env := X.env) (pos := pos) hn
  have q1' : afterL G (ks r h) il H (fun v H2 => ∃ il2 h2 vds, Ext il H il2 H2 ∧ WR G il2 H2 h2 ∧ Reps G il2 H2 vds v ∧ vds.length = kis.length ∧ after G (ap (fD ++ ds) (kis.zip vds) h2) il2 H2 Q fun c a H' => W c a σ H') (fun c a H' => W c a σ H') := by
    have z := after.bindL q
    cases o : ks r h with
    | stuck => rw [o] at z; exact z
    | exc x y => rw [o] at z; exact z
    | ok vds h2 =>
      rw [o] at q
      exact fun v il2 H2 e2 w2 r2 => ⟨il2, h2, vds, e2, w2, r2, hlen _ _ _ _ o, after.mono e2 q⟩
  refine thn (hkw.run pos pins s σ H _ I ⟨il, h, r, w, er, q1'⟩) fun ws s2 ⟨zs, H2, I2, rz, il2, h2, vds, e2, w2, r2, hl2, q2⟩ => ⟨I2.kIn, ?_⟩
  rw [n2]
  exact run_fnI F hr tk I2 (rf.append rv) w2 ((r0.ext e2).append (r1.ext e2)) (kwR_of hp r2 rz hl2) q2
/-- the arguments, the keywords, then the call, other values ahead -/
theorem args_call {k : Nat} {f : Addr} {ps : List Str} {ap : List D → List (Nat × D) → Hs → Out D} {kis : List Nat} {ns : List Str} {first : List Value} {fv : List V} {fD : List D} (F : FnI X.prog X.w X.K X.mg X.base G k f ps ap) (hkp : PySem.W.keepIn X.K (.ref f) = true) (hr : Room (5 * k) X.A) (tk : Takes X W)
    (hs : noStars es = true) (hn : kwNames kws = some ns) (hp : Paired (fun (i : Nat) (n : Str) => ps[i]? = some n) kis ns) (ha : PA X es (tL G W vs)) (hvs : es = [] → ∀ r h, vs r h = .ok [] h) (hkw : PK X kws (tL G W ks)) (hlen : ∀ r h ds h', ks r h = .ok ds h' → ds.length = kis.length)
    {pins : List (Addr × Obj)} {σ : L2.St} {H : Hp} {s : Shared} {Q : VK} (I : Inv X pins σ H s) (rf : Vals fv first) {il : Lay} {h : Hs} {r : Env1} (w : WR G il H h) (er : ER G il H r σ) (r0 : Reps G il H fD fv)
    (q : after G ((vs r h).bind fun ds h1 => (ks r h1).bind fun vds h2 => ap (fD ++ ds) (kis.zip vds) h2) il H Q (fun c a H' => W c a σ H')) :
    wpAny (model X.prog X.w) X.A (callWith pos (.ref f) first (backTo pos (starEach es X.env)) (backToKw pos (keywordEach kws X.env))) (EP X pins σ Q) X.xe s := by
  obtain ⟨n1, n2, n3⟩ := kw_names (env := X.env) (pos := pos) hn
  cases es with
  | nil =>
    refine PySem.W.callWith_KW0 (h₀ := X.base) I.ok.mod.kin hkp n1 ?_ (by rw [n3, Bool.or_false]; rfl)
    rw [hvs rfl] at q
    exact kw_callF (us := []) F hr tk hn hp hkw hlen I rf .nil w er r0 .nil q
  | cons a es =>
    have he : isStar a = false := by
      unfold noStars at hs
      rw [List.all_cons, Bool.and_eq_true] at hs
      simpa using hs.1
    refine PySem.W.callWith_KW (h₀ := X.base) I.ok.mod.kin hkp n1 ?_ (by rw [stars_none hs, n3]; rfl) (starEach_plain he)
    refine thn (ha.run pos pins s σ H _ I ⟨il, h, r, w, er, after_impL (after.bindL q) fun v H z => z⟩) fun us s1 ⟨uv, H1, I1, rv, il1, h1, ds, e1, w1, r1, q1⟩ => ?_
    exact kw_callF F hr tk hn hp hkw hlen I1 rf rv w1 (er.ext e1) (r0.ext e1) r1 q1
/-- o.m(e, .., k = e, ..) -/
theorem s_meth {k : Nat} {o : Expr} {vo : Env1 → Hs → Out D} {m : Nat} {cs : List Nat} {apos : Pos} {F : Fns} {kis : List Nat} {ns : List Str} (inj : ∀ i j, G.fld i = G.fld j → i = j) (hr : Room (5 * k) X.A) (tk : Takes X W)
    (hc : ∀ c, G.ok c = true → Cls X.K (G.cls c)) (hm : ∀ c ∈ cs, ∃ f ps, Meth X.K (G.cls c) (G.fld m) f ∧ FnI X.prog X.w X.K X.mg X.base G k f ps (F (mid c m)) ∧ Paired (fun (i : Nat) (n : Str) => ps[i]? = some n) kis ns)
    (hb : attributeBase o (G.fld m) X.env (eval o X.env) = eval o X.env) (hl : (apos.endLine == pos.line) = true) (hs : noStars es = true) (hn : kwNames kws = some ns) (hf : fewB es kws = true)
    (ho : PE X o (tV G W vo)) (ha : PA X es (tL G W vs)) (hvs : es = [] → ∀ r h, vs r h = .ok [] h) (hkw : PK X kws (tL G W ks)) (hlen : ∀ r h ds h', ks r h = .ok ds h' → ds.length = kis.length) :
    PE X (.Call (.Attribute o (G.fld m) apos) es kws pos) (tV G W fun r h => (vo r h).bind fun x h1 => methD m cs x (fun c => (vs r h1).bind fun ds h2 => (ks r h2).bind fun vds h3 => F (mid c m) (x :: ds) (kis.zip vds) h3) h1) := by
  refine ⟨fun pins s σ H Q I ⟨il, h, r, w, er, q⟩ => ?_⟩
  refine meth_of hb hl hs hn hf (thn (ho.run pins s σ H _ I ⟨il, h, r, w, er, after_imp (after.bind q) fun x H1 z => z⟩) fun u s1 ⟨x, H1, I1, rx, il1, h1, d, e1, w1, r1, q1⟩ => ?_)
  unfold methD at q1
  split at q1
  case h_2 => exact q1.elim
  rename_i c fs ef
  split at q1
  case isFalse => exact q1.elim
  rename_i hcc
  rw [Bool.and_eq_true] at hcc
  obtain ⟨a, dx, gs, rfl, hk, ea, e3, rs⟩ := r1.insOf w1 ef
  obtain rfl : u = Value.ref a := rx
  obtain ⟨f, ps, M, FI, hp⟩ := hm c (by simpa using hcc.1)
  have l : gs.lookup (G.fld m) = none := lookup_none inj e3 (by simpa using hcc.2)
  refine getmeth_ok I1 ea (hc c hk) M l ?_
  exact args_call (first := [.ref a]) (fv := [.ref a]) (fD := [d]) FI M.kp hr tk hs hn hp ha hvs hkw hlen I1 (.cons rfl .nil) w1 (er.ext e1) (.cons r1 .nil) q1
/-- o.f, a property -/
theorem s_prop {k : Nat} {o : Expr} {vo : Env1 → Hs → Out D} {f : Nat} {F : Fns} (hr : Room (5 * k + 1) X.A) (tk : Takes X W) (hc : ∀ c, G.ok c = true → Cls X.K (G.cls c))
    (hp : ∀ c, G.ok c = true → (∀ us kw h, F (mid c f) us kw h = .stuck) ∨ ∃ p g ps, PropOf X.K (G.cls c) (G.fld f) p g ∧ FnI X.prog X.w X.K X.mg X.base G k g ps (F (mid c f)))
    (hb : attributeBase o (G.fld f) X.env (eval o X.env) = eval o X.env) (ho : PE X o (tV G W vo)) :
    PE X (.Attribute o (G.fld f) pos) (tV G W fun r h => (vo r h).bind fun x h1 => match clsOf x h1 with | some c => noX (F (mid c f) [x] [] h1) | none => .stuck) := by
  refine ⟨fun pins s σ H Q I ⟨il, h, r, w, er, q⟩ => ?_⟩
  refine attr_of hb (thn (ho.run pins s σ H _ I ⟨il, h, r, w, er, after_imp (after.bind q) fun x H1 z => z⟩) fun u s1 ⟨x, H1, I1, rx, il1, h1, d, e1, w1, r1, q1⟩ => ?_)
  split at q1
  case h_2 => exact q1.elim
  rename_i c ec
  unfold clsOf at ec
  rw [Option.map_eq_some_iff] at ec
  obtain ⟨⟨c', fs⟩, ef, rfl⟩ := ec
  obtain ⟨a, dx, gs, rfl, hk, ea, e3, rs⟩ := r1.insOf w1 ef
  obtain rfl : u = Value.ref a := rx
  rcases hp c' hk with hst | ⟨p, g, ps, PO, FI⟩
  · dsimp only at q1; rw [hst] at q1; exact q1.elim
  obtain ⟨mA, O, _, _, _, _⟩ := ins_get I1.hok ea
  obtain ⟨od, J, _⟩ := O.look
  obtain ⟨rest, hrec⟩ := PO.rec_
  have I2 := I1.tok (s1.toks + 1)
  have hcl : (PySem.W.clsIn X.K (G.cls c')).isSome = true := by
    obtain ⟨cd, hcd, _⟩ := PySem.W.any_some (hc c' hk).hd
    rw [hcd]; rfl
  refine PySem.W.get_bind I1.kIn J (PySem.W.plainGet_of ((hc c' hk).get (G.fld f))).1 (PySem.W.findObj_data hcl PO.at_ PO.get PO.tak) (PySem.W.plainGet_of ((hc c' hk).get (G.fld f))).2 (wpAny_call (PySem.W.prop_get (s := { s1 with toks := s1.toks + 1 }) I1.kIn hrec ?_))
  have q2 : after G (F (mid c' f) [d] [] h1) il1 H1 Q (fun _ _ _ => False) := by
    dsimp only at q1
    cases o : F (mid c' f) [d] [] h1 with
    | ok d2 h2 => rw [o] at q1; exact q1
    | stuck => rw [o] at q1; exact q1
    | exc x y => rw [o] at q1; exact q1.elim
  have e0 : Env0 X.prog X.w X.K X.mg X.base X.A.in1 X.stack { s1 with toks := s1.toks + 1 } H1 := by
    have e := I2.env0
    exact ⟨e.frames, e.mod, e.bs, e.bsz, e.funs, e.frf, e.hok, e.bare⟩
  refine codeAny_mono (FI.run X.A.in1 X.stack { s1 with toks := s1.toks + 1 } H1 [.ref a] [] [.ref a] il1 h1 [d] [] Q (fun _ _ _ => False) hr.in1 e0 (.cons rfl .nil) w1 (.cons r1 .nil) .nil q2) fun r s' hq => ?_
  cases r with
  | error er =>
    obtain ⟨_, _, _, _, _, _, _, _, _, _, _, _, z⟩ := hq
    exact z.elim
  | ok fl =>
    cases fl with
    | ret u =>
      obtain ⟨v, H', I3, rv, q3⟩ := I2.after hq
      show wpAny _ _ (handedOut u) _ _ _
      rw [PySem.W.handedOut_of (handed_of rv)]
      exact wpAny_pure ⟨v, H', I3, rv, q3⟩
    | next => exact False.elim hq
    | brk => exact False.elim hq
    | cont => exact False.elim hq
end
end GY

namespace PySem.W
open PySem PySem.Spec PySem.Calls PyProof.Rows
/-- a class right under object, its own __eq__, no __ne__ -/
def neIn (K : Frag) (C : Addr) : Bool := match K.lookup C with
  | some ⟨.type "type", _, .cls cd, sl⟩ => (match cd.mro, sl.toList, nsIn K cd.ns "__eq__" with
    | [.ref C', .type B], [_, _, _, _, some (.builtin _), _], some (some (.ref f)) => C' == C && B == "object" && !cd.hasDel && nsOkIn K cd.ns && He.eqO (nsIn K cd.ns "__ne__") (some none) && isFn K (.ref f) && He.eqO (findIn K (.ref C) "__eq__") (some (some (.ref f)))
    | _, _, _ => false)
  | _ => false
theorem ns_some_of {K : Frag} {h : Heap} {N : Addr} {mg : Str → Option Value} {n : Str} {v : Value} (X : K.In h) (G : h.Ns N mg) (e : nsIn K N n = some (some v)) : mg n = some v := by
  obtain ⟨o, es, ep, ho, hd, _, hf⟩ := G
  unfold nsIn at e
  split at e
  · rename_i c d es' n' sl q
    have := X _ _ q
    rw [ho] at this
    cases this
    cases hd
    split at e
    · rename_i e' he
      cases e
      rw [← hf]
      unfold nsFind findBy
      rw [← Array.find?_toList, he]
      rfl
    · split at e <;> cases e
  · cases e
theorem ownNe_of {K : Frag} {h : Heap} {C f x : Addr} {o : Obj} (X : K.In h) (e : neIn K C = true) (hs : findIn K (.ref C) "__eq__" = some (some (.ref f))) (ho : h.get? x = some o) (hc : o.cls = .ref C) : h.OwnEqNoNe x C f "object" [.type "object"] := by
  unfold neIn at e
  split at e
  · rename_i dd cd sl hC
    split at e
    · rename_i C' B k0 k1 k2 k3 n k5 g hm hs' hn
      simp only [Bool.and_eq_true, beq_iff_eq, Bool.not_eq_true'] at e
      obtain ⟨⟨⟨⟨⟨⟨rfl, rfl⟩, hdel⟩, hok⟩, hne⟩, hfn⟩, hfi⟩ := e
      have hfi := He.eqO_ok hfi
      rw [hs] at hfi
      cases hfi
      obtain ⟨nm, bs, mro, ns, qn, hd, sn, sub, ab, col, del⟩ := cd
      dsimp only at hm hdel hok hne hn
      subst hm hdel
      have hsl : sl = #[k0, k1, k2, k3, some (.builtin n), k5] := by
        obtain ⟨l⟩ := sl
        simp only at hs'
        rw [hs']
      subst hsl
      unfold isFn at hfn
      have hfn := beq_iff_eq.mp hfn
      obtain ⟨of, h1, h2⟩ := Option.map_eq_some_iff.mp (show (K.lookup f).map (·.cls) = some (.type "function") from hfn)
      have G : h.Ns ns (h.nsMap ns) := .of_isNs (isNs_of_in X hok)
      exact ⟨o, of, nm, qn, ns, bs, hd, sn, sub, ab, col, dd, k0, k1, k2, k3, k5, n, _, _, ho, hc, X _ _ hC, G, ns_some_of X G hn, X _ _ h1, h2, PySem.F.cmp_object.mro, PySem.F.cmp_object.eq.lookup, ns_none_of X G (He.eqO_ok hne)⟩
    · cases e
  · cases e
section
variable {prog : Program} {w : World} {A : Around} {E : Value → Shared → Prop} {s : Shared}
theorem gy_bool_new (x : Value) : MeetsIn prog w (Builtin.«bool.__new__» ⟨[.type "bool", x], []⟩) (fun A R s => wpAny (model prog w) A.in1 (truthy x) (fun b s' => R (.ok (.ret (.bool b))) s') (fun e s' => R (.error e) s') s) := by
  refine .of_wp fun A R s hs => ?_
  have f1 := PySem.F.conv_sub_bool
  unfold Builtin.«bool.__new__»
  repeat (any_goals (first | assumption | (refine wpAny_bind (m := truthy x) (wpAny_mono hs (fun b s' q => ?_) fun _ _ z => z)) | wp_step))
  all_goals first | exact ⟨_, rfl, q⟩ | skip
/-- bool(x) -/
theorem gy_call_bool {x : Value} {Q : Value → Shared → Prop} (h : wpAny (model prog w) A.in1.in1 (truthy x) (fun b s' => Q (.bool b) s') E s) : wpAny (model prog w) A (call (.type "bool") [x]) Q E s :=
  callType_newIn PySem.F.called_bool PySem.F.newNe_bool (PySem.F.typeCall_bool_1 x) (PySem.F.newCall_bool_1 x) (fun obj => PySem.F.args_object_init_2 obj x) PySem.F.entry_bool_new (gy_bool_new x)
    (wpAny_mono h (fun b s' q => ⟨by first | rfl | trivial | exact (by constructor), q⟩) fun _ _ z => z)
end
end PySem.W

namespace GY
open PySem PySem.Spec PyProof.Rows L2 PySem.W
open L2 (Inv)
section
variable {G : Sg} {il il1 : Lay} {H H1 : Hp} {h h1 : Hs}
/-- the end of a making -/
theorem demote_ok {fr : Bool} {Q : VK} {E : XK} {x : Addr} (w : WR G il H h) (w1 : WR G il1 H1 h1) (e : Ext il H il1 H1) (hx : H x = none) (hn : il1.st[h.length]? = some x) (q : after G (demote fr h.length h1) il H Q E) : Q (.ref x) H1 := by
  unfold demote at q
  split at q
  · exact q (.ref x) il1 H1 e w1 (.loc hn)
  · split at q
    · rename_i c fs eo
      split at q
      · rename_i hl
        obtain ⟨hk, dx, gs, e1, e2, n1, n2, e3, rs⟩ := w1.ob _ _ _ hn eo
        have off : il.off x := w.notin hx
        exact q (.ref x) il H1 e.cut (w.cut w1 e) (.ins hk e1 e2 off ⟨fun y => n1.1 (e.pre.subset y), fun y => n1.2 (e.sub _ y)⟩ n2 e3 (Reps.less (il := il1) (il1 := il) e.pre.length_le e.pre e.sub n2 rs))
      · exact q.elim
    · exact q.elim
end
section
variable {X : Cx} {G : Sg} {W : WX} {a b c : Expr} {va vb vc : Env1 → Hs → Out D} {vs ks : Env1 → Hs → Out (List D)} {pos p : Pos} {es : List Expr} {kws : List Keyword}
theorem run_new {k c : Nat} {fr : Bool} {f : Addr} {ps : List Str} {F : Fns} {pins : List (Addr × Obj)} {σ : L2.St} {H : Hp} {s : Shared} {Q : VK} {us : List Value} {kw : List (Str × Value)} {uv : List V} {il : Lay} {h : Hs} {usD : List D} {kwD : List (Nat × D)}
    (M : Mk X.K (G.cls c) f) (hk : G.ok c = true) (FI : FnI X.prog X.w X.K X.mg X.base G k f ps (F (mid c 0))) (hr : Room (5 * k + 1) X.A) (tk : Takes X W) (I : Inv X pins σ H s) (rv : Vals uv us) (w : WR G il H h) (r1 : Reps G il H usD uv) (rk : KwR G il H ps kwD kw)
    (q : after G (newD F c fr usD kwD h) il H Q (fun c a H' => W c a σ H')) : wpAny (model X.prog X.w) X.A (call (.ref (G.cls c)) us kw) (EP X pins σ Q) X.xe s := by
  have hx := I.hok.fresh (Nat.le_succ s.heap.objs.size)
  have hdx := I.hok.fresh (Nat.le_refl s.heap.objs.size)
  have ne : s.heap.objs.size ≠ s.heap.objs.size + 1 := Nat.ne_of_lt (Nat.lt_succ_self _)
  obtain ⟨w2, e2, _⟩ := w.pushI (c := c) hx hdx ne hk
  have I2 := Inv.made (C := G.cls c) I
  have hself : (il.push (s.heap.objs.size + 1)).st[h.length]? = some (s.heap.objs.size + 1) := by
    show (il.st ++ [s.heap.objs.size + 1])[h.length]? = _
    rw [← w.len, List.getElem?_append_right (Nat.le_refl _), Nat.sub_self]; rfl
  have kwx : ∀ {ps : List Str} {kd : List (Nat × D)} {kv : List (Str × Value)}, KwR G il H ps kd kv → KwR G (il.push (s.heap.objs.size + 1)) (upd (upd H s.heap.objs.size (.own (s.heap.objs.size + 1))) (s.heap.objs.size + 1) (.ins (G.cls c) s.heap.objs.size [])) ps kd kv := fun rk => by
    induction rk with
    | nil => exact .nil
    | cons h1 h2 _ ih => obtain ⟨v, a1, a2⟩ := h2; exact .cons h1 ⟨v, a1, a2.ext e2⟩ ih
  have q2 : after G (F (mid c 0) (.loc h.length :: usD) kwD (h ++ [.ins c []])) (il.push (s.heap.objs.size + 1)) (upd (upd H s.heap.objs.size (.own (s.heap.objs.size + 1))) (s.heap.objs.size + 1) (.ins (G.cls c) s.heap.objs.size []))
      (fun v H3 => v = .non ∧ Q (.ref (s.heap.objs.size + 1)) H3) (fun c a H' => W c a σ H') := by
    unfold newD at q
    cases o : F (mid c 0) (.loc h.length :: usD) kwD (h ++ [.ins c []]) with
    | stuck => rw [o] at q; exact q
    | exc x y =>
      rw [o] at q
      exact fun cls a il' H' e' w' rx => q cls a il' H' (e2.trans e') w' rx
    | ok d h3 =>
      rw [o] at q
      simp only [Out.bind_ok] at q
      intro v il' H' e' w' r'
      cases d <;> try exact q.elim
      exact ⟨r'.non_inv, demote_ok w w' (e2.trans e') hx (e'.at_ hself) q⟩
  refine wpAny_call (make_map (f := f) I.kIn M.makes M.init (beq_iff_eq.mp M.fn) (codeAny_mono (FI.run _ X.stack _ _ (Value.ref (s.heap.objs.size + 1) :: us) kw (V.ref (s.heap.objs.size + 1) :: uv) _ (h ++ [.ins c []]) (.loc h.length :: usD) kwD _ _ (hr.make (G.cls c) us kw)
    (I2.env0.make (G.cls c) us kw) (.cons rfl rv) w2 (.cons (.loc hself) (r1.ext e2)) (kwx rk) q2) fun r s' hq' => ?_))
  cases r with
  | error e => exact tk e s' (XE.of_call I2 (fun cls d H' h => h) hq')
  | ok fl =>
    cases fl with
    | ret u =>
      obtain ⟨v, H', I3, rv, ev, q3⟩ := I2.after hq'
      subst ev
      exact ⟨rv, ⟨V.ref (s.heap.objs.size + 1), H', I3, rfl, q3⟩⟩
    | next => exact False.elim hq'
    | brk => exact False.elim hq'
    | cont => exact False.elim hq'
/-- C(e, .., k = e, ..) -/
theorem s_new {k c : Nat} {fr : Bool} {f : Addr} {ps : List Str} {F : Fns} {x : Str} {kis : List Nat} {ns : List Str} (M : Mk X.K (G.cls c) f) (hk : G.ok c = true) (FI : FnI X.prog X.w X.K X.mg X.base G k f ps (F (mid c 0))) (hr : Room (5 * k + 1) X.A) (tk : Takes X W)
    (hg : Gl X x) (hm : X.mg x = some (.ref (G.cls c))) (hdb : (x == ("__debug__" : Str)) = false) (hs : noStars es = true) (hn : kwNames kws = some ns) (hp : Paired (fun (i : Nat) (n : Str) => ps[i]? = some n) kis ns)
    (ha : PA X es (tL G W vs)) (hvs : es = [] → ∀ r h, vs r h = .ok [] h) (hkw : PK X kws (tL G W ks)) (hlen : ∀ r h ds h', ks r h = .ok ds h' → ds.length = kis.length) :
    PE X (.Call (.Name x p) es kws pos) (tV G W fun r h => (vs r h).bind fun ds h1 => (ks r h1).bind fun vds h2 => newD F c fr ds (kis.zip vds) h2) := by
  refine ⟨fun pins s σ H Q I ⟨il, h, r, w, er, q⟩ => ?_⟩
  obtain ⟨n1, n2, n3⟩ := kw_names (env := X.env) (pos := pos) hn
  have fin : ∀ {s : Shared} {H : Hp} {il : Lay} {h : Hs} {us : List Value} {uv : List V} {ds : List D}, Inv X pins σ H s → Vals uv us → WR G il H h → ER G il H r σ → Reps G il H ds uv → after G ((ks r h).bind fun vds h2 => newD F c fr ds (kis.zip vds) h2) il H Q (fun c a H' => W c a σ H') →
      wpAny (model X.prog X.w) X.A (evalAll ((backToKw pos (keywordEach kws X.env)).map (·.2))) (fun ws s2 => X.K.In s2.heap ∧ wpAny (model X.prog X.w) X.A (call (.ref (G.cls c)) ([] ++ us) (((backToKw pos (keywordEach kws X.env)).filterMap (·.1)).zip ws)) (EP X pins σ Q) X.xe s2) X.xe s := fun {s H il h us uv ds} I rv w er r1 q => by
    have q1' : afterL G (ks r h) il H (fun v H2 => ∃ il2 h2 vds, Ext il H il2 H2 ∧ WR G il2 H2 h2 ∧ Reps G il2 H2 vds v ∧ vds.length = kis.length ∧ after G (newD F c fr ds (kis.zip vds) h2) il2 H2 Q fun c a H' => W c a σ H') (fun c a H' => W c a σ H') := by
      have z := after.bindL q
      cases o : ks r h with
      | stuck => rw [o] at z; exact z
      | exc x y => rw [o] at z; exact z
      | ok vds h2 =>
        rw [o] at q
        exact fun v il2 H2 e2 w2 r2 => ⟨il2, h2, vds, e2, w2, r2, hlen _ _ _ _ o, after.mono e2 q⟩
    refine thn (hkw.run pos pins s σ H _ I ⟨il, h, r, w, er, q1'⟩) fun ws s2 ⟨zs, H2, I2, rz, il2, h2, vds, e2, w2, r2, hl2, q2⟩ => ⟨I2.kIn, ?_⟩
    rw [n2]
    exact run_new M hk FI hr tk I2 rv w2 (r1.ext e2) (kwR_of hp r2 rz hl2) q2
  refine wpAny_Call_Name_kw (ld_glob I hg hm ?_ hdb)
  cases es with
  | nil =>
    refine PySem.W.callWith_KW0 (h₀ := X.base) I.ok.mod.kin M.kp n1 ?_ (by rw [n3, Bool.or_false]; rfl)
    dsimp only at q
    rw [hvs rfl] at q
    exact fin (us := []) I .nil w er .nil q
  | cons a es =>
    have he : isStar a = false := by
      unfold noStars at hs
      rw [List.all_cons, Bool.and_eq_true] at hs
      simpa using hs.1
    refine PySem.W.callWith_KW (h₀ := X.base) I.ok.mod.kin M.kp n1 ?_ (by rw [stars_none hs, n3]; rfl) (starEach_plain he)
    refine thn (ha.run pos pins s σ H _ I ⟨il, h, r, w, er, after_impL (after.bindL q) fun v H z => z⟩) fun us s1 ⟨uv, H1, I1, rv, il1, h1, ds, e1, w1, r1, q1⟩ => ?_
    exact fin I1 rv w1 (er.ext e1) r1 q1
def eqsOk (K : PySem.W.Frag) (C : Addr) : Prop := (∀ t ∈ tyNames, PySem.W.notFirst K C (.type t) = true) ∧ ∀ f, findIn K (.ref C) "__eq__" = some (some (.ref f)) → neIn K C = true
/-- what the operators of a class lean on -/
structure OpsI (X : Cx) (G : Sg) (k : Nat) (F : Fns) : Prop where
  cls : ∀ c, G.ok c = true → Cls X.K (G.cls c) ∧ selfFirst X.K (G.cls c) = true
  op : ∀ c, G.ok c = true → ∀ (i : Nat) (n : Str), spNames[i]? = some n → 0 < i → (∀ us kw h, F (mid c i) us kw h = .stuck) ∨ ∃ f ps, Meth X.K (G.cls c) n f ∧ PySem.W.fnIn X.K f = true ∧ FnI X.prog X.w X.K X.mg X.base G k f ps (F (mid c i))
  rmul : ∀ c, G.ok c = true → PySem.W.findIn X.K (.ref (G.cls c)) (dunderR "mul") = some none
  eqs : ∀ c, G.ok c = true → eqsOk X.K (G.cls c)
theorem cls_fld {d : D} {h : Hs} {c : Nat} (e : clsOf d h = some c) : ∃ fs, fldsOf d h = some (c, fs) := by
  unfold clsOf at e
  rw [Option.map_eq_some_iff] at e
  obtain ⟨⟨c', fs⟩, ef, rfl⟩ := e
  exact ⟨fs, ef⟩
theorem cmpBack_of {pins : List (Addr × Obj)} {σ : L2.St} {Q : VK} {v : Value} {s : Shared} (h : EP X pins σ Q v s) : PySem.W.CmpBack (EP X pins σ Q) v s := by
  cases v <;> first | exact h | skip
  obtain ⟨x, H, I, rx, q⟩ := h
  cases x <;> first | (obtain ⟨t, e⟩ := rx; cases e; done) | (cases rx; done)
/-- the class of what is told by a datum -/
theorem binF_ok {k : Nat} {F : Fns} {bop : Bop} {op : Operator} (O : OpsI X G k F) (hop : BopIs bop op) (hr : Room (5 * k) X.A) (tk : Takes X W) {pins : List (Addr × Obj)} {s : Shared} {σ : L2.St} {H : Hp} {x y : V} {v u : Value} {Q : VK} (I : Inv X pins σ H s) (hK : X.K = G.K) (rx : RelV x v) (ry : RelV y u)
    {il : Lay} {h : Hs} {dx dy : D} (w : WR G il H h) (r1 : Rep G il H dx x) (r2 : Rep G il H dy y) (q : after G (binF F bop dx dy h) il H Q (fun c a H' => W c a σ H')) :
    wpAny (model X.prog X.w) X.A (binaryOp op v u) (EP X pins σ Q) X.xe s := by
  unfold binF at q
  split at q
  case h_2 => exact bin_ok hop I hK rx ry w r1 r2 q
  rename_i c ec
  obtain ⟨fs, ef⟩ := cls_fld ec
  obtain ⟨a, dx', gs, rfl, hk, ea, e3, rs⟩ := r1.insOf w ef
  obtain rfl : v = Value.ref a := rx
  obtain ⟨mA, J, _⟩ := ins_get I.hok ea
  obtain ⟨od, J, _⟩ := J.look
  obtain ⟨m, hF⟩ := I.fr
  have go : ∀ (i : Nat) (n : Str), spNames[i]? = some n → 0 < i → after G (F (mid c i) [dx, dy] [] h) il H Q (fun c a H' => W c a σ H') → ∃ f, findIn X.K (.ref (G.cls c)) n = some (some (.ref f)) ∧ isFn X.K (.ref f) = true ∧
      wpAny (model X.prog X.w) X.A (call (.ref f) [.ref a, u]) (PySem.W.CmpBack (EP X pins σ Q)) X.xe s := fun i n hi h0 q => by
    rcases O.op c hk i n hi h0 with hst | ⟨f, ps, M, hfn, FI⟩
    · rw [hst] at q; exact q.elim
    · exact ⟨f, M.at_, M.fn, wpAny_mono (run_fnI FI hr tk I (uv := [.ref a, _]) (.cons (show RelV (V.ref a) (Value.ref a) from rfl) (.cons ry .nil)) w (.cons r1 (.cons r2 .nil)) .nil q) (fun v s' z => cmpBack_of z) fun _ _ z => z⟩
  have same : ∀ {n : Str} {f : Addr}, clsOf dy h = some c → findIn X.K (.ref (G.cls c)) (PySem.dunder op.info.2) = some (some (.ref f)) → isFn X.K (.ref f) = true → wpAny (model X.prog X.w) X.A (call (.ref f) [.ref a, u]) (PySem.W.CmpBack (EP X pins σ Q)) X.xe s → wpAny (model X.prog X.w) X.A (binaryOp op (.ref a) u) (EP X pins σ Q) X.xe s := fun {n f} ey hs hf hw => by
    obtain ⟨fs2, ef2⟩ := cls_fld ey
    obtain ⟨b, dy', gs2, rfl, hk2, eb, _, _⟩ := r2.insOf w ef2
    obtain rfl : u = Value.ref b := ry
    obtain ⟨mB, J2, _⟩ := ins_get I.hok eb
    obtain ⟨od2, J2, _⟩ := J2.look
    exact binop_K hF I.ok.mod.kin J J2.type (O.cls c hk).2 hs hf hw
  cases bop <;> cases hop <;> dsimp only at q <;> try exact q.elim
  · split at q
    · rename_i ey
      obtain ⟨f, h1, h2, h3⟩ := go 1 "__add__" rfl (by decide) q
      exact same (n := "__add__") ey (by rw [show PySem.dunder Operator.Add.info.2 = "__add__" from by decide +kernel]; exact h1) h2 h3
    · exact q.elim
  · split at q
    · rename_i ey
      obtain ⟨f, h1, h2, h3⟩ := go 2 "__sub__" rfl (by decide) q
      exact same (n := "__sub__") ey (by rw [show PySem.dunder Operator.Sub.info.2 = "__sub__" from by decide +kernel]; exact h1) h2 h3
    · exact q.elim
  · split at q
    · obtain ⟨f, h1, h2, h3⟩ := go 3 "__mul__" rfl (by decide) q
      cases r2.int_inv
      obtain ⟨t, rfl⟩ : ∃ t, u = Value.int _ t := ry
      exact gy_mul_K hF I.ok.mod.kin J (O.cls c hk).2 (by rw [show PySem.dunder "mul" = "__mul__" from by decide +kernel]; exact h1) (O.rmul c hk) h2 h3
    · exact q.elim
theorem negF_run {k : Nat} {F : Fns} (O : OpsI X G k F) (hr : Room (5 * k) X.A) (tk : Takes X W) (ha : PE X a (tV G W va)) : PE X (.UnaryOp .USub a pos) (tV G W fun r h => (va r h).bind fun x h1 => negF F x h1) := by
  refine ⟨fun pins s σ H Q I ⟨il, h, r, w, er, q⟩ => ?_⟩
  refine wpAny_UnaryOp (thn (ha.run pins s σ H _ I ⟨il, h, r, w, er, after_imp (after.bind q) fun x H1 z => z⟩) fun v s1 ⟨x, H1, I1, rx, il1, h1, dx, e1, w1, r1, q1⟩ => ?_)
  have ins : ∀ (c : Nat), clsOf dx h1 = some c → after G (F (mid c 4) [dx] [] h1) il1 H1 Q (fun c a H' => W c a σ H') → wpAny (model X.prog X.w) X.A (unaryOp .USub v) (EP X pins σ Q) X.xe s1 := fun c ec q2 => by
    obtain ⟨fs, ef⟩ := cls_fld ec
    obtain ⟨a, dx', gs, rfl, hk, ea, e3, rs⟩ := r1.insOf w1 ef
    obtain rfl : v = Value.ref a := rx
    obtain ⟨mA, J, _⟩ := ins_get I1.hok ea
    obtain ⟨od, J, _⟩ := J.look
    obtain ⟨m, hF⟩ := I1.fr
    rcases O.op c hk 4 "__neg__" rfl (by decide) with hst | ⟨f, ps, M, hfn, FI⟩
    · rw [hst] at q2; exact q2.elim
    · have hw := run_fnI FI hr tk I1 (us := [.ref a]) (uv := [.ref a]) (.cons rfl .nil) w1 (.cons r1 .nil) .nil q2
      unfold unaryOp
      refine wpAny_holding ?_
      dsimp only
      rw [if_neg (by decide)]
      exact wpAny_bind (special_fn I1.kIn J M.at_ (beq_iff_eq.mp M.fn) (wpAny_mono hw (fun v s' z => wpAny_pure z) fun _ _ z => z))
  cases dx with
  | int i =>
    cases r1.int_inv
    exact un_neg pins s1 σ H1 _ v Q I1 rx ⟨_, rfl, q1 _ il1 H1 .refl w1 (.int _)⟩
  | ins c fs => exact ins c rfl q1
  | loc n =>
    unfold negF at q1
    dsimp only at q1
    split at q1
    · rename_i c ec; exact ins c ec q1
    · exact q1.elim
  | _ => exact q1.elim
/-- isinstance(e, C) -/
theorem s_isI {o : Expr} {vo : Env1 → Hs → Out D} {cs : List Nat} {C : Addr} {x : Str} {p1 p2 : Pos} (hK : X.K = G.K) (hg : Gl X "isinstance") (hm : X.mg "isinstance" = none) (hg2 : Gl X x) (hm2 : X.mg x = some (.ref C)) (hdb : (x == ("__debug__" : Str)) = false)
    (hi : ∀ c, G.ok c = true → PySem.W.kitOne X.K (.ref (G.cls c)) (.ref C) = some (cs.contains c)) (hty : ∀ c, G.ok c = true → ∀ (H : Hp) (a dx : Addr) (fs : List (Str × V)), H a = some (.ins (G.cls c) dx fs) → TyX X.K H (.ref a) (.ref (G.cls c))) (ht : ∀ t ∈ tyNames, PySem.W.kitOne X.K (.type t) (.ref C) = some false) (hs : isStar o = false) (ho : PE X o (tV G W vo)) :
    PE X (.Call (.Name "isinstance" p1) [o, .Name x p2] [] pos) (tV G W fun r h => (vo r h).bind fun x h1 => isND x h1 cs) := by
  refine ⟨fun pins s σ H Q I ⟨il, h, r, w, er, q⟩ => (pe_callB call_isi hg hm boot_isinstance (pa_cons ho (pa_cons (pe_glob (v := .ref C) hg2 hm2 rfl hdb) pa_nil rfl) (starEach_plain hs)) (by decide) (by decide) (starEach_plain hs) rfl).run pins s σ H Q I ?_⟩
  refine ⟨il, h, r, w, er, after_imp (after.bind q) fun x H1 ⟨il1, h1, d, e1, w1, r1, q1⟩ => ?_⟩
  have bt : ∀ t, tyName d h1 = some t → isND d h1 cs = .ok (.bl false) h1 → rIsi X.K [x, .ref C] H1 Q := fun t et e => by
    rw [e] at q1
    exact ⟨x, .ref C, .type t, .ref C, false, rfl, .own C, hK ▸ r1.ty w1 et, ht t (tyName_mem et), q1 _ il1 H1 .refl w1 (.bl _)⟩
  have ins : ∀ c fs, fldsOf d h1 = some (c, fs) → isND d h1 cs = .ok (.bl (cs.contains c)) h1 → rIsi X.K [x, .ref C] H1 Q := fun c fs ef e => by
    rw [e] at q1
    obtain ⟨a, dx, gs, rfl, hk, ea, e3, rs⟩ := r1.insOf w1 ef
    exact ⟨.ref a, .ref C, .ref (G.cls c), .ref C, cs.contains c, rfl, .own C, hty c hk _ _ _ _ ea, hi c hk, q1 _ il1 H1 .refl w1 (.bl _)⟩
  cases d with
  | non => exact bt _ rfl rfl
  | bl b => exact bt _ rfl rfl
  | int b => exact bt _ rfl rfl
  | str b => exact bt _ rfl rfl
  | tup b => exact bt _ rfl rfl
  | lst b => exact bt _ rfl rfl
  | ins c fs => exact ins c fs rfl rfl
  | loc n =>
    unfold isND at q1
    dsimp only at q1
    split at q1
    · rename_i c fs e; exact ins c fs (by simp only [fldsOf, e]) (by simp only [isND, e])
    · rename_i ds e; exact bt "list" (by simp only [tyName, e]) (by simp only [isND, e])
    · exact q1.elim
  | frz b => exact q1.elim
  | exc c fs => exact q1.elim
theorem s_binF {k : Nat} {F : Fns} {bop : Bop} {op : Operator} (O : OpsI X G k F) (hop : BopIs bop op) (hr : Room (5 * k) X.A) (tk : Takes X W) (hK : X.K = G.K) (ha : PE X a (tV G W va)) (hb : PE X b (tV G W vb)) :
    PE X (.BinOp a op b pos) (tV G W fun r h => (va r h).bind fun x h1 => (vb r h1).bind fun y h2 => binF F bop x y h2) := by
  refine ⟨fun pins s σ H Q I h => ?_⟩
  exact wpAny_BinOp (two_run ha hb I (fun s H x y v u il h dx dy I r1 r2 w e1 e2 q => binF_ok O hop hr tk I hK r1 r2 w e1 e2 q) h)
theorem x_setf {o e : Expr} {po : Pos} {vo v : Env1 → Hs → Out D} {f : Nat} (inj : ∀ i j, G.fld i = G.fld j → i = j) (hc : ∀ c, G.ok c = true → Cls X.K (G.cls c) ∧ NoAttr X.K (G.cls c) (G.fld f)) (hcm : isComp e = false) (hv : PE X e (tV G W v)) (ho : PE X o (tV G W vo)) :
    PS X (.Assign [.Attribute o (G.fld f) po] e pos) (tS G W fun r h => (v r h).os r fun d h1 => (vo r h1).os r fun x h2 => (setfD x f d h2).os r fun _ h3 => .ok .nx r h3) := by
  refine (ps_fld ho hv (swaps_plain hcm)).imp fun De s H ⟨il, h, r, w, er, q⟩ => ⟨il, h, r, w, er, after_imp (afterS.osD q er) fun y H1 ⟨il1, h1, d, e1, w1, r1, er1, q1⟩ => ?_⟩
  refine ⟨il1, h1, r, w1, er1, after_imp (afterS.osD q1 er1) fun x2 H2 ⟨il2, h2, x, e2, w2, r2, er2, q2⟩ => ?_⟩
  cases o : setfD x f d h2 with
  | stuck => rw [o] at q2; exact q2.elim
  | exc a b => exact absurd o (by unfold setfD; split <;> (try split) <;> (try split) <;> simp)
  | ok u h3 =>
    rw [o] at q2
    obtain ⟨a, c, dx', gs, rfl, hk, ea, hl, w3, e3⟩ := setf_ok inj w2 r2 (r1.ext e2) o
    exact ⟨a, _, dx', gs, rfl, ea, (hc c hk).1, (hc c hk).2, hl, q2 _ il2 _ e3 w3 (er2.ext e3)⟩
end
end GY

namespace GY
open PySem PySem.Spec PyProof.Rows L2 PySem.W
open L2 (Inv)
section
variable {X : Cx} {G : Sg} {W : WX} {a b c : Expr} {va vb vc : Env1 → Hs → Out D} {pos p : Pos}
theorem inv_looksTy {pins : List (Addr × Obj)} {σ : L2.St} {H : Hp} {s : Shared} {x : V} {u t : Value} (I : Inv X pins σ H s) (rx : RelV x u) (ty : TyX X.K H x t) : Looks (model X.prog X.w) s.heap (typeOf u) t := by
  obtain ⟨P, Z, hP, _⟩ := kit_of I rx ty
  exact Z.ty _ _ I.kIn hP
/-- a def's answer True or False -/
theorem blX_call {A : Around} {k : Nat} {f : Addr} {ps : List Str} {ap : List D → List (Nat × D) → Hs → Out D} {kk : Bool → Bool} {pins : List (Addr × Obj)} {σ : L2.St} {H : Hp} {s : Shared} {Q : VK} {us : List Value} {uv : List V} {il : Lay} {h : Hs} {usD : List D}
    (FI : FnI X.prog X.w X.K X.mg X.base G k f ps ap) (sb : Sub X (5 * k) A) (tk : Takes X W) (I : Inv X pins σ H s) (rv : Vals uv us) (w : WR G il H h) (r1 : Reps G il H usD uv) (q : after G (blX (ap usD [] h) kk) il H Q (fun c a H' => W c a σ H')) :
    wpAny (model X.prog X.w) A (call (.ref f) us) (fun v s' => ∃ b, v = .bool b ∧ EP X pins σ Q (.bool (kk b)) s') X.xe s := by
  have q2 : after G (ap usD [] h) il H (fun v H' => ∃ b, v = .bl b ∧ Q (.bl (kk b)) H') (fun c a H' => W c a σ H') := by
    unfold blX at q
    cases o : ap usD [] h with
    | stuck => rw [o] at q; exact q
    | exc x y => rw [o] at q; exact q.elim
    | ok d h2 =>
      rw [o] at q
      intro v il' H' e w' r'
      cases d <;> try exact q.elim
      rename_i b
      exact ⟨b, r'.bl_inv, q _ il' H' e w' (.bl _)⟩
  refine wpAny_mono (run_fnA FI sb tk I rv w r1 .nil q2) (fun v s' z => ?_) fun _ _ z => z
  obtain ⟨x, H', I', rx, b, rfl, q⟩ := z
  cases (show v = Value.bool b from rx)
  exact ⟨b, rfl, .bl _, H', I', rfl, q⟩
theorem cmpF_ok {k : Nat} {F : Fns} (O : OpsI X G k F) (hr : Room (5 * k + 2) X.A) (tk : Takes X W) {cop : Cop} {op : CmpOp} (hop : CopIs cop op) (hu : X.A.units + 65 < cLine) {pins : List (Addr × Obj)} {s : Shared} {σ : L2.St} {H : Hp} {x y : V} {v u : Value} {Q : VK} (I : Inv X pins σ H s) (hK : X.K = G.K) (rx : RelV x v) (ry : RelV y u)
    {il : Lay} {h : Hs} {dx dy : D} (w : WR G il H h) (r1 : Rep G il H dx x) (r2 : Rep G il H dy y) (q : after G (cmpF F cop dx dy h) il H Q (fun c a H' => W c a σ H')) :
    wpAny (model X.prog X.w) X.A (compareOp op v u) (EP X pins σ Q) X.xe s := by
  obtain ⟨m, hF⟩ := I.fr
  have inst : ∀ {d : D} {z : V} {t : Value} {c : Nat}, Rep G il H d z → RelV z t → clsOf d h = some c → ∃ a, t = .ref a ∧ z = .ref a ∧ G.ok c = true ∧ ∃ ox od, InstAt s.heap a ox (G.cls c) od ∧ s.heap.get? a = some ox ∧ ox.cls = .ref (G.cls c) := fun {d z t c} r rz ec => by
    obtain ⟨fs, ef⟩ := cls_fld ec
    obtain ⟨a, dx', gs, rfl, hk, ea, e3, rs⟩ := r.insOf w ef
    obtain rfl : t = Value.ref a := rz
    obtain ⟨mA, J, _⟩ := ins_get I.hok ea
    obtain ⟨od, J, _⟩ := J.look
    exact ⟨a, rfl, rfl, hk, _, _, J, J.at_, J.cls⟩
  have inK : ∀ {kk : Bool → Bool} {c : Nat} {bop : CmpOp}, (∀ {x C f ox od} {Q : Value → Shared → Prop}, InstAt s.heap x ox C od → findIn X.K (.ref C) "__contains__" = some (some (.ref f)) → isFn X.K (.ref f) = true → wpAny (model X.prog X.w) X.A (call (.ref f) [.ref x, v]) (fun r s' => wpAny (model X.prog X.w) X.A (truthy r) (fun b => Q (.bool (kk b))) X.xe s') X.xe s →
        wpAny (model X.prog X.w) X.A (compareOp bop v (.ref x)) Q X.xe s) → clsOf dy h = some c → after G (blX (F (mid c 9) [dy, dx] [] h) kk) il H Q (fun c a H' => W c a σ H') → wpAny (model X.prog X.w) X.A (compareOp bop v u) (EP X pins σ Q) X.xe s := fun {kk c bop} rule ey q => by
    obtain ⟨a, rfl, rfl, hk, ox, od, J, _, _⟩ := inst r2 ry ey
    rcases O.op c hk 9 "__contains__" rfl (by decide) with hst | ⟨f, ps, M, hfn, FI⟩
    · rw [hst] at q; exact q.elim
    · refine rule J M.at_ M.fn (wpAny_mono (blX_call FI ⟨hr.mono (by omega), rfl⟩ tk I (uv := [.ref a, x]) (.cons (show RelV (V.ref a) (Value.ref a) from rfl) (.cons rx .nil)) w (.cons r2 (.cons r1 .nil)) q) (fun r s' z => ?_) fun _ _ z => z)
      obtain ⟨b, rfl, q3⟩ := z
      exact wpAny_truthy_bool q3
  cases cop with
  | eq =>
    cases hop
    unfold cmpF at q
    dsimp only at q
    split at q
    case h_2 => exact cmp_ok (cop := .eq) (op := .Eq) rfl hu I hK rx ry w r1 r2 q
    rename_i c ec
    split at q
    case isFalse => exact q.elim
    rename_i hy
    obtain ⟨a, rfl, rfl, hk, ox, od, J, _, _⟩ := inst r1 rx ec
    rcases O.op c hk 6 "__eq__" rfl (by decide) with hst | ⟨f, ps, M, hfn, FI⟩
    · rw [hst] at q; exact q.elim
    have hw := run_fnI FI (hr.mono (by omega)) tk I (uv := [.ref a, y]) (.cons (show RelV (V.ref a) (Value.ref a) from rfl) (.cons ry .nil)) w (.cons r1 (.cons r2 .nil)) .nil q
    have go : ∀ {tb : Value}, Looks (model X.prog X.w) s.heap (typeOf u) tb → notFirst X.K (G.cls c) tb = true → wpAny (model X.prog X.w) X.A (compareOp .Eq (.ref a) u) (EP X pins σ Q) X.xe s := fun {tb} hb hn => by
      unfold compareOp
      exact cmp_K (by omega) hF I.ok.mod.kin J hb hn (by rw [show (cmpInfo .Eq).2.1 = "__eq__" from by decide +kernel]; exact M.at_) M.fn (wpAny_mono hw (fun v s' z => cmpBack_of z) fun _ _ z => z)
    rcases hy with ey | ht
    · obtain ⟨b, rfl, rfl, _, _, _, J2, _, _⟩ := inst r2 ry ey
      exact go J2.type (by simp [notFirst])
    · obtain ⟨t, et⟩ := Option.isSome_iff_exists.mp ht
      exact go (inv_looksTy I ry (hK ▸ r2.ty w et)) ((O.eqs c hk).1 t (tyName_mem et))
  | ne =>
    cases hop
    unfold cmpF at q
    dsimp only at q
    split at q
    case h_2 => exact cmp_ok (cop := .ne) (op := .NotEq) rfl hu I hK rx ry w r1 r2 q
    rename_i c ec
    split at q
    case isFalse => exact q.elim
    rename_i ey
    obtain ⟨a, rfl, rfl, hk, ox, od, J, ha, hac⟩ := inst r1 rx ec
    obtain ⟨b, rfl, rfl, _, oy, _, J2, hb, hbc⟩ := inst r2 ry ey
    rcases O.op c hk 6 "__eq__" rfl (by decide) with hst | ⟨f, ps, M, hfn, FI⟩
    · rw [hst] at q; exact q.elim
    have hw := blX_call FI ((⟨hr.mono (j := 5 * k + 1) (by omega), rfl⟩ : Sub X (5 * k + 1) X.A).in1) tk I (uv := [.ref a, .ref b]) (.cons (show RelV (V.ref a) (Value.ref a) from rfl) (.cons (show RelV (V.ref b) (Value.ref b) from rfl) .nil)) w (.cons r1 (.cons r2 .nil)) q
    exact compareOp_ne_ownEq PySem.F.cmp_object (ownNe_of I.kIn ((O.eqs c hk).2 f M.at_) M.at_ ha hac) hb hbc (by omega) hw
  | isIn =>
    cases hop
    unfold cmpF at q
    dsimp only at q
    split at q
    · rename_i c ey
      exact inK (kk := id) (fun J hs hf hw => in_K hF I.ok.mod.kin J hs hf hw) ey q
    · exact cmp_ok (cop := .isIn) (op := .In) rfl hu I hK rx ry w r1 r2 q
  | notIn =>
    cases hop
    unfold cmpF at q
    dsimp only at q
    split at q
    · rename_i c ey
      exact inK (kk := not) (fun J hs hf hw => notIn_K hF I.ok.mod.kin J hs hf hw) ey q
    · exact cmp_ok (cop := .notIn) (op := .NotIn) rfl hu I hK rx ry w r1 r2 q
  | _ => exact cmp_ok hop hu I hK rx ry w r1 r2 q
theorem s_cmpF {k : Nat} {F : Fns} (O : OpsI X G k F) (hr : Room (5 * k + 2) X.A) (tk : Takes X W) {cop : Cop} {op : CmpOp} (hop : CopIs cop op) (hu : X.A.units + 65 < cLine) (hK : X.K = G.K) (hm : behindInMarks op b = false) (ha : PE X a (tV G W va)) (hb : PE X b (tV G W vb)) :
    PE X (.Compare a [op] [b] pos) (tV G W fun r h => (va r h).bind fun x h1 => (vb r h1).bind fun y h2 => cmpF F cop x y h2) := by
  refine ⟨fun pins s σ H Q I h => ?_⟩
  exact wpAny_Compare1 (two_run ha hb I (fun s H x y v u il h dx dy I r1 r2 w e1 e2 q => cmpF_ok O hr tk hop hu I hK r1 r2 w e1 e2 q) h) hm
theorem t_cmpF {k : Nat} {F : Fns} (O : OpsI X G k F) (hr : Room (5 * k + 2) X.A) (tk : Takes X W) {cop : Cop} {op : CmpOp} (hop : CopIs cop op) (hu : X.A.units + 65 < cLine) (hK : X.K = G.K) (hm : behindInMarks op b = false) (ha : PE X a (tV G W va)) (hb : PE X b (tV G W vb)) :
    PT X (.Compare a [op] [b] pos) (tB1 G W (tstOf fun r h => (va r h).bind fun x h1 => (vb r h1).bind fun y h2 => cmpF F cop x y h2)) := by
  refine ⟨fun pins s σ H Q I h => ?_⟩
  have h' : tV G W (fun r h => (va r h).bind fun x h1 => (vb r h1).bind fun y h2 => cmpF F cop x y h2) σ H fun x H' => ∃ k, TruV X.K x H' k ∧ Q k H' := by
    obtain ⟨il, h, r, w, er, q⟩ := h
    refine ⟨il, h, r, w, er, after_imp (afterB.bind q) fun x H1 ⟨il1, h1, dx, e1, w1, r1, q1⟩ => ?_⟩
    split at q1
    · rename_i b e
      exact ⟨b, by rw [hK]; exact truth_ok w1 r1 e, q1 il1 H1 .refl w1⟩
    · exact q1.elim
  exact wpAny_isTrue_Compare1 (thn (two_run ha hb I (fun s H x y v u il h dx dy I r1 r2 w e1 e2 q => cmpF_ok O hr tk hop hu I hK r1 r2 w e1 e2 q) h') fun v s1 h1 => thn h1 fun u s2 h2 => thn h2 fun c s3 ⟨x, H1, I1, r1, q1⟩ =>
    tru_ok pins s3 σ H1 x c Q I1 r1 q1) hm
theorem blX_any {o : Out D} {kk : Bool → Bool} {il : Lay} {H : Hp} {Q : VK} {E E' : XK} (q : after G (blX o kk) il H Q E) : after G (blX o kk) il H Q E' := by
  unfold blX at q ⊢
  split at q
  · exact q
  · exact q.elim
def bol1 (F : Fns) (ds : List D) (h : Hs) : Out D := match ds with | [d] => bolF F d h | _ => .stuck
theorem c_bol {k : Nat} {F : Fns} (O : OpsI X G k F) (hr : Room (5 * k + 2) X.A) (tk : Takes X W) (E : XK) : CallR X (.type "bool") (rC G (bol1 F) E) := by
  rintro pins s σ H xs us Q I rx ⟨il, h, ds, w, rs, q⟩
  obtain ⟨m, hF⟩ := I.fr
  unfold bol1 at q
  split at q
  case h_2 => exact q.elim
  rename_i d
  obtain ⟨x, rfl, r1⟩ := reps1 rs
  unfold bolF at q
  split at q
  case h_2 => exact q.elim
  rename_i c ec
  obtain ⟨fs, ef⟩ := cls_fld ec
  obtain ⟨a, dx', gs, rfl, hk, ea, e3, rs3⟩ := r1.insOf w ef
  obtain rfl := Vals.ref1 rx
  obtain ⟨mA, J, _⟩ := ins_get I.hok ea
  obtain ⟨od, J, _⟩ := J.look
  rcases O.op c hk 7 "__bool__" rfl (by decide) with hst | ⟨f, ps, M, hfn, FI⟩
  · rw [hst] at q; exact q.elim
  refine gy_call_bool (truthy_K hF I.ok.mod.kin J M.at_ M.fn (wpAny_mono (blX_call FI ((⟨hr, rfl⟩ : Sub X (5 * k + 2) X.A).in1.in1) tk I (uv := [.ref a]) (.cons (show RelV (V.ref a) (Value.ref a) from rfl) .nil) w (.cons r1 .nil) (blX_any q)) (fun r s' z => ?_) fun _ _ z => z))
  obtain ⟨b, rfl, q3⟩ := z
  exact q3
/-- bool(e) -/
theorem s_bol {k : Nat} {F : Fns} {p1 : Pos} (O : OpsI X G k F) (hr : Room (5 * k + 2) X.A) (tk : Takes X W) (hg : Gl X "bool") (hm : X.mg "bool" = none) (hs : isStar a = false) (ha : PE X a (tV G W va)) :
    PE X (.Call (.Name "bool" p1) [a] [] pos) (tV G W fun r h => (va r h).bind fun x h1 => bolF F x h1) := by
  refine ⟨fun pins s σ H Q I ⟨il, h, r, w, er, q⟩ => (pe_callTy (c_bol O hr tk fun c a H' => W c a σ H') hg hm (by decide +kernel) (pa_cons ha pa_nil (starEach_plain hs)) (by decide) (by decide) (starEach_plain hs) rfl).run pins s σ H Q I ?_⟩
  exact ⟨il, h, r, w, er, after_imp (after.bind q) fun x H1 ⟨il1, h1, d, e1, w1, r1, q1⟩ => ⟨il1, h1, [d], w1, .cons r1 .nil, q1⟩⟩
end
end GY

namespace GY
open PySem PySem.Spec PyProof.Rows L2 PySem.W
open L2 (Inv)
/-- an exception's class over ValueError, by the written part -/
def oexB (K : PySem.W.Frag) (C : Addr) : Bool := (match K.lookup C with
  | some ⟨.type "type", _, .cls cd, sl⟩ => (match cd.mro, sl.toList with
    | .ref C' :: bm, [_, _, _, _, some (.builtin n), _] => C' == C && n == "ValueError.__new__" && !cd.hasDel && cd.hasDict && PySem.HandSPX.refsVE bm
    | _, _ => false)
  | _ => false) && He.eqO (findIn K (.ref C) "__setattr__") (some (some (.builtin "object.__setattr__"))) && decide (subIn K (.ref C) (.type "BaseException") = some true) && (typeIn K (.ref C) == some (.type "type")) && keepIn K (.ref C)
theorem oexB_ok {K : PySem.W.Frag} {C : Addr} (h : oexB K C = true) : OexC K C := by
  unfold oexB at h
  simp only [Bool.and_eq_true, decide_eq_true_eq, beq_iff_eq] at h
  obtain ⟨⟨⟨⟨h1, h2⟩, h3⟩, h4⟩, h5⟩ := h
  refine ⟨?_, He.eqO_ok h2, h3, h4, h5⟩
  split at h1
  · rename_i dd cd sl ho
    split at h1
    · rename_i C' bm k0 k1 k2 k3 n k5 hm hs
      simp only [Bool.and_eq_true, beq_iff_eq, Bool.not_eq_true'] at h1
      obtain ⟨⟨⟨⟨rfl, rfl⟩, hdel⟩, hd⟩, hr⟩ := h1
      obtain ⟨nm, bs, mro, ns, qn, hdd, sn, sub, ab, col, del⟩ := cd
      dsimp only at hm hdel hd
      subst hm hdel hd
      have hsl : sl = #[k0, k1, k2, k3, some (.builtin "ValueError.__new__"), k5] := by
        obtain ⟨l⟩ := sl
        simp only at hs
        rw [hs]
      subst hsl
      exact ⟨nm, qn, ns, bs, bm, sn, sub, ab, col, dd, k0, k1, k2, k3, k5, ho, hr⟩
    · cases h1
  · cases h1
/-- what __init__ of an exception's class does: self.word = w (and self.f = y) -/
def spX (K : PySem.W.Frag) (w : Str) (f : Option Str) : Sp := fun vs H Q _ => ∃ (a C : Addr) (rest : List V), vs = .ref a :: rest ∧ OexC K C ∧ findIn K (.ref C) "word" = some none ∧ H a = some (exo a C none) ∧ match f, rest with
  | none, [] => ∀ dx, H dx = none → dx ≠ a → Q .non (upd (upd H dx (exd dx [("word", .str w)])) a (exo a C (some dx)))
  | some f, [y] => findIn K (.ref C) f = some none ∧ ∀ dx, H dx = none → dx ≠ a → Q .non (upd (upd (upd H dx (exd dx [("word", .str w)])) a (exo a C (some dx))) dx (exd dx [(f, y), ("word", .str w)]))
  | _, _ => False
section
variable {P : Program} {w : World} {K : PySem.W.Frag} {mg : Str → Option Value} {base : Heap} {qual : Str} {params : Arguments} {scope : Scope} {f : Addr} {fd : FuncData} {k : Nat} {self n fld word : Str} {p1 p2 p3 p4 q1 q2 q3 q4 : Pos} {j : Nat}
theorem init0_ok (F : FunD K "__init__" qual params [.Assign [.Attribute (.Name self p1) "word" p2] (.Constant (.str word) j p3) p4] scope [] [] f fd) (S : FnScope [self] [self] scope) (hd : (self == ("__debug__" : Str)) = false) (hcd : (self == ("__classdict__" : Str)) = false) :
    FnOk P w K mg base (L2.CX P w) (k + 1) f fd [self] (spX K word none) := by
  refine F.ok S (fun vs H Q E ⟨a, C, rest, e, _, _, _, q⟩ => ?_) fun cdv A outer s H vs Q E hr ⟨a, C, rest, e, T, hno, ha, q⟩ => ?_
  · cases rest with
    | nil => rw [e]; rfl
    | cons y r => exact q.elim
  · cases rest with
    | cons y r => exact q.elim
    | nil =>
      subst e
      have hv : Vis scope self := (S.par self (List.mem_singleton_self _)).elim .inl fun z => .inr (.inl z)
      refine ⟨_, pss_one (ps_ost (pe_var (i := 0) rfl hv hd hcd) pe_str), ?_⟩
      exact ⟨.ref a, rfl, a, C, rfl, T, hno, .inl ⟨ha, fun dx h1 h2 => q dx h1 h2⟩⟩
theorem init1_ok (F : FunD K "__init__" qual params [.Assign [.Attribute (.Name self p1) "word" p2] (.Constant (.str word) j p3) p4, .Assign [.Attribute (.Name self q1) fld q2] (.Name n q3) q4] scope [] [] f fd) (S : FnScope [self, n] [self, n] scope)
    (hd : (self == ("__debug__" : Str)) = false) (hcd : (self == ("__classdict__" : Str)) = false) (hd2 : (n == ("__debug__" : Str)) = false) (hcd2 : (n == ("__classdict__" : Str)) = false) :
    FnOk P w K mg base (L2.CX P w) (k + 1) f fd [self, n] (spX K word (some fld)) := by
  refine F.ok S (fun vs H Q E ⟨a, C, rest, e, _, _, _, q⟩ => ?_) fun cdv A outer s H vs Q E hr ⟨a, C, rest, e, T, hno, ha, q⟩ => ?_
  · match rest, q with
    | [y], _ => rw [e]; rfl
  · match rest, q with
    | [y], q =>
      subst e
      obtain ⟨hno2, q⟩ := q
      have hv : Vis scope self := (S.par self (List.mem_cons_self ..)).elim .inl fun z => .inr (.inl z)
      have hv2 : Vis scope n := (S.par n (by simp)).elim .inl fun z => .inr (.inl z)
      refine ⟨_, pss_cons (ps_ost (pe_var (i := 0) rfl hv hd hcd) pe_str) (pss_one (ps_ost (pe_var (i := 0) rfl hv hd hcd) (pe_var (i := 1) rfl hv2 hd2 hcd2))), ?_⟩
      refine ⟨.ref a, rfl, a, C, rfl, T, hno, .inl ⟨ha, fun dx h1 h2 => ?_⟩⟩
      refine ⟨y, rfl, .ref a, rfl, a, C, rfl, T, hno2, .inr ⟨dx, [("word", .str word)], upd_same, by rw [upd_ne h2, upd_same], by simp, q dx h1 h2⟩⟩
end
end GY

namespace GY
open PySem PySem.Spec PyProof.Rows L2 PySem.W
open L2 (Inv)
theorem spX_len0 {K : PySem.W.Frag} {w : Str} {vs : List V} {H : Hp} {Q : VK} {E : XK} {ps : List Str} (hp : ps.length = 1) (h : spX K w none vs H Q E) : vs.length = ps.length := by
  obtain ⟨a, C, rest, e, _, _, _, q⟩ := h
  match rest, q with
  | [], _ => rw [e, hp]; rfl
/-- what is left of a made exception: its dict -/
theorem del_upd {H1 : Hp} {a dx C : Addr} {fs : List (Str × V)} (ha : H1 a = none) (hn : dx ≠ a) : upd (del (upd (upd (upd H1 a (exo a C none)) dx (exd dx fs)) a (exo a C (some dx))) a) dx (.xd fs) = upd H1 dx (.xd fs) := by
  funext b
  by_cases h1 : b = dx
  · subst h1; rw [upd_same, upd_same]
  · rw [upd_ne h1, upd_ne h1]
    by_cases h2 : b = a
    · subst h2; rw [del_same, ha]
    · rw [del_ne h2, upd_ne h2, upd_ne h1, upd_ne h2]
section
variable {X : Cx} {G : Sg} {W : WX} {e : Expr} {es : List Expr} {ta : TA} {p pos : Pos} {x : Str} {C fI : Addr} {k : Nat} {fd : FuncData} {ps : List Str} {word fld : Str}
/-- C(), C's own __init__ keeping spX -/
theorem pmk0 (T : OexC X.K C) (hno : findIn X.K (.ref C) "word" = some none) (iC : PySem.W.findIn X.K (.ref C) "__init__" = some (some (.ref fI))) (tI : PySem.W.typeIn X.K (.ref fI) = some (.type "function"))
    (F1 : FnOk X.prog X.w X.K X.mg X.base (L2.CX X.prog X.w) k fI fd ps (spX X.K word none)) (hr : Room (k + 1) X.A) (hp : ps.length = 1) (hb : Binds X.K fd ps []) (hx : Passes (L2.CX X.prog X.w) X (fun _ _ _ => False)) (hg : Gl X x) (hm : X.mg x = some (.ref C))
    (hdb : (x == ("__debug__" : Str)) = false) :
    PMk X (.Call (.Name x p) [] [] pos) (fun _ H Q => ∀ dx, H dx = none → Q (.ref C) (some dx) (upd H dx (.xd [("word", .str word)]))) := by
  intro pins s σ H Q I h
  obtain ⟨nm, q, N, bs, bm, sn, sub, ab, col, dd, k0, k1, k2, k3, k5, hC, hbm⟩ := T.cls
  refine wpAny_Call_Name_kw (ld_glob I hg hm ?_ hdb)
  refine PySem.W.callWith_K0 I.kIn T.kC ?_
  show wpAny _ _ (call (.ref C) []) _ _ _
  obtain ⟨hp', g, dr, tk, os⟩ := s
  have hsz : hp'.objs.size ≤ hp'.objs.size + 1 := Nat.le_succ _
  have hn : H (hp'.objs.size + 1) = none := I.hok.fresh hsz
  have kk : ∀ b o, hp'.get? b = some o → ((hp'.push (PySem.W.kdv_tup [])).push (PySem.HandSPX.excO C hp'.objs.size)).get? b = some o := fun b o e => Heap.get?_push_of_some _ (Heap.get?_push_of_some _ e)
  have hget : ((hp'.push (PySem.W.kdv_tup [])).push (PySem.HandSPX.excO C hp'.objs.size)).get? (hp'.objs.size + 1) = some (PySem.HandSPX.excO C hp'.objs.size) := by heap_get
  have I2 : Inv X pins σ (upd H (hp'.objs.size + 1) (exo (hp'.objs.size + 1) C none)) ⟨(hp'.push (PySem.W.kdv_tup [])).push (PySem.HandSPX.excO C hp'.objs.size), g, dr, tk, os⟩ :=
    I.laid (t' := tk) (a := hp'.objs.size + 1) (o := exo (hp'.objs.size + 1) C none) (h' := (hp'.push (PySem.W.kdv_tup [])).push (PySem.HandSPX.excO C hp'.objs.size)) kk hsz (exo_ok hget)
  have r2 : Vals [V.ref (hp'.objs.size + 1)] [Value.ref (hp'.objs.size + 1)] := .cons rfl .nil
  have hq : spX X.K word none [V.ref (hp'.objs.size + 1)] (upd H (hp'.objs.size + 1) (exo (hp'.objs.size + 1) C none)) (fun v H2 => v = .non ∧ ∃ (d : Addr) (fs : List (Str × V)), H2 (hp'.objs.size + 1) = some (exo (hp'.objs.size + 1) C (some d)) ∧ H2 d = some (exd d fs) ∧ H d = none ∧ Q (.ref C) (some d) (upd (del H2 (hp'.objs.size + 1)) d (.xd fs))) (fun _ _ _ => False) := by
    refine ⟨_, C, [], rfl, T, hno, upd_same, fun dx h1 h2 => ⟨rfl, dx, [("word", .str word)], upd_same, ?_, ?_, ?_⟩⟩
    · rw [upd_ne h2, upd_same]
    · rw [upd_ne h2] at h1; exact h1
    · rw [del_upd hn h2]
      rw [upd_ne h2] at h1
      exact h dx h1
  refine wpAny_call (PySem.HandSPX.call_own F.excBase_ValueError (fun Y => PySem.HandSPX.refsVE_contains Y bm hbm) (I.kIn _ _ hC) (PySem.W.looks_findIn I.kIn iC) (fun self => PySem.W.bind_fn I.kIn self tI) (Nat.zero_le _)
    (codeAny_mono (F1.run _ X.stack _ _ ⟨[Value.ref (hp'.objs.size + 1)], []⟩ [Value.ref (hp'.objs.size + 1)] _ _ (fun _ _ _ => False) (hr.make C [] []) (I2.env0.make C [] []) (hb _ [Value.ref (hp'.objs.size + 1)] I2.kIn (by rw [hp]; rfl)) r2 hq) fun r s' hq' => ?_))
  cases r with
  | error er => exact hx pins σ _ _ er s' I2 hq'
  | ok fl =>
    cases fl with
    | ret u =>
      obtain ⟨v, H2, os2, bare2, un2, hok2, rv, ev, d, fs, ea, ed, hd1, q2⟩ := hq'
      subst ev
      obtain ⟨h2, g2, d2, t2, os'⟩ := s'
      exact ⟨rv, mk_end (raises_own T.exC T.tyC) I hsz kk un2 hok2 os2 bare2 ea ed hd1 q2⟩
    | next => exact False.elim hq'
    | brk => exact False.elim hq'
    | cont => exact False.elim hq'
/-- C(e), C's own __init__ keeping spX -/
theorem pmk1 {v : Env1 → Hs → Out D} (T : OexC X.K C) (hno : findIn X.K (.ref C) "word" = some none) (hno2 : findIn X.K (.ref C) fld = some none) (iC : PySem.W.findIn X.K (.ref C) "__init__" = some (some (.ref fI))) (tI : PySem.W.typeIn X.K (.ref fI) = some (.type "function"))
    (F1 : FnOk X.prog X.w X.K X.mg X.base (L2.CX X.prog X.w) k fI fd ps (spX X.K word (some fld))) (hr : Room (k + 1) X.A) (hb : Binds X.K fd ps []) (hx : Passes (L2.CX X.prog X.w) X (fun _ _ _ => False)) (hg : Gl X x) (hm : X.mg x = some (.ref C))
    (hdb : (x == ("__debug__" : Str)) = false) (hs : isStar e = false) (he : PE X e (tV G W v)) :
    PMk X (.Call (.Name x p) [e] [] pos) (fun σ H Q => tV G W v σ H fun y H1 => ∀ dx, H1 dx = none → Q (.ref C) (some dx) (upd H1 dx (.xd [(fld, y), ("word", .str word)]))) := by
  intro pins s σ H Q I ⟨il, h, r, w, er, q⟩
  refine pmk_oex (dvs := []) T iC tI F1 hr hb .nil hx hg hm (pa_cons he pa_nil (starEach_plain hs)) hdb (starEach_plain hs) rfl pins s σ H Q I ?_
  refine ⟨il, h, r, w, er, ?_⟩
  have fin : ∀ (y : V) (H1 : Hp), (∀ dx, H1 dx = none → Q (.ref C) (some dx) (upd H1 dx (.xd [(fld, y), ("word", .str word)]))) → [y].length ≤ 1000 ∧ ∀ a, H1 a = none → spX X.K word (some fld) (.ref a :: ([y] ++ [])) (upd H1 a (exo a C none))
      (fun v H2 => v = .non ∧ ∃ (d : Addr) (fs : List (Str × V)), H2 a = some (exo a C (some d)) ∧ H2 d = some (exd d fs) ∧ H1 d = none ∧ Q (.ref C) (some d) (upd (del H2 a) d (.xd fs))) (fun _ _ _ => False) := fun y H1 z => by
    refine ⟨by simp, fun a ha => ⟨a, C, [y], rfl, T, hno, upd_same, hno2, fun dx h1 h2 => ⟨rfl, dx, [(fld, y), ("word", .str word)], ?_, upd_same, ?_, ?_⟩⟩⟩
    · rw [upd_ne (Ne.symm h2), upd_same]
    · rw [upd_ne h2] at h1; exact h1
    · rw [upd_ne h2] at h1
      have e : upd (del (upd (upd (upd (upd H1 a (exo a C none)) dx (exd dx [("word", .str word)])) a (exo a C (some dx))) dx (exd dx [(fld, y), ("word", .str word)])) a) dx (.xd [(fld, y), ("word", .str word)]) = upd H1 dx (.xd [(fld, y), ("word", .str word)]) := by
        funext b
        by_cases z1 : b = dx
        · subst z1; rw [upd_same, upd_same]
        · rw [upd_ne z1, upd_ne z1]
          by_cases z2 : b = a
          · subst z2; rw [del_same, ha]
          · rw [del_ne z2, upd_ne z1, upd_ne z2, upd_ne z1, upd_ne z2]
      rw [e]
      exact z dx h1
  exact after_imp q fun y H1 z => fin y H1 z
end
end GY

namespace GY
open PySem PySem.Spec PyProof.Rows L2 PySem.W
open L2 (Inv)
theorem seq_none : seqItems? Value.none = (pure none : Sem (Option (Array Value))) := by rfl
theorem bind1 {name qual : Str} {a : Arg} {kd : List (Option Expr)} {dl : List Expr} {body : List Stmt} {scope : Scope} {kV doc pm cdv ct : Value} {an : Option Addr} (u : Value) :
    bindArgs (PySem.W.fnOf name qual ⟨[], [a], none, [], kd, none, dl⟩ body scope .none kV doc pm an cdv ct) ⟨[u], []⟩ = pure [(a.arg, u)] := by
  unfold bindArgs
  simp [PySem.W.fnOf, seq_none, List.lookup]
theorem bind2 {name qual : Str} {a b : Arg} {kd : List (Option Expr)} {dl : List Expr} {body : List Stmt} {scope : Scope} {kV doc pm cdv ct : Value} {an : Option Addr} (hne : a.arg ≠ b.arg) (u v : Value) :
    bindArgs (PySem.W.fnOf name qual ⟨[], [a, b], none, [], kd, none, dl⟩ body scope .none kV doc pm an cdv ct) ⟨[u, v], []⟩ = pure [(a.arg, u), (b.arg, v)] := by
  have e : (b.arg == a.arg) = false := by simpa using fun z => hne z.symm
  unfold bindArgs
  simp [PySem.W.fnOf, seq_none, List.lookup, e]
/-- what a raise of C(..) leans on: C has an own __init__ that keeps self.word = w (and self.f = its parameter) -/
structure XcI (Pr : Program) (W : World) (K : PySem.W.Frag) (mg : Str → Option Value) (base : Heap) (C : Addr) (w : Str) (f : Option Str) : Prop where
  T : OexC K C
  hno : findIn K (.ref C) "word" = some none
  hno2 : ∀ g, f = some g → findIn K (.ref C) g = some none
  ex : ∃ (fI : Addr) (fd : FuncData) (ps : List Str), PySem.W.findIn K (.ref C) "__init__" = some (some (.ref fI)) ∧ PySem.W.typeIn K (.ref fI) = some (.type "function") ∧ FnOk Pr W K mg base (L2.CX Pr W) 1 fI fd ps (spX K w f) ∧ (f = none → ps.length = 1) ∧ Binds K fd ps []
section
variable {X : Cx} {G : Sg} {W : WX} {e : Expr} {p pos rpos : Pos} {x : Str} {c wf f : Nat} {w : Str} {v : Env1 → Hs → Out D}
theorem passes0 (tk : Takes X W) : Passes (L2.CX X.prog X.w) X (fun _ _ _ => False) := passes_call tk fun _ _ _ _ z => z.elim
theorem x_rse0 (hc : X.calm = true) (tk : Takes X W) (hr : Room 2 X.A) (hw : G.fld wf = "word") (I : XcI X.prog X.w X.K X.mg X.base (G.cls c) w none) (hg : Gl X x) (hm : X.mg x = some (.ref (G.cls c))) (hdb : (x == ("__debug__" : Str)) = false) :
    PS X (.Raise (some (.Call (.Name x p) [] [] pos)) none rpos) (tS G W fun r h => .exc (.exc c [(wf, .str w)]) r h) := by
  obtain ⟨fI, fd, ps, iC, tI, F1, hp, hb⟩ := I.ex
  refine (ps_raise hc tk (pmk0 I.T I.hno iC tI F1 hr (hp rfl) hb (passes0 tk) hg hm hdb)).imp fun De s H ⟨il, h, r, wr, er, q⟩ dx hn => ?_
  exact q (.ref (G.cls c)) (some dx) s il _ (wr.ext1 hn) (wr.fresh hn) (er.ext (wr.ext1 hn)) ⟨c, _, dx, _, rfl, rfl, rfl, upd_same, wr.notin hn, rfl, by simp [hw], .cons (.str w) .nil⟩
theorem x_rse1 (hc : X.calm = true) (tk : Takes X W) (hr : Room 2 X.A) (hw : G.fld wf = "word") (I : XcI X.prog X.w X.K X.mg X.base (G.cls c) w (some (G.fld f))) (hg : Gl X x) (hm : X.mg x = some (.ref (G.cls c))) (hdb : (x == ("__debug__" : Str)) = false) (hs : isStar e = false) (he : PE X e (tV G W v)) :
    PS X (.Raise (some (.Call (.Name x p) [e] [] pos)) none rpos) (tS G W fun r h => (v r h).os r fun d h1 => if isLoc d = false then .exc (.exc c [(f, d), (wf, .str w)]) r h1 else .stuck) := by
  obtain ⟨fI, fd, ps, iC, tI, F1, hp, hb⟩ := I.ex
  refine (ps_raise hc tk (pmk1 I.T I.hno (I.hno2 _ rfl) iC tI F1 hr hb (passes0 tk) hg hm hdb hs he)).imp fun De s H ⟨il, h, r, wr, er, q⟩ => ⟨il, h, r, wr, er, after_imp (afterS.osD q er) fun y H1 ⟨il1, h1, d, e1, w1, r1, er1, q1⟩ dx hn => ?_⟩
  split at q1
  · rename_i hl
    refine q1 (.ref (G.cls c)) (some dx) s il1 _ (w1.ext1 hn) (w1.fresh hn) (er1.ext (w1.ext1 hn)) ⟨c, _, dx, _, rfl, rfl, rfl, upd_same, w1.notin hn, ?_, by simp [hw], .cons (r1.ext (w1.ext1 hn)) (.cons (.str w) .nil)⟩
    show ([d, .str w].all fun d => !isLoc d) = true
    simp only [List.all_cons, List.all_nil, hl]
    rfl
  · exact q1.elim
end
end GY

namespace GY
open PySem PySem.Spec PyProof.Rows L2
open L2 (Inv)
/-- the ends behind a suite that bears the name at i -/
def endsAs (D : Ends) (i : Nat) : Ends := { nx := fun σ H => D.nx (σ.set i none) H, rt := D.rt, bk := fun σ H => D.bk (σ.set i none) H, ct := fun σ H => D.ct (σ.set i none) H }
/-- the first clause takes whatever comes out of the body -/
def wFirst (K : PySem.W.Frag) (c : Value) (i : Nat) (ts : Addr → Value → Option Addr → TS) (D : Ends) : WX := fun cls d σ H =>
  PySem.W.exmOne K cls c = some true ∧ ∀ a, H a = none → ts a cls d (endsAs D i) (σ.set i (some (.ref a))) H
section
variable {X : Cx} {x n : Str} {c : Value} {i : Nat} {body suite : List Stmt} {b₀ : Stmt} {rest : List ExceptHandler} {np pos pos' : Pos} {tb : WX → TS} {ts : Addr → Value → Option Addr → TS}
/-- try: body, except x as n: suite, and clauses behind it that are never asked -/
theorem ps_try_first (hs : X.stack = X.env :: X.outer) (hf : X.env.frame = some X.env.locals) (hN : X.N.Nodup) (hi : X.N[i]? = some n) (hln : X.env.kindOf n = some .local) (hc : Names X x c)
    (hb : ∀ (W : WX) (pn : List (Addr × Obj)) (xe : Value → Shared → Prop), Takes (X.tr pn xe) W → PassesOwn (model X.prog X.w) X.A X.env xe → PSs (X.tr pn xe) body (tb W))
    (hsu : ∀ (a : Addr) (oe : Obj) (cls : Value) (d : Option Addr) (pn : List (Addr × Obj)), Zc cls d oe → (∃ vs, oe.data = .fields vs) → PSs (X.suite a ((a, oe) :: pn)) (b₀ :: suite) (ts a cls d)) :
    PS X (.Try body (.ExceptHandler (some (.Name x np)) (some n) (b₀ :: suite) pos' :: rest) [] [] pos) (fun D σ H => tb (wFirst X.K c i ts D) D σ H) := by
  refine ⟨fun pins s σ H D I h => ?_⟩
  have ok := I.ok
  have hfr : X.A.frames = some (X.env :: X.outer) := by rw [ok.frames, hs]
  have hloc : Loc X.env.scope n := .inl hln
  refine wpAny_Try_except ?_
  refine wpAny_mono ((hb (wFirst X.K c i ts D) (X.pn ++ pins) (fun e s₁ => wpAny (model X.prog X.w) X.A (noteFrame e X.env) (fun _ s₂ => wpAny (model X.prog X.w) X.A (setFlight e none) (fun _ s₃ =>
    wpAny (model X.prog X.w) X.A (handleBy e X.env (.ExceptHandler (some (.Name x np)) (some n) (b₀ :: suite) pos' :: rest)) (SP X pins D) X.xe s₃) X.xe s₂) X.xe s₁) (fun u s' xx => ?_) PassesOwn.looking).run [] s σ H D (I.toTry _) h) (fun f s1 hsp => ?_) (fun e s1 he => he)
  · skip
    obtain ⟨a, B, sI, pins', σ', H', cls, d, rfl, J', nb, up, sky, na, os, ag, hb1, hyes⟩ := xx
    have J : Inv X pins σ' H' sI := J'.ofTry ok
    have sky' : Sky B (X.env :: X.outer) a (Zc cls d) X.env.locals s'.heap := by rw [← hs]; exact sky
    show wpAny _ _ (noteFrame (.ref a) X.env) _ _ _
    refine Sky.land Zc.steady hfr hf sky' fun h3 fl3 up3 => ?_
    have J3 : Inv X pins σ' H' { s' with heap := h3 } := J.landed nb fl3.1 (up.trans up3) os ag
    obtain ⟨oe3, vs3, he3, hz3, hd3⟩ := fl3.there
    have nfr : a ∉ frs (X.env :: X.outer) := fun hm => by
      obtain ⟨_, o', e', hnf⟩ := fl3.2.2.1.mem hm
      rw [he3] at e'; cases e'
      exact hnf _ hd3
    have nL : a ≠ X.env.locals := fun z => nfr (List.mem_filterMap.mpr ⟨X.env, List.mem_cons_self, by rw [hf, z]⟩)
    have nF : a ∉ X.fs := fun hm => by
      obtain ⟨e, he, q⟩ := List.mem_filterMap.mp hm
      exact nfr (List.mem_filterMap.mpr ⟨e, List.mem_cons_of_mem _ he, q⟩)
    have S3 := J3.suite he3 hd3 na nL nF
    refine wpAny_handleBy_cons (codeAny_handlers_test ?_) (by intro q; cases q)
    have LT : PySem.W.Looks (model X.prog X.w) h3 (typeOf (.ref a)) cls := fun A Q E s k q => wpAny_typeOf_ref (k _ _ he3) (by rw [hz3.1]; exact q)
    have LM := PySem.W.exm_one (M := model X.prog X.w) (J3.kIn) LT hb1
    have test : ∀ {Q : Value → Shared → Prop} {E : Value → Shared → Prop}, Q c { s' with heap := h3 } → wpAny (model X.prog X.w) (X.A.mark (some (.ref a))) (eval (.Name x np) X.env) Q E { s' with heap := h3 } := fun {Q E} q => by
      obtain ⟨hg, hdbg, hm | ⟨hm, hv, hnn⟩⟩ := hc
      · exact ld_glob (X := X.suite a ((a, oe3) :: (X.pn ++ pins))) S3 hg hm q hdbg
      · exact ld_blt (X := X.suite a ((a, oe3) :: (X.pn ++ pins))) S3 hg hm hv q hnn hdbg
    refine test (LM.here ?_)
    refine codeAny_handlers_suite_as ?_
    refine HandSPX.lands_againZ fl3 fun h4 fl4 up4 => ?_
    have J4 : Inv X pins σ' H' { s' with heap := h4 } := J.landed nb fl4.1 ((up.trans up3).trans up4) os ag
    obtain ⟨oe4, vs4, he4, hz4, hd4⟩ := fl4.there
    have S4 := J4.suite he4 hd4 na nL nF
    refine store_ok (X := X.suite a ((a, oe4) :: (X.pn ++ pins))) (v := .ref a) S4 hN hi hloc rfl (fun s5 S5 => ?_) (.inr hln)
    refine wpAny_mono ((hsu a oe4 cls d (X.pn ++ pins) hz4 ⟨_, hd4⟩).run [] s5 _ H' _ S5 (hyes a na)) (fun f s6 hsp => ?_) (fun _ _ z => False.elim z)
    have end_ : ∀ {σ6 : L2.St} {H6 : Hp} {Q : Shared → Prop}, Inv (X.suite a ((a, oe4) :: (X.pn ++ pins))) [] σ6 H6 s6 → (∀ s7, Inv X pins (σ6.set i none) H6 s7 → Q s7) →
        wpAny (model X.prog X.w) X.A (do bindName X.env n .none; unbindBehindTheSuite X.env n pos') (fun _ s7 => Q s7) X.xe s6 := fun {σ6 H6 Q} S6 hq => gone_ok (S6.unsuite ok) hN hi hln hq
    cases f with
    | next => obtain ⟨σ6, H6, S6, q6⟩ := hsp; exact end_ S6 fun s7 J7 => ⟨_, _, J7, q6⟩
    | brk => obtain ⟨σ6, H6, S6, q6⟩ := hsp; exact end_ S6 fun s7 J7 => ⟨_, _, J7, q6⟩
    | cont => obtain ⟨σ6, H6, S6, q6⟩ := hsp; exact end_ S6 fun s7 J7 => ⟨_, _, J7, q6⟩
    | ret u => obtain ⟨v6, σ6, H6, S6, r6, q6⟩ := hsp; exact end_ S6 fun s7 J7 => ⟨_, _, _, J7, r6, q6⟩
  cases f with
  | next => obtain ⟨σ', H', J', q⟩ := hsp; exact wpAny_execs_nil ⟨σ', H', J'.ofTry ok, q⟩
  | brk => obtain ⟨σ', H', J', q⟩ := hsp; exact ⟨σ', H', J'.ofTry ok, q⟩
  | cont => obtain ⟨σ', H', J', q⟩ := hsp; exact ⟨σ', H', J'.ofTry ok, q⟩
  | ret u => obtain ⟨v, σ', H', J', r, q⟩ := hsp; exact ⟨v, σ', H', J'.ofTry ok, r, q⟩
end
end GY
namespace GY
open PySem PySem.Spec PyProof.Rows L2
open L2 (Inv)
/-- err.f, wherever the caught exception is pinned -/
theorem pe_xfG {X : Cx} {a C : Addr} {oe : Obj} {cls : Value} {d : Option Addr} {e : Expr} {te : TE} {pos : Pos} {n : Str} (T : XfC X.K C) (hno : PySem.W.findIn X.K (.ref C) n = some none)
    (hz : Zc cls d oe) (hf : ∃ vs, oe.data = .fields vs) (hp : (a, oe) ∈ X.pn) (he : PE X e te) (hb : attributeBase e n X.env (eval e X.env) = eval e X.env) :
    PE X (.Attribute e n pos) (tXf a cls d C n te) := by
  refine ⟨fun pins s σ H Q I h => attr_of hb (thn (he.run pins s σ H _ I h) fun u s1 hh => ?_)⟩
  obtain ⟨x, H1, I1, rx, rfl, rfl, dd, fs, v, rfl, ea, l, q⟩ := hh
  obtain rfl : u = Value.ref a := rx
  obtain ⟨ha, _⟩ := I1.pin (a, oe) (List.mem_append_left _ hp)
  obtain ⟨vs, hd⟩ := hf
  have hx : ObjOk X.prog X.w H1 s1.heap dd (.xd fs) := I1.hok dd _ ea
  obtain ⟨mA, hns, hr⟩ := hx
  obtain ⟨od, ho, hl⟩ := lookIn_ns hns
  obtain ⟨u, hu, ru⟩ := RelO.some_of (v := v) (o := mA n) (by rw [← l]; exact hr n)
  have J : PySem.W.InstAt s1.heap a oe C (some od) := ⟨ha, hz.1, by unfold PySem.W.notCls; rw [hd] <;> rfl, by rw [hz.2]; exact ho⟩
  exact HandSPX.exc_get I1.kIn J T.ga T.gg T.exC (PySem.W.findObj_own T.hdC hno rfl (by rw [hl, hu])) (handed_of ru) ⟨v, H1, I1.tok _, ru, q⟩
end GY
namespace GY
open PySem PySem.Spec PyProof.Rows L2
open L2 (Inv)
/-- only tables (and new objects) have changed -/
theorem ext_tabs {G : Sg} {il : Lay} {H H1 : Hp} {h : Hs} (w : WR G il H h) (e : LamX.ExtN H H1) (t : LamX.Tabs G.tab H1) : Ext il H il H1 ∧ WR G il H1 h := by
  have x : Ext il H il H1 := ⟨List.prefix_refl _, fun _ m => m, fun a o q _ nt => e a o q nt, fun _ m => .inl m, fun a m o q => by
    obtain ⟨xs, z⟩ := w.trk a m
    rw [z] at q; cases q
    exact e a _ z fun ps y => by cases y⟩
  refine ⟨x, w.len, w.nd, fun n a o h1 h2 => ?_, fun a m => ?_, w.dis, t⟩
  · obtain ⟨u, hu, t1, _⟩ := w.kind h1
    exact (w.ob n a o h1 h2).ext x fun u' q => by
      rw [hu] at q; cases q
      exact e a _ hu t1
  · obtain ⟨xs, z⟩ := w.trk a m
    exact ⟨xs, e a _ z fun ps y => by cases y⟩
end GY

namespace GY
open PySem PySem.Spec PyProof.Rows L2
open L2 (Inv)
open L2H (RoomH PinOk cxH inv_startH)
/-- only new objects -/
def Kx (H H' : Hp) : Prop := ∀ b o, H b = some o → H' b = some o
theorem Kx.refl {H : Hp} : Kx H H := fun _ _ e => e
theorem Kx.trans {H H1 H2 : Hp} (a : Kx H H1) (b : Kx H1 H2) : Kx H H2 := fun c o e => b c o (a c o e)
theorem Kx.upd {H : Hp} {p : Addr} {o : HO} (hn : H p = none) : Kx H (upd H p o) := fun b u e => by rw [upd_ne (ne_of_none e hn)]; exact e
/-! ### `_law_field_of` -/
def strsB : List Expr → List Str → Bool
  | [], [] => true
  | .Constant (.str x) _ _ :: es, w :: ws => decide (x = w) && strsB es ws
  | _, _ => false
def foIfB (e : Str) (ws : List Str) (f : Str) : Stmt → Bool
  | .If (.Compare (.Attribute (.Name x _) m _) [.In] [.Tuple es _ _] _) [.Return (some (.Attribute (.Name y _) g _)) _] [] _ => decide (x = e) && decide (m = "word") && decide (y = e) && decide (g = f) && strsB es ws
  | _ => false
def foEndB (e w f : Str) : Stmt → Bool
  | .Return (some (.IfExp (.Compare (.Attribute (.Name x _) m _) [.Eq] [.Constant (.str u) _ _] _) (.Attribute (.Name y _) g _) (.Constant .none _ _) _)) _ => decide (x = e) && decide (m = "word") && decide (u = w) && decide (y = e) && decide (g = f)
  | _ => false
def foB (e : Str) : List Stmt → Bool
  | [s1, s2, s3, s4, s5] => foIfB e ["BadRoot", "BadCount", "NotLinked"] "number" s1 && foIfB e ["BadLength", "BadRow", "BadStep", "BadText", "BadDeed"] "at" s2 && foIfB e ["BadName", "Taken"] "name" s3 && foIfB e ["TooGreat", "Full"] "most" s4 && foEndB e "NoSquares" "reason" s5
  | _ => false
/-- what a caught exception's class must be -/
structure XcK (K : PySem.W.Frag) (C : Addr) : Prop where
  fc : XfC K C
  no : ∀ n ∈ (["word", "number", "at", "name", "most", "reason"] : List Str), PySem.W.findIn K (.ref C) n = some none
section
variable {X : Cx} {a C : Addr} {oe : Obj} {d : Option Addr} {e : Str} {i : Nat} {st : Stmt} {W : WX}
/-- the caught exception stands in the state -/
structure HotX (X : Cx) (a C : Addr) (oe : Obj) (d : Option Addr) : Prop where
  k : XcK X.K C
  z : Zc (.ref C) d oe
  f : ∃ vs, oe.data = .fields vs
  p : (a, oe) ∈ X.pn
theorem pe_fld {n : Str} {p pos : Pos} (hx : HotX X a C oe d) (hn : n ∈ (["word", "number", "at", "name", "most", "reason"] : List Str)) (hN : X.N[i]? = some e) (hv : Vis X.env.scope e) (hd : (e == ("__debug__" : Str)) = false) (hcd : (e == ("__classdict__" : Str)) = false) :
    PE X (.Attribute (.Name e p) n pos) (tXf a (.ref C) d C n (tVar i)) := pe_xfG hx.k.fc (hx.k.no n hn) hx.z hx.f hx.p (pe_var hN hv hd hcd) rfl
/-- a list of texts -/
theorem pa_strs : ∀ {es : List Expr} {ws : List Str}, strsB es ws = true → PA X es (fun _ H Q => Q (ws.map V.str) H)
  | [], [], _ => ⟨fun pos pins s σ H Q I h => pa_nil.run pos pins s σ H Q I h⟩
  | [], _ :: _, h => nomatch h
  | .Constant (.str x) j p :: es, w :: ws, h => by
    simp only [strsB, Bool.and_eq_true, decide_eq_true_eq] at h
    obtain ⟨rfl, h⟩ := h
    exact (pa_cons pe_str (pa_strs h)).imp fun s H Q q => q
  | .Constant (.str x) j p :: es, [], h => by simp [strsB] at h
theorem inV_strs (w : Str) (ws : List Str) : inV (.str w) (ws.map V.str) = decide (w ∈ ws) := by
  unfold inV
  rw [List.any_map]
  induction ws with
  | nil => rfl
  | cons u ws ih =>
    rw [List.any_cons, ih]
    by_cases h : u = w
    · subst h
      simp [eqV]
    · have h2 : ¬ w = u := fun z => h z.symm
      simp [eqV, h, h2]
/-- one if -/
def tFi (a : Addr) (i : Nat) (ws : List Str) (f : Str) (dd : Addr) (gs : List (Str × V)) (w : Str) : TS := fun D σ H => σ[i]? = some (some (.ref a)) ∧ H dd = some (.xd gs) ∧ gs.lookup ("word" : Str) = some (.str w) ∧
  if w ∈ ws then ∃ v, gs.lookup f = some v ∧ ∀ H', Kx H H' → D.rt v H' else ∀ H', Kx H H' → D.nx σ H'
theorem ps_foIf {ws : List Str} {f : Str} {dd : Addr} {gs : List (Str × V)} {w : Str} (hx : HotX X a C oe (some dd)) (hf : f ∈ (["word", "number", "at", "name", "most", "reason"] : List Str)) (hz : ws.length ≤ sizeLine) (hN : X.N[i]? = some e) (hv : Vis X.env.scope e) (hd : (e == ("__debug__" : Str)) = false) (hcd : (e == ("__classdict__" : Str)) = false)
    (h : foIfB e ws f st = true) : PS X st (tFi a i ws f dd gs w) := by
  unfold foIfB at h
  split at h
  case h_2 => cases h
  rename_i x _ m _ es _ _ _ y _ g _ _ _
  simp only [Bool.and_eq_true, decide_eq_true_eq] at h
  obtain ⟨⟨⟨⟨rfl, rfl⟩, rfl⟩, rfl⟩, h⟩ := h
  refine (ps_if (pt_cmpR op_in_seq (pe_fld hx (by simp) hN hv hd hcd) (pe_tup (pa_strs h)) (by rfl)) (pss_one (ps_ret (pe_fld hx hf hN hv hd hcd))) pss_nil).imp fun D σ H q => ?_
  obtain ⟨q1, q2, q3, q4⟩ := q
  refine ⟨_, q1, rfl, rfl, dd, gs, _, rfl, q2, q3, ?_⟩
  refine ⟨by rw [List.length_map]; exact hz, fun p hp => ?_⟩
  refine ⟨p, ws.map V.str, rfl, .inr (.inl (.inl upd_same)), rfl, ?_, _, rfl, ?_⟩
  · rw [List.all_map]; exact List.all_eq_true.mpr fun _ _ => rfl
  · rw [if_neg (by decide), inV_strs]
    by_cases hw : w ∈ ws
    · rw [if_pos hw] at q4
      rw [if_pos (by simpa using hw)]
      obtain ⟨v, e1, e2⟩ := q4
      exact ⟨_, q1, rfl, rfl, dd, gs, v, rfl, Kx.upd hp _ _ q2, e1, e2 _ (Kx.upd hp)⟩
    · rw [if_neg hw] at q4
      rw [if_neg (by simpa using hw)]
      exact q4 _ (Kx.upd hp)
def tFe (a : Addr) (i : Nat) (u f : Str) (dd : Addr) (gs : List (Str × V)) (w : Str) : TS := fun D σ H => σ[i]? = some (some (.ref a)) ∧ H dd = some (.xd gs) ∧ gs.lookup ("word" : Str) = some (.str w) ∧ if w = u then ∃ v, gs.lookup f = some v ∧ D.rt v H else D.rt .non H
theorem ps_foEnd {u f : Str} {dd : Addr} {gs : List (Str × V)} {w : Str} (hx : HotX X a C oe (some dd)) (hf : f ∈ (["word", "number", "at", "name", "most", "reason"] : List Str)) (hu : X.A.units + 64 < cLine) (hN : X.N[i]? = some e) (hv : Vis X.env.scope e) (hd : (e == ("__debug__" : Str)) = false) (hcd : (e == ("__classdict__" : Str)) = false)
    (h : foEndB e u f st = true) : PS X st (tFe a i u f dd gs w) := by
  unfold foEndB at h
  split at h
  case h_2 => cases h
  rename_i x _ m _ z _ _ _ y _ g _ _ _ _ _
  simp only [Bool.and_eq_true, decide_eq_true_eq] at h
  obtain ⟨⟨⟨⟨rfl, rfl⟩, rfl⟩, rfl⟩, rfl⟩ := h
  refine (ps_ret (pe_ifExp (pt_cmpR op_eq (pe_fld hx (by simp) hN hv hd hcd) pe_str (by rfl)) (pe_fld hx hf hN hv hd hcd) pe_non)).imp fun D σ H q => ?_
  obtain ⟨q1, q2, q3, q4⟩ := q
  refine ⟨_, q1, rfl, rfl, dd, gs, _, rfl, q2, q3, ?_⟩
  refine ⟨rfl, _, rfl, ?_⟩
  by_cases hw : w = z
  · rw [if_pos hw] at q4
    subst hw
    rw [if_pos (by simp)]
    obtain ⟨v, e1, e2⟩ := q4
    exact ⟨_, q1, rfl, rfl, dd, gs, v, rfl, q2, e1, e2⟩
  · rw [if_neg hw] at q4
    rw [if_neg (by simpa using hw)]
    exact q4
end
end GY

namespace GY
open PySem PySem.Spec PyProof.Rows L2
open L2 (Inv)
open L2H (RoomH PinOk cxH inv_startH roomH_of)
def foName : Nat → Str
  | 0 => "word"
  | 1 => "number"
  | 2 => "at"
  | 3 => "name"
  | 4 => "most"
  | _ => "reason"
/-- what `_law_field_of` tells of the word -/
def FoV (gs : List (Str × V)) (w : Str) (v : V) : Prop := match foPick w with
  | 0 => v = .non
  | i => gs.lookup (foName i) = some v
theorem fo_ok {a dd : Addr} {i : Nat} {gs : List (Str × V)} {w : Str} {v : V} {D : Ends} {σ : L2.St} {H : Hp} (hs : σ[i]? = some (some (.ref a))) (hd : H dd = some (.xd gs)) (hw : gs.lookup ("word" : Str) = some (.str w)) (hv : FoV gs w v) (q : ∀ H', Kx H H' → D.rt v H') :
    tSeq (tFi a i ["BadRoot", "BadCount", "NotLinked"] "number" dd gs w) (tSeq (tFi a i ["BadLength", "BadRow", "BadStep", "BadText", "BadDeed"] "at" dd gs w) (tSeq (tFi a i ["BadName", "Taken"] "name" dd gs w) (tSeq (tFi a i ["TooGreat", "Full"] "most" dd gs w) (tFe a i "NoSquares" "reason" dd gs w)))) D σ H := by
  unfold FoV at hv
  have fp : foPick w = if w ∈ (["BadRoot", "BadCount", "NotLinked"] : List Str) then 1 else if w ∈ (["BadLength", "BadRow", "BadStep", "BadText", "BadDeed"] : List Str) then 2
    else if w ∈ (["BadName", "Taken"] : List Str) then 3 else if w ∈ (["TooGreat", "Full"] : List Str) then 4 else if w = "NoSquares" then 5 else 0 := rfl
  refine ⟨hs, hd, hw, ?_⟩
  by_cases h1 : w ∈ (["BadRoot", "BadCount", "NotLinked"] : List Str)
  · rw [fp, if_pos h1] at hv
    rw [if_pos h1]
    exact ⟨v, hv, q⟩
  rw [if_neg h1] at fp ⊢
  intro Ha ka
  refine ⟨hs, ka _ _ hd, hw, ?_⟩
  by_cases h2 : w ∈ (["BadLength", "BadRow", "BadStep", "BadText", "BadDeed"] : List Str)
  · rw [fp, if_pos h2] at hv
    rw [if_pos h2]
    exact ⟨v, hv, fun H' k => q H' (ka.trans k)⟩
  rw [if_neg h2] at fp ⊢
  intro Hb kb
  refine ⟨hs, kb _ _ (ka _ _ hd), hw, ?_⟩
  by_cases h3 : w ∈ (["BadName", "Taken"] : List Str)
  · rw [fp, if_pos h3] at hv
    rw [if_pos h3]
    exact ⟨v, hv, fun H' k => q H' (ka.trans (kb.trans k))⟩
  rw [if_neg h3] at fp ⊢
  intro Hc kc
  refine ⟨hs, kc _ _ (kb _ _ (ka _ _ hd)), hw, ?_⟩
  by_cases h4 : w ∈ (["TooGreat", "Full"] : List Str)
  · rw [fp, if_pos h4] at hv
    rw [if_pos h4]
    exact ⟨v, hv, fun H' k => q H' (ka.trans (kb.trans (kc.trans k)))⟩
  rw [if_neg h4] at fp ⊢
  intro He ke
  refine ⟨hs, ke _ _ (kc _ _ (kb _ _ (ka _ _ hd))), hw, ?_⟩
  by_cases h5 : w = "NoSquares"
  · rw [fp, if_pos h5] at hv
    rw [if_pos h5]
    exact ⟨v, hv, q _ (ka.trans (kb.trans (kc.trans ke)))⟩
  · rw [fp, if_neg h5] at hv
    rw [if_neg h5]
    have hv : v = .non := hv
    subst hv
    exact q _ (ka.trans (kb.trans (kc.trans ke)))
section
variable {X : Cx} {a C : Addr} {oe : Obj} {d : Option Addr} {e : Str} {i : Nat} {st : Stmt} {W : WX}
theorem pss_fo {body : List Stmt} {dd : Addr} {gs : List (Str × V)} {w : Str} (hx : HotX X a C oe (some dd)) (hu : X.A.units + 64 < cLine) (hN : X.N[i]? = some e) (hv : Vis X.env.scope e) (hd : (e == ("__debug__" : Str)) = false) (hcd : (e == ("__classdict__" : Str)) = false) (h : foB e body = true) :
    PSs X body (tSeq (tFi a i ["BadRoot", "BadCount", "NotLinked"] "number" dd gs w) (tSeq (tFi a i ["BadLength", "BadRow", "BadStep", "BadText", "BadDeed"] "at" dd gs w) (tSeq (tFi a i ["BadName", "Taken"] "name" dd gs w) (tSeq (tFi a i ["TooGreat", "Full"] "most" dd gs w) (tFe a i "NoSquares" "reason" dd gs w))))) := by
  unfold foB at h
  split at h
  case h_2 => cases h
  simp only [Bool.and_eq_true] at h
  obtain ⟨⟨⟨⟨h1, h2⟩, h3⟩, h4⟩, h5⟩ := h
  exact pss_cons (ps_foIf hx (by simp) (by decide) hN hv hd hcd h1) (pss_cons (ps_foIf hx (by simp) (by decide) hN hv hd hcd h2) (pss_cons (ps_foIf hx (by simp) (by decide) hN hv hd hcd h3) (pss_cons (ps_foIf hx (by simp) (by decide) hN hv hd hcd h4) (pss_one (ps_foEnd hx (by simp) hu hN hv hd hcd h5)))))
/-- f(e) in an except suite, e the caught exception at p -/
theorem pe_callP {f : Addr} {name qual pr x : Str} {params : Arguments} {body : List Stmt} {scope : Scope} {dV kV doc pm cdv ct oc : Value} {an od : Option Addr} {osl : Array (Option Value)} {N : List Str} {k : Nat} {p : Addr × Obj} {te : TE} {ee : Expr} {q pos : Pos}
    (lk : X.K.lookup f = some ⟨oc, od, .func (PySem.W.fnOf name qual params body scope dV kV doc pm an cdv ct), osl⟩) (hcd : PySem.W.codeIn X.K cdv qual = true) (S : FnScope N [pr] scope) (hb : Binds X.K (PySem.W.fnOf name qual params body scope dV kV doc pm an cdv ct) [pr] [])
    (hk : PySem.W.keepIn X.K (.ref f) = true) (hr : RoomH (k + 1) X.A) (hp : p ∈ X.pn) (hg : Gl X x) (hm : X.mg x = some (.ref f)) (hdb : (x == ("__debug__" : Str)) = false) (he : PE X ee te) (hs : isStar ee = false) {R : Hp → VK → Prop}
    (hbody : ∀ (A : Around) (outer : List Env) (s : Shared) (H : Hp) (Q : VK), RoomH k (A.deeper (envOfC qual scope s.heap.objs.size f cdv)) → R H Q →
      ∃ t, PSs (cxH C8.CX0 X.prog X.w X.K X.mg X.base N qual scope f cdv A outer s H C8.E0 p) body t ∧ t { nx := fun _ H' => Q .non H', rt := Q } (L2.start N [.ref p.1]) H) :
    PE X (.Call (.Name x q) [ee] [] pos) (fun σ H Q => te σ H fun v H1 => v = .ref p.1 ∧ R H1 Q) := by
  refine ⟨fun pins s σ H Q I h => ?_⟩
  refine wpAny_Call_Name_kw (ld_glob I hg hm ?_ hdb)
  refine PySem.W.callWith_K (h₀ := X.base) I.ok.mod.kin hk (thn ((pa_cons he pa_nil (starEach_plain hs)).run pos pins s σ H (fun vs H1 => vs = [.ref p.1] ∧ R H1 Q) I ?_) fun us s1 ⟨vs, H1, I1, rv, q1⟩ => ⟨I1.kIn, ?_⟩) (starEach_plain hs) rfl
  · have key : ∀ {Q1 Q2 : VK}, (∀ v H1, Q1 v H1 → Q2 v H1) → Q1 = (fun v H1 => v = .ref p.1 ∧ R H1 Q) → te σ H Q1 → te σ H Q2 → te σ H Q2 := fun _ _ _ z => z
    show te σ H fun v H1 => [v] = [V.ref p.1] ∧ R H1 Q
    have e : (fun (v : V) (H1 : Hp) => [v] = [V.ref p.1] ∧ R H1 Q) = (fun v H1 => v = .ref p.1 ∧ R H1 Q) := by
      funext v H1
      simp
    rw [e]
    exact h
  · obtain ⟨rfl, q1⟩ := q1
    cases rv with
    | @cons _ u _ _ r1 r2 =>
    cases r2
    have b := hb s1 [u] I1.kIn (by rfl)
    rw [List.append_nil] at b
    have P1 := I1.pin p (List.mem_append_left _ hp)
    have hpin : PinOk X.stack H1 s1 p := ⟨P1.1, P1.2.1, fun hm => (List.mem_cons.mp (I1.stkSub p.1 hm)).elim P1.2.2.1 P1.2.2.2.1, P1.2.2.2.2⟩
    have e0 := I1.env0
    have hl : [V.ref p.1].length = [pr].length := rfl
    have r : Vals [V.ref p.1] [u] := .cons r1 .nil
    have run : codeAny (model X.prog X.w) X.A (.call (.ref f) ⟨[u], []⟩) (CR C8.CX0 X.stack X.prog X.w H1 s1 Q C8.E0) s1 := by
      have KX : X.K.In s1.heap := e0.mod.kin.keeps fun b o e => (e0.bs b o e).1
      have lim : s1.heap.NoLimit := e0.mod.nolimit.keeps fun b o e => (e0.bs b o e).1
      have hkind : ∀ y ∈ [pr].zip [u], scope.names.lookup y.1 = some .local ∨ (scope.names.lookup y.1 = some .cell ∧ ((cellsFrom (s1.heap.objs.size + 1) scope.names []).lookup y.1).isSome = true) := fun ⟨n, v⟩ hy => by
        rcases S.par n (List.of_mem_zip hy).1 with q | q
        · exact .inl q
        · exact .inr ⟨q, PySem.W.cellsFrom_some _ _ _ (.inl q)⟩
      refine codeAny_call_function hr.depth (KX _ _ lk) rfl S.co S.gen rfl (PySem.W.codeRec_of KX hcd) (b _ _ _ _ ?_)
      refine wpAny_newFunctionEnv_cells S.kind hkind fun env he s2 x => ?_
      subst he
      refine ⟨lim.keeps x.toInCall.keep, codeAny_func ?_⟩
      obtain ⟨t, ht, hq⟩ := hbody X.A X.stack s1 H1 Q (hr.deeper _) q1
      have J : Inv (cxH C8.CX0 X.prog X.w X.K X.mg X.base N qual scope f cdv X.A X.stack s1 H1 C8.E0 p) [] (L2.start N [.ref p.1]) H1 s2 := inv_startH S hpin e0 hl r x
      refine wpAny_mono (ht.run [] s2 (L2.start N [.ref p.1]) H1 _ J hq) (fun fl s' hs => ?_) fun e s' hs => hs
      have fin : ∀ {σ' : L2.St} {H' : Hp} {v : V} {u : Value}, Inv (cxH C8.CX0 X.prog X.w X.K X.mg X.base N qual scope f cdv X.A X.stack s1 H1 C8.E0 p) [] σ' H' s' → RelV v u → Q v H' → CE X.stack X.prog X.w H1 s1 Q u s' :=
        fun {σ' H' v u} J rv q => ⟨v, H', J.os, J.bare, J.base, J.hok, rv, q⟩
      cases fl with
      | ret u =>
        obtain ⟨v, σ', H', J, rv, q⟩ := hs
        exact fin J rv q
      | next =>
        obtain ⟨σ', H', J, q⟩ := hs
        exact fin (v := V.non) (u := Value.none) J rfl q
      | brk =>
        obtain ⟨_, _, _, q⟩ := hs
        exact False.elim q
      | cont =>
        obtain ⟨_, _, _, q⟩ := hs
        exact False.elim q
    refine wpAny_call (codeAny_mono run fun r s' hq => ?_)
    cases r with
    | error e => exact (show False from hq).elim
    | ok fl =>
      cases fl with
      | ret u => exact I1.after hq
      | next => exact False.elim hq
      | brk => exact False.elim hq
      | cont => exact False.elim hq
/-- told: what `_law_try` makes of the lambda's reading -/
def TTry (K : PySem.W.Frag) (CG : Addr) : (XK → Hp → VK → Prop) → Hp → VK → Prop := fun tl H Q =>
  tl (fun cls d H1 => ∃ (C dd : Addr) (gs : List (Str × V)) (w : Str) (v : V), cls = .ref C ∧ d = some dd ∧ H1 dd = some (.xd gs) ∧ XcK K C ∧ PySem.W.exmOne K (.ref C) (.ref CG) = some true ∧ gs.lookup ("word" : Str) = some (.str w) ∧ FoV gs w v ∧
      ∀ H2, Kx H1 H2 → ∀ p, H2 p = none → Q (.ref p) (upd H2 p (.tup [.str w, v])))
    H (fun v H1 => [V.str "told", v].length ≤ sizeLine ∧ ∀ p, H1 p = none → Q (.ref p) (upd H1 p (.tup [.str "told", v])))
theorem try_gives {Ng Nf : List Str} {x a e fo gx pr q : Str} {sg sf : Scope} {g CG f1 : Addr} {cdg : Value} {ie j1 k1 k2 : Nat} {p1 p2 p3 p4 p5 p6 p7 p8 p9 p10 p11 p12 p13 p14 p15 : Pos} {rest : List ExceptHandler} {kk : Nat}
    {qf : Str} {pf : Arguments} {bf : List Stmt} {dV kV doc pm cdv ct oc : Value} {an od : Option Addr} {osl : Array (Option Value)}
    (hr : Room (kk + 3) X.A) (hNg : Ng.Nodup) (hie : Ng[ie]? = some e) (hle : sg.names.lookup e = some .local) (hge : sg.names.lookup gx = some .globalImplicit) (hme : X.mg gx = some (.ref CG)) (hde : (gx == ("__debug__" : Str)) = false)
    (hed : (e == ("__debug__" : Str)) = false) (hecd : (e == ("__classdict__" : Str)) = false)
    (h0 : ∀ f : Addr, (L2.start Ng [V.ref f])[0]? = some (some (V.ref f)))
    (lk : X.K.lookup f1 = some ⟨oc, od, .func (PySem.W.fnOf fo qf pf bf sf dV kV doc pm an cdv ct), osl⟩) (hcf : PySem.W.codeIn X.K cdv qf = true) (Sf : FnScope Nf [pr] sf) (hNf : Nf[0]? = some pr) (hvf : Vis sf pr) (hpd : (pr == ("__debug__" : Str)) = false) (hpcd : (pr == ("__classdict__" : Str)) = false)
    (hbf : Binds X.K (PySem.W.fnOf fo qf pf bf sf dV kV doc pm an cdv ct) [pr] []) (hkf : PySem.W.keepIn X.K (.ref f1) = true) (hgf : sg.names.lookup fo = some .globalImplicit) (hmf : X.mg fo = some (.ref f1)) (hdf : (fo == ("__debug__" : Str)) = false) (hB : foB pr bf = true) :
    LamX.GivesTo X Ng x sg g cdg [.Try [.Return (some (.Tuple [.Constant (.str "told") j1 p1, .Call (.Name a p2) [] [] p3] k1 p4)) p5]
      (.ExceptHandler (some (.Name gx p6)) (some e) [.Return (some (.Tuple [.Attribute (.Name e p7) "word" p8, .Call (.Name fo p9) [.Name e p10] [] p11] k2 p12)) p13] p14 :: rest) [] [] p15] a q (TTry X.K CG) := by
  intro f c' s H Q tl act hc h
  have hgl : Gl (cxOf C8.CX0 X.prog X.w X.K X.mg X.base Ng x sg g cdg X.A X.stack s H C8.E0).nox gx := hge
  refine ⟨_, pss_one (ps_try_first (X := (cxOf C8.CX0 X.prog X.w X.K X.mg X.base Ng x sg g cdg X.A X.stack s H C8.E0).nox) (c := .ref CG) (i := ie)
      (tb := fun W D σ H => ∃ Ech : XK, (∀ cls d σ' H', Ech cls d H' → W cls d σ' H') ∧ σ[0]? = some (some (.ref f)) ∧ H c' = some (LamX.CodeO c' q) ∧ tl Ech H (fun v H1 => [V.str "told", v].length ≤ sizeLine ∧ ∀ p, H1 p = none → D.rt (.ref p) (upd H1 p (.tup [.str "told", v]))))
      (ts := fun a cls d D σ H => ∃ (σ0 : L2.St) (C dd : Addr) (gs : List (Str × V)) (w : Str) (v : V), σ = σ0.set ie (some (.ref a)) ∧ cls = .ref C ∧ d = some dd ∧ H dd = some (.xd gs) ∧ XcK X.K C ∧ gs.lookup ("word" : Str) = some (.str w) ∧ FoV gs w v ∧
        ∀ H2, Kx H H2 → ∀ p, H2 p = none → D.rt (.ref p) (upd H2 p (.tup [.str w, v])))
      rfl rfl hNg hie hle ⟨hgl, hde, .inl hme⟩ (fun W pn xe tk _ => ?_) (fun a oe cls d pn hz hf => ?_)), ?_⟩
  · refine ⟨fun pins s' σ H' D I h' => ?_⟩
    obtain ⟨Ech, hW, h1, h2, h3⟩ := h'
    have hp := act W pn xe Ech p2 p3 tk hW
    have hq := pss_one (ps_ret (pos := p5) (pe_tup (x1 := k1) (pos := p4) (pa_cons (pe_str (x := ("told" : Str)) (j := j1) (pos := p1)) (pa_cons hp pa_nil))))
    exact hq.run pins s' σ H' D I ⟨h1, h2, h3⟩
  · refine ⟨fun pins s' σ H' D I h' => ?_⟩
    obtain ⟨σ0, C, dd, gs, w, v, rfl, rfl, rfl, hdd, hk, hw, hv, hq⟩ := h'
    have hs : (σ0.set ie (some (V.ref a)))[ie]? = some (some (V.ref a)) := by
      have := I.len
      rw [List.length_set] at this
      rw [List.getElem?_set_self]
      rw [this]
      exact (List.getElem?_eq_some_iff.mp hie).1
    have hx : HotX ((cxOf C8.CX0 X.prog X.w X.K X.mg X.base Ng x sg g cdg X.A X.stack s H C8.E0).nox.suite a ((a, oe) :: pn)) a C oe (some dd) := ⟨hk, hz, hf, List.mem_cons_self⟩
    have hve : Vis sg e := .inl hle
    have r2 := roomH_of (hr.mono (show (kk + 2) + 1 ≤ kk + 3 by omega))
    have r3 : RoomH (kk + 1 + 1) (X.A.deeper (envOfC x sg s.heap.objs.size g cdg)) := r2.deeper _
    have r4 : RoomH (kk + 1 + 1) ((X.A.deeper (envOfC x sg s.heap.objs.size g cdg)).mark (some (.ref a))) := ⟨r3.dp, r3.un⟩
    have call := pe_callP (X := (cxOf C8.CX0 X.prog X.w X.K X.mg X.base Ng x sg g cdg X.A X.stack s H C8.E0).nox.suite a ((a, oe) :: pn)) (q := p9) (pos := p11) (x := fo) (p := (a, oe)) lk hcf Sf hbf hkf r4 List.mem_cons_self hgf hmf hdf (pe_var (pos := p10) (i := ie) hie hve hed hecd) rfl
      (R := fun H1 Q => H1 dd = some (.xd gs) ∧ ∀ H', Kx H1 H' → Q v H') (fun A outer s2 H2 Q2 hr2 ⟨g1, g2⟩ => by
        refine ⟨_, pss_fo (X := cxH C8.CX0 X.prog X.w X.K X.mg X.base Nf qf sf f1 cdv A outer s2 H2 C8.E0 (a, oe)) (a := a) (C := C) (oe := oe) (i := 0) (w := w) (gs := gs) ⟨hk, hz, hf, List.mem_cons_self⟩ (by have := hr2.un; show (A.deeper _).units + 64 < cLine; omega) hNf hvf hpd hpcd hB, ?_⟩
        refine fo_ok ?_ g1 hw hv g2
        cases Nf with
        | nil => cases hNf
        | cons n Nf => rfl)
    have r := pss_one (ps_ret (pos := p13) (pe_tup (x1 := k2) (pos := p12) (pa_cons (pe_fld (p := p7) (pos := p8) (n := "word") hx (by simp) hie hve hed hecd) (pa_cons call pa_nil))))
    exact r.run pins s' _ H' D I ⟨_, hs, rfl, rfl, dd, gs, .str w, rfl, hdd, hw, _, hs, rfl, hdd, fun H2 k2 => ⟨by simp [sizeLine_eq], fun p hp => hq H2 k2 p hp⟩⟩
  · refine ⟨_, fun cls d σ' H' z => ?_, h0 f, hc, h⟩
    obtain ⟨C, dd, gs, w, v, rfl, rfl, e1, e2, e3, e4, e5, e6⟩ := z
    exact ⟨e3, fun a na => ⟨σ', C, dd, gs, w, v, rfl, rfl, rfl, e1, e2, e4, e5, e6⟩⟩
end
end GY

namespace GY
open PySem PySem.Spec PyProof.Rows L2
open L2 (Inv)
/-- the numbers of the names, the classes -/
structure TryN (G : Sg) (K : PySem.W.Frag) (CG : Addr) (ns cs : List Nat) : Prop where
  nm : ∀ i, i < 6 → G.fld (ns.getD i 0) = foName i
  cl : ∀ c ∈ cs, XcK K (G.cls c) ∧ PySem.W.exmOne K (.ref (G.cls c)) (.ref CG) = some true
theorem foPick_lt (w : Str) : foPick w < 6 := by
  unfold foPick
  repeat' split
  all_goals decide
theorem mkTup_ok {G : Sg} {ds : List D} {vs : List V} {il : Lay} {H : Hp} {h : Hs} {Q : VK} {E : XK} (w : WR G il H h) (r : Reps G il H ds vs) (q : after G (mkTup ds h) il H Q E) : vs.length ≤ sizeLine ∧ ∀ p, H p = none → Q (.ref p) (upd H p (.tup vs)) := by
  unfold mkTup at q
  split at q
  · rename_i hc
    obtain ⟨nl, hz⟩ := mk_cond hc
    refine ⟨by rw [← r.length]; exact hz, fun p hp => ?_⟩
    obtain ⟨e, w', r'⟩ := Rep.newT w hp nl r
    exact q _ il _ e w' r'
  · exact q.elim
section
variable {X : Cx} {G : Sg} {W : WX}
theorem s_try {T : Unit} {CG : Addr} {ns cs : List Nat} {v : Env1 → Hs → Out D} {e : Expr} (inj : ∀ i j, G.fld i = G.fld j → i = j) (N : TryN G X.K CG ns cs)
    (h : PE X e (LamX.tLam G.tab (TTry X.K CG) (fun E => tV G (fun cls d _ H => E cls d H) v))) : PE X e (tV G W fun r h => tryD ns cs (v r h)) := by
  refine h.imp fun σ H Q ⟨il, hs, r, w, er, q⟩ => ⟨w.tab, fun H1 eN T1 => ?_⟩
  obtain ⟨x1, w1⟩ := ext_tabs w eN T1
  refine ⟨il, hs, r, w1, er.ext x1, ?_⟩
  have q : after G (tryD ns cs (v r hs)) il H Q (fun c a H' => W c a σ H') := q
  cases o : v r hs with
  | stuck => rw [o] at q; exact q.elim
  | ok d h1 =>
    rw [o] at q
    intro v' il' H' e' w' r'
    exact mkTup_ok w' (.cons (.str _) (.cons r' .nil)) (after.mono (x1.trans e') q)
  | exc x h1 =>
    rw [o] at q
    intro cls a il' H' e' w' rx
    obtain ⟨c, fs, dd, gs, rfl, rfl, rfl, hd, hoff, nl, en, rs⟩ := rx
    unfold tryD at q
    dsimp only at q
    split at q
    case h_2 => exact q.elim
    rename_i ds hds
    unfold tellX at hds
    dsimp only at hds
    split at hds
    case isFalse => cases hds
    rename_i hc
    have hc : c ∈ cs := by simpa using hc
    obtain ⟨k1, k2⟩ := N.cl c hc
    split at hds
    case h_2 => cases hds
    rename_i wd hw
    obtain ⟨u, e1, r1⟩ := lookup_some inj en rs hw
    rw [N.nm 0 (by decide)] at e1
    rw [r1.str_inv] at e1
    have fin : ∀ {d : D} {u : V}, Rep G il' H' d u → ds = [.str wd, d] → FoV gs wd u → _ := fun {d u} ru ed hv =>
      (⟨_, dd, gs, wd, u, rfl, rfl, hd, k1, k2, e1, hv, fun H2 kx p hp => by
        subst ed
        obtain ⟨x2, w2⟩ := ext_tabs w' (LamX.ExtN.of kx) (w'.tab.ext kx)
        exact (mkTup_ok w2 (.cons (.str _) (.cons (ru.ext x2) .nil)) (after.mono ((x1.trans e').trans x2) q)).2 p hp⟩ :
        ∃ (C dd : Addr) (gs : List (Str × V)) (w : Str) (v : V), (Value.ref (G.cls c)) = .ref C ∧ some _ = some dd ∧ H' dd = some (.xd gs) ∧ XcK X.K C ∧ PySem.W.exmOne X.K (.ref C) (.ref CG) = some true ∧ gs.lookup ("word" : Str) = some (.str w) ∧ FoV gs w v ∧
      ∀ H2, Kx H' H2 → ∀ p, H2 p = none → Q (.ref p) (upd H2 p (.tup [.str w, v])))
    cases hp : foPick wd with
    | zero =>
      rw [hp] at hds
      try dsimp only at hds
      exact fin .non (Option.some.inj hds).symm (by unfold FoV; rw [hp]; rfl)
    | succ i =>
      rw [hp] at hds
      have hds : (match fs.lookup (ns.getD (i + 1) 0) with | some d => some [.str wd, d] | none => none) = some ds := hds
      cases hd2 : fs.lookup (ns.getD (i + 1) 0) with
      | none => rw [hd2] at hds; cases hds
      | some d2 =>
        rw [hd2] at hds
        obtain ⟨u2, e2, r2⟩ := lookup_some inj en rs hd2
        rw [N.nm (i + 1) (by have := foPick_lt wd; omega)] at e2
        exact fin r2 (Option.some.inj hds).symm (by unfold FoV; rw [hp]; exact e2)
end
end GY

namespace GY
open PySem PySem.Spec PyProof.Rows L2
theorem cmpD_bl {cop : Cop} {x y d : D} {h h' : Hs} (e : cmpD cop x y h = .ok d h') : ∃ k, d = .bl k ∧ h' = h := by
  unfold cmpD at e
  cases cop <;> dsimp only at e <;> (split at e <;> first | (cases e; exact ⟨_, rfl, rfl⟩) | (cases e) | (split at e <;> first | (cases e; exact ⟨_, rfl, rfl⟩) | cases e))
theorem cmpD_ex {cop : Cop} {x y : D} {h : Hs} : (∃ k, cmpD cop x y h = .ok (.bl k) h) ∨ cmpD cop x y h = .stuck := by
  cases e : cmpD cop x y h with
  | stuck => exact .inr rfl
  | exc a b =>
    exfalso
    unfold cmpD at e
    cases cop <;> dsimp only at e <;> (split at e <;> first | (cases e; done) | (split at e <;> cases e))
  | ok d h' =>
    obtain ⟨k, rfl, rfl⟩ := cmpD_bl e
    exact .inl ⟨k, rfl⟩
section
variable {X : Cx} {G : Sg} {W : WX} {a b c d : Expr} {va vb vc vd : Env1 → Hs → Out D} {pos : Pos}
/-- the links of a chain of three -/
theorem link3 {k1 k2 k3 : Cop} {o1 o2 : CmpOp} (p1 : CopIs k1 o1) (p2 : CopIs k2 o2) (hu : X.A.units + 65 < cLine) (hK : X.K = G.K) (ha : PE X a (tV G W va)) (hb : PE X b (tV G W vb)) (hc : PE X c (tV G W vc)) (hd : PE X d (tV G W vd))
    {pins : List (Addr × Obj)} {s : Shared} {σ : L2.St} {H : Hp} {Q : VK} (I : Inv X pins σ H s) (h : tV G W (cmp3D k1 k2 k3 va vb vc vd) σ H Q) {R : Value → Shared → Prop} {S3 : Value → Value → Shared → Prop}
    (hf : ∀ s' H', Inv X pins σ H' s' → Q (.bl false) H' → R (.bool false) s')
    (hl : ∀ (s' : Shared) (il : Lay) (H4 : Hp) (h4 : Hs) (y w : V) (v u : Value) (dw du : D), Inv X pins σ H4 s' → RelV y v → RelV w u → WR G il H4 h4 → Rep G il H4 dw y → Rep G il H4 du w → after G (cmpD k3 dw du h4) il H4 Q (fun c a H' => W c a σ H') → S3 v u s') :
    wpAny (model X.prog X.w) X.A (eval a X.env) (fun v1 s1 => wpAny (model X.prog X.w) X.A (eval b X.env) (fun v2 s2 => wpAny (model X.prog X.w) X.A (compareOp o1 v1 v2) (fun c1 s3 => wpAny (model X.prog X.w) X.A (truthy c1) (fun t s4 =>
      if t then wpAny (model X.prog X.w) X.A (eval c X.env) (fun v3 s5 => wpAny (model X.prog X.w) X.A (compareOp o2 v2 v3) (fun c2 s6 => wpAny (model X.prog X.w) X.A (truthy c2) (fun t2 s7 => if t2 then wpAny (model X.prog X.w) X.A (eval d X.env) (fun v4 s8 => S3 v3 v4 s8) X.xe s7 else R c2 s7) X.xe s6) X.xe s5) X.xe s4 else R c1 s4) X.xe s3) X.xe s2) X.xe s1) X.xe s := by
  obtain ⟨il, h0, r, w, er, q⟩ := h
  unfold cmp3D at q
  refine thn (ha.run pins s σ H _ I ⟨il, h0, r, w, er, after.bind q⟩) fun v1 s1 ⟨x, H1, I1, r1, il1, h1, dx, e1, w1, rx, q1⟩ => ?_
  refine thn (hb.run pins s1 σ H1 _ I1 ⟨il1, h1, r, w1, er.ext e1, after.bind q1⟩) fun v2 s2 ⟨y, H2, I2, r2, il2, h2, dy, e2, w2, ry, q2⟩ => ?_
  rcases cmpD_ex (cop := k1) (x := dx) (y := dy) (h := h2) with ⟨k, ek⟩ | ek
  rotate_left
  · rw [ek] at q2; exact q2.elim
  have step : after G (cmpD k1 dx dy h2) il2 H2 (fun v H' => v = .bl k ∧ ∃ il', Ext il2 H2 il' H' ∧ WR G il' H' h2) (fun _ _ _ => False) := by
    rw [ek]; exact fun v il' H' e w r => ⟨r.bl_inv, il', e, w⟩
  refine thn (cmp_ok p1 hu I2 hK r1 r2 w2 (rx.ext e2) ry step) fun c1 s3 ⟨z, H3, I3, r3, ez, il3, e3, w3⟩ => ?_
  subst ez
  cases r3
  refine wpAny_truthy_bool ?_
  rw [ek] at q2
  cases k with
  | false => exact ite_ff (hf _ _ I3 (q2 _ il3 H3 e3 w3 (.bl _)))
  | true =>
    have q2 : after G ((vc r h2).bind fun w h4 => match cmpD k2 dy w h4 with
      | .ok (.bl true) _ => (vd r h4).bind fun u h6 => cmpD k3 w u h6
      | .ok (.bl false) _ => .ok (.bl false) h4
      | _ => .stuck) il2 H2 Q (fun c a H' => W c a σ H') := q2
    refine ite_tt (thn (hc.run pins s3 σ H3 _ I3 ⟨il3, h2, r, w3, er.ext (e1.trans (e2.trans e3)), after.bind (after.mono e3 q2)⟩) fun v3 s5 ⟨y3, H5, I5, r5, il5, h5, d5, e5, w5, rp5, q5⟩ => ?_)
    rcases cmpD_ex (cop := k2) (x := dy) (y := d5) (h := h5) with ⟨k', ek'⟩ | ek'
    rotate_left
    · rw [ek'] at q5; exact q5.elim
    have step2 : after G (cmpD k2 dy d5 h5) il5 H5 (fun v H' => v = .bl k' ∧ ∃ il', Ext il5 H5 il' H' ∧ WR G il' H' h5) (fun _ _ _ => False) := by
      rw [ek']; exact fun v il' H' e w r => ⟨r.bl_inv, il', e, w⟩
    refine thn (cmp_ok p2 hu I5 hK r2 r5 w5 (ry.ext (e3.trans e5)) rp5 step2) fun c2 s6 ⟨z, H6, I6, r6, ez, il6, e6, w6⟩ => ?_
    subst ez
    cases r6
    refine wpAny_truthy_bool ?_
    rw [ek'] at q5
    cases k' with
    | false => exact ite_ff (hf _ _ I6 (q5 _ il6 H6 e6 w6 (.bl _)))
    | true =>
      have q5 : after G ((vd r h5).bind fun u h6 => cmpD k3 d5 u h6) il5 H5 Q (fun c a H' => W c a σ H') := q5
      refine ite_tt (thn (hd.run pins s6 σ H6 _ I6 ⟨il6, h5, r, w6, er.ext (e1.trans (e2.trans (e3.trans (e5.trans e6)))), after.bind (after.mono e6 q5)⟩) fun v4 s8 ⟨y4, H8, I8, r8, il8, h8, d8, e8, w8, rp8, q8⟩ => ?_)
      exact hl s8 il8 H8 h8 y3 y4 v3 v4 d5 d8 I8 r5 r8 w8 (rp5.ext (e6.trans e8)) rp8 q8
theorem s_cmp3 {k1 k2 k3 : Cop} {o1 o2 o3 : CmpOp} (p1 : CopIs k1 o1) (p2 : CopIs k2 o2) (p3 : CopIs k3 o3) (hu : X.A.units + 65 < cLine) (hK : X.K = G.K) (hm : lastMarks [o1, o2, o3] [b, c, d] = false) (ha : PE X a (tV G W va)) (hb : PE X b (tV G W vb)) (hc : PE X c (tV G W vc)) (hd : PE X d (tV G W vd)) :
    PE X (.Compare a [o1, o2, o3] [b, c, d] pos) (tV G W (cmp3D k1 k2 k3 va vb vc vd)) := by
  refine ⟨fun pins s σ H Q I h => ?_⟩
  refine Compare_chain (thn (link3 (R := EP X pins σ Q) (S3 := fun v u s' => wpAny (model X.prog X.w) X.A (compareOp o3 v u) (EP X pins σ Q) X.xe s') p1 p2 hu hK ha hb hc hd I h (fun s' H' I' q => ⟨.bl false, H', I', rfl, q⟩) (fun s' il H4 h4 y w v u dw du I' r1 r2 w' g1 g2 q => cmp_ok p3 hu I' hK r1 r2 w' g1 g2 q))
    fun v1 s1 z1 => chain_link (thn z1 fun v2 s2 z2 => thn z2 fun c1 s3 z3 => thn z3 fun t s4 z4 => ?_)) hm
  cases t with
  | false => exact z4
  | true =>
    refine chain_link (thn (show wpAny _ _ _ _ _ _ from z4) fun v3 s5 z5 => thn z5 fun c2 s6 z6 => thn z6 fun t2 s7 z7 => ?_)
    cases t2 with
    | false => exact z7
    | true => exact chain_last (thn (show wpAny _ _ _ _ _ _ from z7) fun v4 s8 z8 => z8)
theorem t_cmp3 {k1 k2 k3 : Cop} {o1 o2 o3 : CmpOp} (p1 : CopIs k1 o1) (p2 : CopIs k2 o2) (p3 : CopIs k3 o3) (hu : X.A.units + 65 < cLine) (hK : X.K = G.K) (hm : lastMarks [o1, o2, o3] [b, c, d] = false) (ha : PE X a (tV G W va)) (hb : PE X b (tV G W vb)) (hc : PE X c (tV G W vc)) (hd : PE X d (tV G W vd)) :
    PT X (.Compare a [o1, o2, o3] [b, c, d] pos) (tB1 G W (tstOf (cmp3D k1 k2 k3 va vb vc vd))) := by
  refine ⟨fun pins s σ H Q I h => ?_⟩
  have h' : tV G W (cmp3D k1 k2 k3 va vb vc vd) σ H fun x H' => ∃ k, TruV X.K x H' k ∧ Q k H' := by
    obtain ⟨il, h, r, w, er, q⟩ := h
    refine ⟨il, h, r, w, er, after_imp (afterB.bind q) fun x H1 ⟨il1, h1, dx, e1, w1, r1, q1⟩ => ?_⟩
    split at q1
    · rename_i b e
      exact ⟨b, by rw [hK]; exact truth_ok w1 r1 e, q1 il1 H1 .refl w1⟩
    · exact q1.elim
  refine isTrue_chain (thn (link3 (R := fun _ s' => ∃ H', Inv X pins σ H' s' ∧ Q false H') (S3 := fun v u s' => wpAny (model X.prog X.w) X.A (compareOp o3 v u) (EP X pins σ fun x H' => ∃ k, TruV X.K x H' k ∧ Q k H') X.xe s') p1 p2 hu hK ha hb hc hd I h' (fun s' H' I' q => ?_) (fun s' il H4 h4 y w v u dw du I' r1 r2 w' g1 g2 q => cmp_ok p3 hu I' hK r1 r2 w' g1 g2 q))
    fun v1 s1 z1 => test_link (thn z1 fun v2 s2 z2 => thn z2 fun c1 s3 z3 => thn z3 fun t s4 z4 => ?_)) hm
  · obtain ⟨k, hk, q⟩ := q
    have : k = false := hk
    subst this
    exact ⟨H', I', q⟩
  · cases t with
    | false => obtain ⟨H', I', q⟩ := z4; exact ⟨H', I', q⟩
    | true =>
      refine test_link (thn (show wpAny _ _ _ _ _ _ from z4) fun v3 s5 z5 => thn z5 fun c2 s6 z6 => thn z6 fun t2 s7 z7 => ?_)
      cases t2 with
      | false => obtain ⟨H', I', q⟩ := z7; exact ⟨H', I', q⟩
      | true => exact test_last (thn (show wpAny _ _ _ _ _ _ from z7) fun v4 s8 z8 => thn z8 fun c s9 ⟨x, H1, I1, r1, q1⟩ => tru_ok pins s9 σ H1 x c Q I1 r1 q1)
end
end GY

namespace GY
open PySem PySem.Spec PyProof.Rows L2

/-! ### the checker: does the code E stand for the expression? -/
structure CT where
  sc : Scope
  N : List Str
  blk : Bool
  fids : List (Str × Nat)
  ps : List (Nat × List Str)
  names : List Str
  flds : List Nat
  prps : List Nat
  mets : List Nat
  cids : List (Str × Nat)
  subs : List (Nat × List Nat)
  xids : List (Str × Nat × Str × Option Nat) := []
  tryn : List Str := []
  trs : List (List Nat × List Nat) := []
  lam : Bool := false
def visB (sc : Scope) (x : Str) : Bool := match sc.names.lookup x with | some .local => true | some .cell => true | some .free => true | _ => false
def glB (sc : Scope) (x : Str) : Bool := match sc.names.lookup x with | some .globalImplicit => true | _ => false
def tgB (c : CT) (x : Str) : Bool := match c.sc.names.lookup x with | some .local => true | some .cell => !c.blk | _ => false
def locB (sc : Scope) (x : Str) : Bool := match sc.names.lookup x with | some .local => true | _ => false
theorem visB_ok {sc : Scope} {x : Str} (h : visB sc x = true) : Vis sc x := by
  unfold visB at h
  split at h <;> first | exact .inl (by assumption) | exact .inr (.inl (by assumption)) | exact .inr (.inr (by assumption)) | cases h
theorem glB_ok {sc : Scope} {x : Str} (h : glB sc x = true) : sc.names.lookup x = some .globalImplicit := by
  unfold glB at h
  split at h <;> first | assumption | cases h
theorem locB_ok {sc : Scope} {x : Str} (h : locB sc x = true) : sc.names.lookup x = some .local := by
  unfold locB at h
  split at h <;> first | assumption | cases h
def conB : D → Const → Bool
  | .int i, .int j => i == j
  | .bl i, .bool j => i == j
  | .non, .none => true
  | .str x, .str y => decide (x = y)
  | _, _ => false
def bopB : Bop → Operator → Bool
  | .add, .Add => true
  | .sub, .Sub => true
  | .mul, .Mult => true
  | .fdiv, .FloorDiv => true
  | .mod, .Mod => true
  | .pow, .Pow => true
  | .shl, .LShift => true
  | _, _ => false
theorem bopB_ok {b : Bop} {o : Operator} (h : bopB b o = true) : BopIs b o := by cases b <;> cases o <;> first | rfl | cases h
def copB : Cop → CmpOp → Bool
  | .lt, .Lt => true
  | .le, .LtE => true
  | .gt, .Gt => true
  | .ge, .GtE => true
  | .eq, .Eq => true
  | .ne, .NotEq => true
  | .isN, .Is => true
  | .notN, .IsNot => true
  | .isIn, .In => true
  | .notIn, .NotIn => true
  | _, _ => false
theorem copB_ok {b : Cop} {o : CmpOp} (h : copB b o = true) : CopIs b o := by cases b <;> cases o <;> first | rfl | cases h
def chkL (f : Expr → E → Bool) : List Expr → List E → Bool
  | [], [] => true
  | e :: es, i :: is => !isStar e && f e i && chkL f es is
  | _, _ => false
def chkK (f : Expr → E → Bool) : List Keyword → List E → Bool
  | [], [] => true
  | k :: ks, i :: is => f k.value i && chkK f ks is
  | _, _ => false
def chkO (f : Expr → E → Bool) : Option Expr → Option E → Bool
  | none, none => true
  | some e, some i => f e i
  | _, _ => false
def chkAnd (f : Expr → E → Bool) : List Expr → E → Bool
  | [], _ => false
  | [a], i => f a i
  | a :: b :: r, .band x y => f a x && chkAnd f (b :: r) y
  | _, _ => false
def chkOr (f : Expr → E → Bool) : List Expr → E → Bool
  | [], _ => false
  | [a], i => f a i
  | a :: b :: r, .bor x y => f a x && chkOr f (b :: r) y
  | _, _ => false
def chkIfs (f : Expr → E → Bool) : List Expr → List E → Bool
  | [], [] => true
  | [e], [i] => f e i
  | _, _ => false
mutual
def chkT (c : CT) : Expr → T → Bool
  | .Name x _, .nm i => decide (c.N[i]? = some x) && tgB c x
  | .Tuple es _ _, .tp ts => es.all (fun e => !isStar e) && chkTs c es ts
  | _, _ => false
def chkTs (c : CT) : List Expr → List T → Bool
  | [], [] => true
  | e :: es, t :: ts => !isStar e && chkT c e t && chkTs c es ts
  | _, _ => false
end
def pairB (ps : List Str) : List Nat → List Str → Bool
  | [], [] => true
  | i :: is, n :: ns => decide (ps[i]? = some n) && pairB ps is ns
  | _, _ => false
theorem pairB_ok {ps : List Str} : ∀ {is : List Nat} {ns : List Str}, pairB ps is ns = true → Paired (fun (i : Nat) (n : Str) => ps[i]? = some n) is ns
  | [], [], _ => .nil
  | [], _ :: _, h => nomatch h
  | _ :: _, [], h => nomatch h
  | i :: is, n :: ns, h => by
    simp only [pairB, Bool.and_eq_true, decide_eq_true_eq] at h
    exact .cons h.1 (pairB_ok h.2)
def bltN : Blt → Option Str
  | .len => some "len"
  | .sum => some "sum"
  | .all_ => some "all"
  | .any_ => some "any"
  | .abs_ => some "abs"
  | .int_ => some "int"
  | .list_ => some "list"
  | .min_ => some "min"
  | .max_ => some "max"
  | _ => none
/-- the built-ins' names that no module may hide here -/
def bltNames : List Str := ["len", "sum", "all", "any", "abs", "int", "list", "range", "isinstance", "bool", "tuple", "str", "min", "max"]
def dbgB (x : Str) : Bool := (x == ("__debug__" : Str)) || (x == ("__classdict__" : Str))
def tyB (c : CT) : List String → List Expr → Bool
  | [], [] => true
  | t :: ts, .Name x _ :: es => decide (Str.ofString t = x) && decide (t ∈ tyTests) && glB c.sc x && bltNames.contains x && tyB c ts es
  | _, _ => false
def ownOf (N : List Str) (own : List Nat) : List (Str × Nat) := own.map fun i => (N.getD i "", i)
def isSet : Expr → Bool
  | .Set .. => true
  | _ => false
def supB : Expr → Bool
  | .Call (.Name id _) [] [] _ => id == ("super" : Str)
  | _ => false
/-- no parameters -/
def noPar : Arguments → Bool
  | ⟨[], [], none, [], [], none, []⟩ => true
  | _ => false
def chk : Nat → CT → Expr → E → Bool
  | 0, _, _, _ => false
  | fu + 1, c, e, ir => match ir, e with
    | .con d, .Constant k _ _ => conB d k
    | .var i, .Name x _ => decide (c.N[i]? = some x) && visB c.sc x && !dbgB x
    | .bin o a b, .BinOp x o' y _ => bopB o o' && chk fu c x a && chk fu c y b
    | .neg a, .UnaryOp .USub x _ => chk fu c x a
    | .not_ a, .UnaryOp .Not x _ => chk fu c x a
    | .band a b, .BoolOp .And (x :: y :: r) _ => chk fu c x a && chkAnd (chk fu c) (y :: r) b
    | .bor a b, .BoolOp .Or (x :: y :: r) _ => chk fu c x a && chkOr (chk fu c) (y :: r) b
    | .cmp o a b, .Compare x [o'] [y] _ => copB o o' && !behindInMarks o' y && chk fu c x a && chk fu c y b
    | .cmp2 o p a b d, .Compare x [o', p'] [y, z] _ => copB o o' && copB p p' && !lastMarks [o', p'] [y, z] && chk fu c x a && chk fu c y b && chk fu c z d
    | .cmp3 o p q a b d e, .Compare x [o', p', q'] [y, z, w] _ => copB o o' && copB p p' && copB q q' && !lastMarks [o', p', q'] [y, z, w] && chk fu c x a && chk fu c y b && chk fu c z d && chk fu c w e
    | .ite_ t a b, .IfExp x y z _ => chk fu c x t && chk fu c y a && chk fu c z b
    | .tup is, .Tuple es _ _ => chkL (chk fu c) es is
    | .lst is, .List es _ => chkL (chk fu c) es is
    | .lnew is, .List es _ => chkL (chk fu c) es is
    | .slc a lo hi, .Subscript x (.Slice l h none _) _ => chk fu c x a && chkO (chk fu c) l lo && chkO (chk fu c) h hi
    | .idx a i, .Subscript x y _ => !isSlice y && chk fu c x a && chk fu c y i
    | .call g is ks kis, .Call (.Name x _) es kws _ => decide (c.fids.lookup x = some g) && glB c.sc x && chkL (chk fu c) es is && chkK (chk fu c) kws kis && decide (ks.length = kis.length) &&
        (match kwNames kws, c.ps.lookup g with | some ns, some ps => pairB ps ks ns | _, _ => false)
    | .blt (.isT tys) [a], .Call (.Name x _) [y, t] [] _ => decide (x = "isinstance") && glB c.sc x && !isStar y && chk fu c y a && decide (tys.length ≤ 10) && (match t with
        | .Name z p => tyB c tys [.Name z p]
        | .Tuple ts _ _ => tyB c tys ts
        | _ => false)
    | .blt b is, .Call (.Name x _) (y :: es) [] _ => decide (bltN b = some x) && glB c.sc x && chkL (chk fu c) (y :: es) is
    | .rng1 a, .Call (.Name x _) [y] [] _ => decide (x = "range") && glB c.sc x && !isStar y && chk fu c y a
    | .rng2 a b, .Call (.Name x _) [y, z] [] _ => decide (x = "range") && glB c.sc x && !isStar y && !isStar z && chk fu c y a && chk fu c z b
    | .lc own tg it cnd elt, .ListComp x [⟨t, i, ifs, 0⟩] scope _ => chk fu c i it && !isSet i && blkC c.N c.sc scope (ownOf c.N own) && (slotsT tg).all own.contains &&
        (let c' : CT := { c with sc := relS scope c.sc, blk := true }; chkT c' t tg && chkIfs (chk fu c') ifs cnd && chk fu c' x elt)
    | .stk, _ => true
    | .bitl a, .Call (.Attribute x m ap) [] [] p => decide (m = "bit_length") && !supB x && ap.endLine == p.line && chk fu c x a
    | .app o a, .Call (.Attribute x m ap) [y] [] p => decide (m = "append") && !supB x && ap.endLine == p.line && !isStar y && chk fu c x o && chk fu c y a
    | .attr o f, .Attribute x n _ => decide (c.names[f]? = some n) && c.flds.contains f && !supB x && chk fu c x o
    | .prop o f, .Attribute x n _ => decide (c.names[f]? = some n) && c.prps.contains f && !supB x && chk fu c x o
    | .meth m cs o is ks kis, .Call (.Attribute x n ap) es kws p => decide (c.names[m]? = some n) && c.mets.contains m && !supB x && ap.endLine == p.line && chk fu c x o && chkL (chk fu c) es is && chkK (chk fu c) kws kis && decide (ks.length = kis.length) && fewB es kws &&
        (match kwNames kws with | some ns => cs.all (fun cc => match c.ps.lookup (mid cc m) with | some ps => pairB ps ks ns | none => false) | none => false)
    | .new cc fr is ks kis, .Call (.Name x _) es kws _ => decide (c.cids.lookup x = some cc) && glB c.sc x && chkL (chk fu c) es is && chkK (chk fu c) kws kis && decide (ks.length = kis.length) &&
        (match kwNames kws, c.ps.lookup (mid cc 0) with | some ns, some ps => pairB ps ks ns | _, _ => false)
    | .isI o cs, .Call (.Name x _) [y, .Name z _] [] _ => decide (x = "isinstance") && glB c.sc x && glB c.sc z && !isStar y && chk fu c y o && (match c.cids.lookup z with | some cc => decide (c.subs.lookup cc = some cs) | none => false)
    | .bol a, .Call (.Name x _) [y] [] _ => decide (x = "bool") && glB c.sc x && !isStar y && chk fu c y a
    | .lc2 own tg it cnd vs1 tg1 it1 cnd1 elt, .ListComp x [⟨t, i, ifs, 0⟩, ⟨t1, i1, ifs1, 0⟩] scope _ => chk fu c i it && !isSet i && !isSet i1 && blkC c.N c.sc scope (ownOf c.N own) && (slotsT tg).all own.contains && (slotsT tg1).all vs1.contains && vs1.all own.contains &&
        (let c' : CT := { c with sc := relS scope c.sc, blk := true }; chkT c' t tg && chkIfs (chk fu c') ifs cnd && chk fu c' i1 it1 && chkT c' t1 tg1 && chkIfs (chk fu c') ifs1 cnd1 && chk fu c' x elt)
    | .tryc ns cs b, .Call (.Name x _) [.Lambda params body scope _] [] _ => c.lam && c.tryn.contains x && glB c.sc x && decide ((ns, cs) ∈ c.trs) && LamX.lamSB c.sc scope && noPar params && chk fu { c with sc := scope, blk := true, lam := false } body b
    | _, _ => false

/-! ### what it says -/
/-- what a call of `_law_try` leans on -/
structure TryC (Pr : Program) (w : World) (K : PySem.W.Frag) (mg : Str → Option Value) (base : Heap) (G : Sg) (x : Str) (trs : List (List Nat × List Nat)) : Prop where
  dbg : (x == ("__debug__" : Str)) = false
  ex : ∃ (g CG : Addr) (pg : Arguments) (bg : List Stmt) (sg : Scope) (dV kV doc pm cdv ct oc : Value) (an od : Option Addr) (osl : Array (Option Value)) (Ng : List Str) (a : Str),
    mg x = some (.ref g) ∧ PySem.W.keepIn K (.ref g) = true ∧ K.lookup g = some ⟨oc, od, .func (PySem.W.fnOf x x pg bg sg dV kV doc pm an cdv ct), osl⟩ ∧ PySem.W.codeIn K cdv x = true ∧ L2.Binds K (PySem.W.fnOf x x pg bg sg dV kV doc pm an cdv ct) [a] [] ∧
      FnScope Ng [a] sg ∧ Ng[0]? = some a ∧ Vis sg a ∧ (a == ("__debug__" : Str)) = false ∧ (a == ("__classdict__" : Str)) = false ∧ (∀ p ∈ trs, TryN G K CG p.1 p.2) ∧
      ∀ (X : Cx) (kk : Nat) (q : Str), X.prog = Pr → X.w = w → X.K = K → X.mg = mg → X.base = base → Room (kk + 3) X.A → LamX.GivesTo X Ng x sg g cdv bg a q (TTry K CG)
/-- the classes -/
structure GdC (Pr : Program) (w : World) (K : PySem.W.Frag) (mg : Str → Option Value) (base : Heap) (c : CT) (G : Sg) (P : Nat → Option Fd) (k : Nat) : Prop where
  fld : ∀ i n, c.names[i]? = some n → G.fld i = n
  inj : ∀ i j, G.fld i = G.fld j → i = j
  cls : ∀ cc, G.ok cc = true → Cls K (G.cls cc) ∧ PySem.W.selfFirst K (G.cls cc) = true
  nat : ∀ cc f, G.ok cc = true → c.flds.contains f = true → NoAttr K (G.cls cc) (G.fld f)
  mth : ∀ cc m ps, c.mets.contains m = true → c.ps.lookup (mid cc m) = some ps → ∃ f, Meth K (G.cls cc) (G.fld m) f ∧ FnI Pr w K mg base G k f ps (callN P k (mid cc m))
  prp : ∀ f cc, c.prps.contains f = true → G.ok cc = true → (∀ us kw h, callN P k (mid cc f) us kw h = .stuck) ∨ ∃ p g ps, PropOf K (G.cls cc) (G.fld f) p g ∧ FnI Pr w K mg base G k g ps (callN P k (mid cc f))
  op : ∀ cc, G.ok cc = true → ∀ (i : Nat) (n : Str), spNames[i]? = some n → 0 < i → (∀ us kw h, callN P k (mid cc i) us kw h = .stuck) ∨ ∃ f ps, Meth K (G.cls cc) n f ∧ PySem.W.fnIn K f = true ∧ FnI Pr w K mg base G k f ps (callN P k (mid cc i))
  rmul : ∀ cc, G.ok cc = true → PySem.W.findIn K (.ref (G.cls cc)) (dunderR "mul") = some none
  mkr : ∀ x cc, c.cids.lookup x = some cc → G.ok cc = true ∧ (x == ("__debug__" : Str)) = false ∧ mg x = some (.ref (G.cls cc)) ∧ ∀ ps, c.ps.lookup (mid cc 0) = some ps → ∃ f, Mk K (G.cls cc) f ∧ FnI Pr w K mg base G k f ps (callN P k (mid cc 0))
  isi : ∀ x cc cs, c.cids.lookup x = some cc → c.subs.lookup cc = some cs → (∀ d, G.ok d = true → PySem.W.kitOne K (.ref (G.cls d)) (.ref (G.cls cc)) = some (cs.contains d)) ∧ ∀ t ∈ tyNames, PySem.W.kitOne K (.type t) (.ref (G.cls cc)) = some false
  tyi : ∀ cc, G.ok cc = true → ∀ (H : Hp) (a dx : Addr) (fs : List (Str × V)), H a = some (.ins (G.cls cc) dx fs) → TyX K H (.ref a) (.ref (G.cls cc))
  eqs : ∀ cc, G.ok cc = true → eqsOk K (G.cls cc)
  tryc : ∀ x ∈ c.tryn, TryC Pr w K mg base G x c.trs
  exi : ∀ x cc wd f, c.xids.lookup x = some (cc, wd, f) → (x == ("__debug__" : Str)) = false ∧ mg x = some (.ref (G.cls cc)) ∧ XcI Pr w K mg base (G.cls cc) wd (f.map G.fld)
/-- a def that makes lambdas -/
structure LamC (X : Cx) (G : Sg) (k : Nat) : Prop where
  room : Room (5 * k + 4) X.A
  code : ∃ cc P, X.env.code = .ref cc ∧ LamX.TabB X.base X.mg cc P ∧ (P, X.env.qual ++ "<lambda>") ∈ G.tab ∧ ∀ p ∈ G.tab, p.1 = P → p.2 = X.env.qual ++ "<lambda>"
structure Gd (X : Cx) (c : CT) (G : Sg) (P : Nat → Option Fd) (k : Nat) : Prop where
  sc : X.env.scope = c.sc
  N : X.N = c.N
  nd : X.N.Nodup
  calm : X.calm = true
  room : Room (5 * k + 2) X.A
  K : X.K = G.K
  fn : c.blk = false → ∀ x, X.fn x = true
  blt : ∀ x ∈ bltNames, X.mg x = none
  defs : ∀ x g, c.fids.lookup x = some g → (x == ("__debug__" : Str)) = false ∧ ∃ f, X.mg x = some (.ref f) ∧ PySem.W.keepIn X.K (.ref f) = true ∧ (∀ ps, c.ps.lookup g = some ps → FnI X.prog X.w X.K X.mg X.base G k f ps (callN P k g))
  cl : GdC X.prog X.w X.K X.mg X.base c G P k
  lam : c.lam = true → LamC X G k
structure PD (X : Cx) (G : Sg) (W : WX) (e : Expr) (d : Den) : Prop where
  v : PE X e (tV G W d.v)
  t : PT X e (tB1 G W d.t)
  i : ∀ tg, PI X tg e (tI G W d.i)
section
variable {X : Cx} {G : Sg} {W : WX} {e a : Expr} {v : Env1 → Hs → Out D}
theorem v_stuck : PE X e (tV G W fun _ _ => .stuck) := ⟨fun _ _ _ _ _ _ ⟨_, _, _, _, _, q⟩ => q.elim⟩
theorem t_stuck : PT X e (tB1 G W fun _ _ => .stuck) := ⟨fun _ _ _ _ _ _ ⟨_, _, _, _, _, q⟩ => q.elim⟩
theorem i_stuck {tg : Expr} : PI X tg e (tI G W fun _ _ => .stuck) := ⟨fun _ _ _ _ _ _ ⟨_, _, _, _, _, q⟩ => q.elim⟩
theorem PD.of (hK : X.K = G.K) (h : PE X e (tV G W v)) (he : ∀ whole, isTrue e X.env whole = (do let v ← whole; standAt e.pos; holding [v] (truthy v))) : PD X G W e (.of v) :=
  ⟨h, t_val hK h he, fun _ => i_seq hK h⟩
theorem pe_b1 {op : BoolOp} {pos : Pos} {t : TE} (h : PE X a t) : PE X (.BoolOp op [a] pos) t := ⟨fun pins s σ H Q I q => h.run pins s σ H Q I q⟩
end
end GY

namespace GY
open PySem PySem.Spec PyProof.Rows L2
section
variable {X : Cx} {G : Sg} {W : WX} {c : CT} {F : Fns} {f : Expr → E → Bool} {P : Nat → Option Fd} {k : Nat}
theorem chkL_stars : ∀ {es : List Expr} {is : List E}, chkL f es is = true → noStars es = true
  | [], _, _ => rfl
  | e :: es, [], h => nomatch h
  | e :: es, i :: is, h => by
    simp only [chkL, Bool.and_eq_true] at h
    unfold noStars
    rw [List.all_cons, Bool.and_eq_true]
    exact ⟨h.1.1, chkL_stars h.2⟩
theorem chkL_ok (ih : ∀ e i, f e i = true → PD X G W e (den F i)) : ∀ {es : List Expr} {is : List E}, chkL f es is = true → PA X es (tL G W (evs (dens F is)))
  | [], [], _ => a_nil
  | [], _ :: _, h => nomatch h
  | e :: es, [], h => nomatch h
  | e :: es, i :: is, h => by
    simp only [chkL, Bool.and_eq_true] at h
    exact a_cons (by simpa using h.1.1) (ih e i h.1.2).v (chkL_ok ih h.2)
theorem chkK_ok (ih : ∀ e i, f e i = true → PD X G W e (den F i)) : ∀ {es : List Keyword} {is : List E}, chkK f es is = true → PK X es (tL G W (evs (dens F is)))
  | [], [], _ => k_nil
  | [], _ :: _, h => nomatch h
  | e :: es, [], h => nomatch h
  | ⟨nm, e, kp⟩ :: es, i :: is, h => by
    simp only [chkK, Bool.and_eq_true] at h
    exact k_cons (ih e i h.1).v (chkK_ok ih h.2)
theorem chkO_ok (ih : ∀ e i, f e i = true → PD X G W e (den F i)) : ∀ {e : Option Expr} {i : Option E}, chkO f e i = true → PO X e (tO G W (evo (denO F i)))
  | none, none, _ => o_none
  | none, some _, h => nomatch h
  | some _, none, h => nomatch h
  | some e, some i, h => o_some (ih e i h).v
theorem chkAnd_ok (ih : ∀ e i, f e i = true → PD X G W e (den F i)) {pos : Pos} : ∀ {es : List Expr} {i : E}, chkAnd f es i = true → PE X (.BoolOp .And es pos) (tV G W (den F i).v) ∧ PW X (.BoolOp .And es pos) (tB1 G W (den F i).t)
  | [], _, h => by simp [chkAnd] at h
  | [a], i, h => by
    simp only [chkAnd] at h
    exact ⟨pe_b1 (ih a i h).v, t_and1 (ih a i h).t⟩
  | a :: b :: r, i, h => by
    cases i <;> try (simp [chkAnd] at h; done)
    simp only [chkAnd, Bool.and_eq_true] at h
    obtain ⟨h1, h2⟩ := chkAnd_ok ih (pos := pos) h.2
    exact ⟨s_and (ih _ _ h.1).v h1, t_and (ih _ _ h.1).t h2⟩
theorem chkOr_ok (ih : ∀ e i, f e i = true → PD X G W e (den F i)) {pos : Pos} : ∀ {es : List Expr} {i : E}, chkOr f es i = true → PE X (.BoolOp .Or es pos) (tV G W (den F i).v) ∧ PW X (.BoolOp .Or es pos) (tB1 G W (den F i).t)
  | [], _, h => by simp [chkOr] at h
  | [a], i, h => by
    simp only [chkOr] at h
    exact ⟨pe_b1 (ih a i h).v, t_or1 (ih a i h).t⟩
  | a :: b :: r, i, h => by
    cases i <;> try (simp [chkOr] at h; done)
    simp only [chkOr, Bool.and_eq_true] at h
    obtain ⟨h1, h2⟩ := chkOr_ok ih (pos := pos) h.2
    exact ⟨s_or (ih _ _ h.1).v h1, t_or (ih _ _ h.1).t h2⟩
theorem chkIfs_ok (ih : ∀ e i, f e i = true → PD X G W e (den F i)) : ∀ {es : List Expr} {is : List E}, chkIfs f es is = true → PTs X es (tB1 G W (tss (dens F is)))
  | [], [], _ => ⟨fun pins s σ H Q I ⟨il, h, r, w, er, q⟩ => pts_nil.run pins s σ H Q I (q il H .refl w)⟩
  | [e], [i], h => ⟨fun pins s σ H Q I ⟨il, h1, r, w, er, q⟩ => (pts_one (ih e i h).t).run pins s σ H Q I ⟨il, h1, r, w, er, by
      have q : afterB G (((den F i).t r h1).bind fun c h2 => if c = true then .ok true h2 else .ok false h2) il H Q fun c a H' => W c a σ H' := q
      refine after_impB (afterB.bindB q) fun b H1 ⟨il1, h2, e1, w1, q1⟩ => ?_
      cases b with
      | true => exact q1 il1 H1 .refl w1
      | false => exact q1 il1 H1 .refl w1⟩⟩
  | [], _ :: _, h => by simp [chkIfs] at h
  | [e], [], h => by simp [chkIfs] at h
  | [e], _ :: _ :: _, h => by simp [chkIfs] at h
  | _ :: _ :: _, _, h => by simp [chkIfs] at h
mutual
theorem chkT_ok (g : Gd X c G P k) : ∀ (e : Expr) (t : T), chkT c e t = true → PG X e (gD G (slotsT t) fun d r h => bindT t d r h)
  | e, .nm i, h => by
    cases e <;> first | (simp [chkT] at h; done) | skip
    rename_i x p
    simp only [chkT, Bool.and_eq_true, decide_eq_true_eq] at h
    obtain ⟨h1, h2⟩ := h
    have hs := g.sc
    unfold tgB at h2
    split at h2
    · rename_i e
      exact g_nm g.nd (by rw [g.N]; exact h1) (.inl (by rw [hs]; exact e)) (.inr (by rw [hs]; exact e))
    · rename_i e
      exact g_nm g.nd (by rw [g.N]; exact h1) (.inr (by rw [hs]; exact e)) (.inl (g.fn (by simpa using h2) x))
    · cases h2
  | e, .tp ts, h => by
    cases e <;> first | (simp [chkT] at h; done) | skip
    rename_i es kk p
    simp only [chkT, Bool.and_eq_true] at h
    obtain ⟨hl, hg⟩ := chkTs_ok g es ts h.2
    exact g_tp g.K g.calm h.1 hl hg
theorem chkTs_ok (g : Gd X c G P k) : ∀ (es : List Expr) (ts : List T), chkTs c es ts = true → es.length = ts.length ∧ PGs X es (gDs G (slotsTs ts) fun d r h => bindTs ts d r h)
  | [], [], _ => ⟨rfl, gs_nil⟩
  | [], _ :: _, h => by simp [chkTs] at h
  | _ :: _, [], h => by simp [chkTs] at h
  | e :: es, t :: ts, h => by
    simp only [chkTs, Bool.and_eq_true] at h
    obtain ⟨hl, hg⟩ := chkTs_ok g es ts h.2
    exact ⟨congrArg Nat.succ hl, gs_cons (by simpa using h.1.1) (chkT_ok g e t h.1.2) hg⟩
end
theorem Gd.gl (g : Gd X c G P k) {x : Str} (h : glB c.sc x = true) : Gl X x := by
  show X.env.scope.names.lookup x = _
  rw [g.sc]
  exact glB_ok h
theorem tyB_ok (g : Gd X c G P k) : ∀ {ts : List String} {es : List Expr}, tyB c ts es = true → (∀ t ∈ ts, t ∈ tyTests ∧ Gl X (Str.ofString t) ∧ X.mg (Str.ofString t) = none) ∧ Paired (fun (t : String) (e : Expr) => ∃ p, e = .Name (Str.ofString t) p) ts es
  | [], [], _ => ⟨fun _ m => (nomatch m), .nil⟩
  | [], _ :: _, h => by simp [tyB] at h
  | _ :: _, [], h => by simp [tyB] at h
  | t :: ts, e :: es, h => by
    cases e <;> first | (simp [tyB] at h; done) | skip
    rename_i x p
    simp only [tyB, Bool.and_eq_true, decide_eq_true_eq] at h
    obtain ⟨⟨⟨⟨rfl, h2⟩, h3⟩, h4⟩, h5⟩ := h
    obtain ⟨i1, i2⟩ := tyB_ok g h5
    refine ⟨fun y m => ?_, .cons ⟨p, rfl⟩ i2⟩
    rcases List.mem_cons.mp m with rfl | m
    · exact ⟨h2, g.gl h3, g.blt _ (by simpa using h4)⟩
    · exact i1 y m
theorem own_snd (N : List Str) (own : List Nat) : (ownOf N own).map (·.2) = own := by
  unfold ownOf
  rw [List.map_map]
  exact (List.map_congr_left fun _ _ => rfl).trans (List.map_id _)
theorem evs_len {F : Fns} : ∀ {es : List E} {r : Env1} {h : Hs} {ds : List D} {h' : Hs}, evs (dens F es) r h = .ok ds h' → ds.length = es.length
  | [], r, h, ds, h', e => by simp only [dens, evs, Out.ok.injEq] at e; rw [← e.1]; rfl
  | a :: es, r, h, ds, h', e => by
    simp only [dens, evs] at e
    cases o : (den F a).v r h with
    | stuck => rw [o] at e; cases e
    | exc x y => rw [o] at e; cases e
    | ok d h1 =>
      rw [o] at e
      simp only [Out.bind_ok] at e
      cases o2 : evs (dens F es) r h1 with
      | stuck => rw [o2] at e; cases e
      | exc x y => rw [o2] at e; cases e
      | ok d2 h2 =>
        rw [o2] at e
        simp only [Out.bind_ok, Out.ok.injEq] at e
        rw [← e.1, List.length_cons, evs_len o2]; rfl
theorem fold_pure {i : Expr} {env : Env} (h : isSet i = false) : ∀ x, foldedSetIterable i env x = pure x := fun x => by
  cases i <;> first | rfl | cases h
theorem sup_base {o : Expr} {m : Str} {env : Env} {w : Sem Value} (h : supB o = false) : attributeBase o m env w = w := by
  cases o with
  | Call f args kws pos =>
    cases f with
    | Name id p =>
      cases args with
      | nil =>
        cases kws with
        | nil =>
          have h : (id == ("super" : Str)) = false := h
          unfold attributeBase
          dsimp only
          rw [if_pos (by rw [bne, h]; rfl)]
        | cons _ _ => rfl
      | cons _ _ => rfl
    | _ => rfl
  | _ => rfl
theorem Gd.blkG {X : Cx} {c : CT} {G : Sg} {P : Nat → Option Fd} {k : Nat} (g : Gd X c G P k) {s : Shared} {H : Hp} {scope : Scope} {C : Addr} {cl : List (Str × Addr)} {fp : List Addr} :
    Gd (X.blk s H scope (compEnvC scope cl C X.env) fp) { c with sc := relS scope c.sc, blk := true } G P k where
  sc := by show relS scope X.env.scope = _; rw [g.sc]
  N := g.N
  nd := g.nd
  calm := g.calm
  room := g.room
  K := g.K
  fn := fun h => nomatch h
  blt := g.blt
  defs := g.defs
  cl := ⟨g.cl.fld, g.cl.inj, g.cl.cls, g.cl.nat, g.cl.mth, g.cl.prp, g.cl.op, g.cl.rmul, g.cl.mkr, g.cl.isi, g.cl.tyi, g.cl.eqs, g.cl.tryc, g.cl.exi⟩
  lam := fun h => let l := g.lam h; ⟨l.room, l.code⟩
theorem Gd.lamG {X : Cx} {c : CT} {G : Sg} {P : Nat → Option Fd} {k : Nat} (g : Gd X c G P k) {A : Around} {outer : List Env} {s : Shared} {H : Hp} {E : XK} {scope : Scope} {f c' : Addr} (hr : Room (5 * k + 2) (A.deeper (LamX.lamEnv X scope s.heap.objs.size f c'))) :
    Gd (LamX.lamCx X A outer s H E scope f c') { c with sc := scope, blk := true, lam := false } G P k where
  sc := rfl
  N := g.N
  nd := g.nd
  calm := rfl
  room := hr
  K := g.K
  fn := fun h => nomatch h
  blt := g.blt
  defs := g.defs
  cl := ⟨g.cl.fld, g.cl.inj, g.cl.cls, g.cl.nat, g.cl.mth, g.cl.prp, g.cl.op, g.cl.rmul, g.cl.mkr, g.cl.isi, g.cl.tyi, g.cl.eqs, g.cl.tryc, g.cl.exi⟩
  lam := fun h => nomatch h
theorem noPar_ok {p : Arguments} (h : noPar p = true) : p = ⟨[], [], none, [], [], none, []⟩ := by
  unfold noPar at h
  split at h
  · rfl
  · cases h
theorem takes_blk {X : Cx} {s : Shared} {H : Hp} {scope : Scope} {env : Env} {fp : List Addr} : Takes (X.blk s H scope env fp) W0 := fun u s' ⟨_, _, _, _, _, _, _, _, _, _, _, _, _, _, _, _, w⟩ => w.elim
theorem blt_ok (g : Gd X c G P k) {b : Blt} {x : Str} (h : bltN b = some x) :
    (∃ id, bootBuiltins x = some (.builtin id) ∧ ∀ E, CallR X (.builtin id) (rC G (bltD b) E)) ∨ (∃ id, bootBuiltins x = some (.type id) ∧ ∀ E, CallR X (.type id) (rC G (bltD b) E)) := by
  cases b <;> simp only [bltN, Option.some.injEq, reduceCtorEq] at h <;> subst h
  · exact .inl ⟨"len", by decide +kernel, c_len g.K⟩
  · exact .inl ⟨"sum", by decide +kernel, c_sum g.K g.calm⟩
  · exact .inl ⟨"all", by decide +kernel, c_all g.K g.calm⟩
  · exact .inl ⟨"any", by decide +kernel, c_any g.K g.calm⟩
  · exact .inl ⟨"min", by decide +kernel, c_min g.K g.calm⟩
  · exact .inl ⟨"max", by decide +kernel, c_max g.K g.calm⟩
  · exact .inl ⟨"abs", by decide +kernel, c_abs⟩
  · exact .inr ⟨"int", by decide +kernel, c_int⟩
  · exact .inr ⟨"list", by decide +kernel, c_list g.K⟩
theorem bltN_mem {b : Blt} {x : Str} (h : bltN b = some x) : x ∈ bltNames ∧ x ≠ ("__name__" : Str) ∧ (x == ("__debug__" : Str)) = false := by
  cases b <;> simp only [bltN, Option.some.injEq, reduceCtorEq] at h <;> subst h <;> exact ⟨by decide +kernel, by decide +kernel, by decide +kernel⟩
theorem s_callA {f : Addr} {ps : List Str} {ap : List D → List (Nat × D) → Hs → Out D} {x : Str} {kis : List Nat} {ns : List Str} {es : List Expr} {is : List E} {kws : List Keyword} {kks : Env1 → Hs → Out (List D)} {p pos : Pos} (hf : FnI X.prog X.w X.K X.mg X.base G k f ps ap) (hr : Room (5 * k) X.A) (tk : Takes X W)
    (hg : Gl X x) (hm : X.mg x = some (.ref f)) (hk : PySem.W.keepIn X.K (.ref f) = true) (hdb : (x == ("__debug__" : Str)) = false) (hl : es.length = is.length) (hs : noStars es = true) (hn : kwNames kws = some ns) (hp : Paired (fun (i : Nat) (n : Str) => ps[i]? = some n) kis ns)
    (ha : PA X es (tL G W (evs (dens F is)))) (hkw : PK X kws (tL G W kks)) (hlen : ∀ r h ds h', kks r h = .ok ds h' → ds.length = kis.length) :
    PE X (.Call (.Name x p) es kws pos) (tV G W fun r h => (evs (dens F is) r h).bind fun ds h1 => (kks r h1).bind fun vds h2 => ap ds (kis.zip vds) h2) := by
  cases es with
  | nil =>
    cases is with
    | cons _ _ => cases hl
    | nil => exact s_call0 hf hr tk hg hm hk hdb hn hp hkw hlen
  | cons a es => exact s_call hf hr tk hg hm hk hdb hs hn hp ha hkw hlen
theorem chkL_len : ∀ {es : List Expr} {is : List E}, chkL f es is = true → es.length = is.length
  | [], [], _ => rfl
  | [], _ :: _, h => nomatch h
  | _ :: _, [], h => nomatch h
  | e :: es, i :: is, h => by
    simp only [chkL, Bool.and_eq_true] at h
    exact congrArg Nat.succ (chkL_len h.2)
theorem Gd.units (g : Gd X c G P k) : X.A.units + 65 < cLine := by have := g.room.un; omega
theorem Gd.ops (g : Gd X c G P k) : OpsI X G k (callN P k) := ⟨g.cl.cls, g.cl.op, g.cl.rmul, g.cl.eqs⟩
theorem evs_nil {F : Fns} {f : Expr → E → Bool} {es : List Expr} {is : List E} (h : chkL f es is = true) : es = [] → ∀ r h, evs (dens F is) r h = .ok [] h := fun e r h' => by
  subst e
  cases is with
  | nil => rfl
  | cons _ _ => cases h
end
theorem chk_ok : ∀ (n : Nat) (X : Cx) (c : CT) (G : Sg) (W : WX) (P : Nat → Option Fd) (k : Nat), Gd X c G P k → Takes X W → ∀ (e : Expr) (ir : E), chk n c e ir = true → PD X G W e (den (callN P k) ir)
  | 0, _, _, _, _, _, _, _, _, _, _, h => nomatch h
  | n + 1, X, c, G, W, P, k, g, tk, e, ir, h => by
    have ih := chk_ok n X c G W P k g tk
    have hK := g.K
    unfold chk at h
    split at h
    · -- con
      rename_i d kk j p
      cases d <;> cases kk <;> first | (simp [conB] at h; done) | skip
      · exact PD.of hK s_con_non fun _ => rfl
      · simp only [conB, beq_iff_eq] at h; subst h; exact PD.of hK s_con_bl fun _ => rfl
      · simp only [conB, beq_iff_eq] at h; subst h; exact PD.of hK s_con_int fun _ => rfl
      · simp only [conB, decide_eq_true_eq] at h; subst h; exact PD.of hK s_con_str fun _ => rfl
    · -- var
      rename_i i x p
      simp only [Bool.and_eq_true, decide_eq_true_eq, Bool.not_eq_true', dbgB, Bool.or_eq_false_iff] at h
      exact PD.of hK (s_var (by rw [g.N]; exact h.1.1) (by rw [g.sc]; exact visB_ok h.1.2) h.2.1 h.2.2) fun _ => rfl
    · -- bin
      simp only [Bool.and_eq_true] at h
      exact PD.of hK (s_binF g.ops (bopB_ok h.1.1) (g.room.mono (by omega)) tk hK (ih _ _ h.1.2).v (ih _ _ h.2).v) fun _ => rfl
    · -- neg
      exact PD.of hK (negF_run g.ops (g.room.mono (by omega)) tk (ih _ _ h).v) fun _ => rfl
    · -- not
      exact ⟨s_not (ih _ _ h).v, t_not (ih _ _ h).t, fun _ => i_stuck⟩
    · -- and
      simp only [Bool.and_eq_true] at h
      obtain ⟨h1, h2⟩ := chkAnd_ok ih h.2
      exact ⟨s_and (ih _ _ h.1).v h1, (t_and (ih _ _ h.1).t h2).pt, fun _ => i_stuck⟩
    · -- or
      simp only [Bool.and_eq_true] at h
      obtain ⟨h1, h2⟩ := chkOr_ok ih h.2
      exact ⟨s_or (ih _ _ h.1).v h1, (t_or (ih _ _ h.1).t h2).pt, fun _ => i_stuck⟩
    · -- cmp
      simp only [Bool.and_eq_true, Bool.not_eq_true'] at h
      obtain ⟨⟨⟨h1, h2⟩, h3⟩, h4⟩ := h
      have a := s_cmpF g.ops g.room tk (pos := by assumption) (copB_ok h1) g.units hK h2 (ih _ _ h3).v (ih _ _ h4).v
      exact ⟨a, t_cmpF g.ops g.room tk (copB_ok h1) g.units hK h2 (ih _ _ h3).v (ih _ _ h4).v, fun _ => i_seq hK a⟩
    · -- cmp2
      simp only [Bool.and_eq_true, Bool.not_eq_true'] at h
      obtain ⟨⟨⟨⟨⟨h1, h2⟩, h3⟩, h4⟩, h5⟩, h6⟩ := h
      have a := s_cmp2 (pos := by assumption) (copB_ok h1) (copB_ok h2) g.units hK h3 (ih _ _ h4).v (ih _ _ h5).v (ih _ _ h6).v
      exact ⟨a, t_cmp2 (copB_ok h1) (copB_ok h2) g.units hK h3 (ih _ _ h4).v (ih _ _ h5).v (ih _ _ h6).v, fun _ => i_seq hK a⟩
    · -- cmp3
      simp only [Bool.and_eq_true, Bool.not_eq_true'] at h
      obtain ⟨⟨⟨⟨⟨⟨⟨h1, h2⟩, h2'⟩, h3⟩, h4⟩, h5⟩, h6⟩, h7⟩ := h
      have a := s_cmp3 (pos := by assumption) (copB_ok h1) (copB_ok h2) (copB_ok h2') g.units hK h3 (ih _ _ h4).v (ih _ _ h5).v (ih _ _ h6).v (ih _ _ h7).v
      exact ⟨a, t_cmp3 (copB_ok h1) (copB_ok h2) (copB_ok h2') g.units hK h3 (ih _ _ h4).v (ih _ _ h5).v (ih _ _ h6).v (ih _ _ h7).v, fun _ => i_seq hK a⟩
    · -- ite
      simp only [Bool.and_eq_true] at h
      have a := s_ite (pos := by assumption) (ih _ _ h.1.1).t (ih _ _ h.1.2).v (ih _ _ h.2).v
      exact ⟨a, t_ite (ih _ _ h.1.1).t (ih _ _ h.1.2).t (ih _ _ h.2).t, fun _ => i_seq hK a⟩
    · exact PD.of hK (s_tup (chkL_ok ih h)) fun _ => rfl
    · exact PD.of hK (s_lst (chkL_ok ih h)) fun _ => rfl
    · exact PD.of hK (s_lnew (chkL_ok ih h)) fun _ => rfl
    · -- slice
      simp only [Bool.and_eq_true] at h
      exact PD.of hK (s_slc hK (ih _ _ h.1.1).v (chkO_ok ih h.1.2) (chkO_ok ih h.2)) fun _ => rfl
    · -- index
      simp only [Bool.and_eq_true, Bool.not_eq_true'] at h
      exact PD.of hK (s_idx hK h.1.1 (ih _ _ h.1.2).v (ih _ _ h.2).v) fun _ => rfl
    · -- call
      simp only [Bool.and_eq_true, decide_eq_true_eq] at h
      obtain ⟨⟨⟨⟨⟨h1, h2⟩, h3⟩, h4⟩, h5⟩, h6⟩ := h
      split at h6
      case h_2 => cases h6
      rename_i ns ps hn hps
      obtain ⟨hd, f, hm, hk, hf⟩ := g.defs _ _ h1
      have hf := hf _ hps
      have hlen : ∀ r h ds h', evs (dens (callN P k) _) r h = .ok ds h' → ds.length = _ := fun r h ds h' e => (evs_len e).trans h5.symm
      exact PD.of hK (s_callA hf (g.room.mono (by omega)) tk (g.gl h2) hm hk hd (chkL_len h3) (chkL_stars h3) hn (pairB_ok h6) (chkL_ok ih h3) (chkK_ok ih h4) hlen) fun _ => rfl
    · -- isinstance
      simp only [Bool.and_eq_true, decide_eq_true_eq, Bool.not_eq_true'] at h
      obtain ⟨⟨⟨⟨⟨rfl, h2⟩, h3⟩, h4⟩, h5⟩, h6⟩ := h
      have hm := g.blt "isinstance" (by decide +kernel)
      refine PD.of hK ?_ fun _ => rfl
      have fin : ∀ {v : Env1 → Hs → Out D} {tys : List String} {e : Expr} {a : E}, PE X e (tV G W fun r h => ((den (callN P k) a).v r h).bind fun d h1 => bltD (.isT tys) [d] h1) → PE X e (tV G W (den (callN P k) (.blt (.isT tys) [a])).v) := fun {v tys e a} q => by
        refine q.imp fun s H Q z => ?_
        have e : (den (callN P k) (.blt (.isT tys) [a])).v = fun r h => ((den (callN P k) a).v r h).bind fun d h1 => bltD (.isT tys) [d] h1 := by
          funext r h
          show ((evs [den (callN P k) a] r h).bind fun ds h1 => bltD (.isT tys) ds h1) = _
          simp only [evs]
          cases (den (callN P k) a).v r h <;> rfl
        rw [e] at z
        exact z
      split at h6
      · obtain ⟨i1, i2⟩ := tyB_ok g h6
        cases i2 with
        | cons j1 j2 =>
          cases j2
          obtain ⟨p, e⟩ := j1
          rw [e]
          obtain ⟨t1, t2, t3⟩ := i1 _ (List.mem_cons_self ..)
          exact fin (v := fun _ _ => .stuck) (isT_one hK t1 (g.gl h2) hm t2 t3 h3 (ih _ _ h4).v)
      · obtain ⟨i1, i2⟩ := tyB_ok g h6
        exact fin (v := fun _ _ => .stuck) (isT_many hK h5 i1 (g.gl h2) hm i2 h3 (ih _ _ h4).v)
      · cases h6
    · -- built-in
      simp only [Bool.and_eq_true, decide_eq_true_eq] at h
      obtain ⟨⟨h1, h2⟩, h3⟩ := h
      obtain ⟨m1, m2, m3⟩ := bltN_mem h1
      have hs := chkL_stars h3
      have ha := chkL_ok ih h3
      rcases blt_ok g h1 with ⟨id, b1, b2⟩ | ⟨id, b1, b2⟩
      · exact PD.of hK (s_bltB b2 (g.gl h2) (g.blt _ m1) b1 m2 m3 hs ha) fun _ => rfl
      · exact PD.of hK (s_bltT b2 (g.gl h2) (g.blt _ m1) b1 m2 m3 hs ha) fun _ => rfl
    · -- range
      simp only [Bool.and_eq_true, decide_eq_true_eq, Bool.not_eq_true'] at h
      obtain ⟨⟨⟨rfl, h2⟩, h3⟩, h4⟩ := h
      exact ⟨v_stuck, t_stuck, fun _ => i_rng1 (g.gl h2) (g.blt _ (by decide +kernel)) h3 (ih _ _ h4).v⟩
    · simp only [Bool.and_eq_true, decide_eq_true_eq, Bool.not_eq_true'] at h
      obtain ⟨⟨⟨⟨⟨rfl, h2⟩, h3⟩, h4⟩, h5⟩, h6⟩ := h
      exact ⟨v_stuck, t_stuck, fun _ => i_rng2 (g.gl h2) (g.blt _ (by decide +kernel)) h3 h4 (ih _ _ h5).v (ih _ _ h6).v⟩
    · -- comprehension
      simp only [Bool.and_eq_true, Bool.not_eq_true'] at h
      obtain ⟨⟨⟨⟨h1, h2⟩, h3⟩, h4⟩, ⟨h5, h6⟩, h7⟩ := h
      refine PD.of hK ((pe_lc g.calm g.nd ((ih _ _ h1).i _) (by rw [g.N, g.sc]; exact blkOk_by h3) (fun s H C cl fp => chkT_ok g.blkG _ _ h5) (fun s H C cl fp => chkIfs_ok (chk_ok n _ _ G W0 P k g.blkG takes_blk) h6)
        (fun s H C cl fp => (chk_ok n _ _ G W0 P k g.blkG takes_blk _ _ h7).v) (fold_pure h2)).imp fun s H Q q => ?_) fun _ => rfl
      rw [own_snd]
      refine lc_imp (fun j hj => ?_) q
      rw [List.all_eq_true] at h4
      simpa using h4 j hj
    · exact ⟨v_stuck, t_stuck, fun _ => i_stuck⟩
    · -- bit_length
      simp only [Bool.and_eq_true, decide_eq_true_eq, Bool.not_eq_true'] at h
      obtain ⟨⟨⟨rfl, h2⟩, h3⟩, h4⟩ := h
      exact PD.of hK (s_bitl (sup_base h2) h3 (ih _ _ h4).v) fun _ => rfl
    · -- append
      simp only [Bool.and_eq_true, decide_eq_true_eq, Bool.not_eq_true'] at h
      obtain ⟨⟨⟨⟨⟨rfl, h2⟩, h3⟩, h4⟩, h5⟩, h6⟩ := h
      exact PD.of hK (s_app hK (sup_base h2) h3 h4 (ih _ _ h5).v (ih _ _ h6).v) fun _ => rfl
    · -- field
      simp only [Bool.and_eq_true, decide_eq_true_eq, Bool.not_eq_true'] at h
      obtain ⟨⟨⟨h1, h2⟩, h3⟩, h4⟩ := h
      have e := g.cl.fld _ _ h1
      subst e
      exact PD.of hK (s_attr g.cl.inj (fun cc hk => ⟨(g.cl.cls cc hk).1, g.cl.nat cc _ hk h2⟩) (sup_base h3) (ih _ _ h4).v) fun _ => rfl
    · -- property
      simp only [Bool.and_eq_true, decide_eq_true_eq, Bool.not_eq_true'] at h
      obtain ⟨⟨⟨h1, h2⟩, h3⟩, h4⟩ := h
      have e := g.cl.fld _ _ h1
      subst e
      exact PD.of hK (s_prop (k := k) (g.room.mono (by omega)) tk (fun cc hk => (g.cl.cls cc hk).1) (fun cc hk => g.cl.prp _ cc h2 hk) (sup_base h3) (ih _ _ h4).v) fun _ => rfl
    · -- method
      simp only [Bool.and_eq_true, decide_eq_true_eq, Bool.not_eq_true'] at h
      obtain ⟨⟨⟨⟨⟨⟨⟨⟨⟨h1, h2⟩, h3⟩, h4⟩, h5⟩, h6⟩, h7⟩, h8⟩, h9⟩, h10⟩ := h
      have e := g.cl.fld _ _ h1
      subst e
      split at h10
      case h_2 => cases h10
      rename_i ns hn
      rw [List.all_eq_true] at h10
      refine PD.of hK (s_meth (k := k) g.cl.inj (g.room.mono (by omega)) tk (fun cc hk => (g.cl.cls cc hk).1) (fun cc m => ?_) (sup_base h3) h4 (chkL_stars h6) hn h9 (ih _ _ h5).v (chkL_ok ih h6) (evs_nil h6) (chkK_ok ih h7) fun r h ds h' e => (evs_len e).trans h8.symm) fun _ => rfl
      have := h10 cc m
      split at this
      case h_2 => cases this
      rename_i ps hps
      obtain ⟨f, M, FI⟩ := g.cl.mth cc _ ps h2 hps
      exact ⟨f, ps, M, FI, pairB_ok this⟩
    · -- new
      simp only [Bool.and_eq_true, decide_eq_true_eq, Bool.not_eq_true'] at h
      obtain ⟨⟨⟨⟨⟨h1, h2⟩, h3⟩, h4⟩, h5⟩, h6⟩ := h
      split at h6
      case h_2 => cases h6
      rename_i ns ps hn hps
      obtain ⟨k1, k2, k3, k4⟩ := g.cl.mkr _ _ h1
      obtain ⟨f, M, FI⟩ := k4 ps hps
      exact PD.of hK (s_new (k := k) M k1 FI (g.room.mono (by omega)) tk (g.gl h2) k3 k2 (chkL_stars h3) hn (pairB_ok h6) (chkL_ok ih h3) (evs_nil h3) (chkK_ok ih h4) fun r h ds h' e => (evs_len e).trans h5.symm) fun _ => rfl
    · -- isinstance of a class
      simp only [Bool.and_eq_true, decide_eq_true_eq, Bool.not_eq_true'] at h
      obtain ⟨⟨⟨⟨⟨rfl, h2⟩, h3⟩, h4⟩, h5⟩, h6⟩ := h
      split at h6
      case h_2 => cases h6
      rename_i cc hcc
      rw [decide_eq_true_eq] at h6
      obtain ⟨k1, k2, k3, _⟩ := g.cl.mkr _ _ hcc
      obtain ⟨i1, i2⟩ := g.cl.isi _ _ _ hcc h6
      exact PD.of hK (s_isI hK (g.gl h2) (g.blt _ (by decide +kernel)) (g.gl h3) k3 k2 i1 g.cl.tyi i2 h4 (ih _ _ h5).v) fun _ => rfl
    · -- bool
      simp only [Bool.and_eq_true, decide_eq_true_eq, Bool.not_eq_true'] at h
      obtain ⟨⟨⟨rfl, h2⟩, h3⟩, h4⟩ := h
      exact PD.of hK (s_bol g.ops g.room tk (g.gl h2) (g.blt _ (by decide +kernel)) h3 (ih _ _ h4).v) fun _ => rfl
    · -- comprehension of two clauses
      simp only [Bool.and_eq_true, Bool.not_eq_true'] at h
      obtain ⟨⟨⟨⟨⟨⟨⟨h1, h2⟩, h2'⟩, h3⟩, h4⟩, h4'⟩, h4''⟩, ⟨⟨⟨⟨h5, h6⟩, h7⟩, h8⟩, h9⟩, h10⟩ := h
      refine PD.of hK ((pe_lc2 g.calm g.nd ((ih _ _ h1).i _) (by rw [g.N, g.sc]; exact blkOk_by h3) (fun j hj => by rw [own_snd]; rw [List.all_eq_true] at h4''; simpa using h4'' j hj) (fun s H C cl fp => chkT_ok g.blkG _ _ h5) (fun s H C cl fp => chkIfs_ok (chk_ok n _ _ G W0 P k g.blkG takes_blk) h6)
        (fun s H C cl fp => (chk_ok n _ _ G W0 P k g.blkG takes_blk _ _ h7).i _) (fun s H C cl fp => chkT_ok g.blkG _ _ h8) (fun s H C cl fp => chkIfs_ok (chk_ok n _ _ G W0 P k g.blkG takes_blk) h9)
        (fun s H C cl fp => (chk_ok n _ _ G W0 P k g.blkG takes_blk _ _ h10).v) (fold_pure h2) (fun env => fold_pure (env := env) h2')).imp fun s H Q q => ?_) fun _ => rfl
      rw [own_snd]
      refine lc2_imp (fun j hj => ?_) (fun j hj => ?_) q
      · rw [List.all_eq_true] at h4
        simpa using h4 j hj
      · rw [List.all_eq_true] at h4'
        simpa using h4' j hj
    · -- _law_try(lambda: e)
      simp only [Bool.and_eq_true, decide_eq_true_eq] at h
      obtain ⟨⟨⟨⟨⟨⟨h1, h2⟩, h3⟩, h4⟩, h5⟩, h6⟩, h7⟩ := h
      have l := g.lam h1
      obtain ⟨cc, Pt, l1, l2, l3, l4⟩ := l.code
      obtain ⟨tg, CG, pg, bg, sg, dV, kV, doc, pm, cdv, ct, oc, an, od, osl, Ng, a, t1, t2, t3, t4, t5, t6, t7, t8, t9, t10, t11, t12⟩ := (g.cl.tryc _ (by simpa using h2)).ex
      have hpar := noPar_ok h6
      refine PD.of hK (s_try (T := ()) (CG := CG) g.cl.inj (t11 _ h4) (LamX.pe_lamcall (k := 5 * k + 2) (TT := TTry X.K CG) (g.gl h3) t1 t2 t3 t4 t5 t6 t7 t8 (t12 X (5 * k + 1) _ rfl rfl rfl rfl rfl l.room) l2 l1 l3 l4 l.room (by rw [g.sc]; exact LamX.lamS_by h5)
        (by rw [hpar]; rfl) (fun q cl pm cv ctv => by rw [hpar]; rfl) (fun A outer s H E f c' hr => ?_) (g.cl.tryc _ (by simpa using h2)).dbg t9 t10)) fun _ => rfl
      exact (chk_ok n (LamX.lamCx X A outer s H E _ f c') _ G (fun cls d _ H => E cls d H) P k (g.lamG hr) (takes_of rfl rfl rfl rfl) _ _ h7).v
    · cases h
end GY

namespace GY
open PySem PySem.Spec PyProof.Rows L2
/-! ### stores of tuples -/
def isTup : Expr → Bool
  | .Tuple .. => true
  | _ => false
def fnB (sc : Scope) : Bool := match sc.kind with | .function => true | _ => false
theorem fnB_ok {sc : Scope} (h : fnB sc = true) : sc.kind = .function := by
  unfold fnB at h
  split at h <;> first | assumption | cases h
section
variable {env : Env} {e a b d : Expr} {es vs : List Expr} {k k2 : Nat} {p p2 px py pz : Pos} {x y z : Str}
theorem sw_no (h : isTup e = false) : swappedStores [.Tuple es k p] e env = pure none := by
  cases e <;> first | rfl | cases h
theorem sw_len (h : (es.length == 2 || es.length == 3) = false) : swappedStores [.Tuple es k p] (.Tuple vs k2 p2) env = pure none := by
  unfold swappedStores
  simp only [h, Bool.not_false, Bool.true_or, if_true]
theorem star_any : ∀ {es : List Expr}, es.all (fun e => !isStar e) = true → (es.any fun | .Starred .. => true | _ => false) = false
  | [], _ => rfl
  | e :: es, h => by
    rw [List.all_cons, Bool.and_eq_true] at h
    rw [List.any_cons, star_any h.2, Bool.or_false]
    have := h.1
    cases e <;> first | rfl | (cases this)
theorem sw_two (hk : env.scope.kind = .function) (hx : env.scope.names.lookup x = some .local) (hy : env.scope.names.lookup y = some .local) (hl : (py.line == px.line) = true) (hn : x ≠ y)
    (hs : [a, b].all (fun e => !isStar e) = true) (h1 : [a, b].all (foldedForSure 8) = false) (h2 : [a, b].all (constantsAlone 8) = false) :
    swappedStores [.Tuple [.Name x px, .Name y py] k p] (.Tuple [a, b] k2 p2) env = pure (some [x, y]) := by
  have hb : env.blockKind = .function := by unfold Env.blockKind; rw [hk]; rfl
  have kx : env.kindOf x = some .local := hx
  have ky : env.kindOf y = some .local := hy
  unfold swappedStores
  have e1 : (List.eraseDups [x, y]).length = 2 := by
    have hb : (y == x) = false := by simpa using fun z => hn z.symm
    simp [List.eraseDups_cons, hb]
  simp only [hb, h1, h2, List.filterMap_cons, List.filterMap_nil, kx, ky, Expr.pos, List.head?_cons, Option.map_some, Option.getD_some, beq_self_eq_true, Bool.and_true, hl, if_true, e1]
  exact (if_neg (fun q => Bool.noConfusion (show false = true from q))).trans ((if_neg (fun q => Bool.noConfusion ((star_any hs).symm.trans q))).trans ((if_neg (fun q => Bool.noConfusion (show false = true from q))).trans ((if_neg Bool.false_ne_true).trans (if_neg Bool.false_ne_true))))
theorem sw_three (hk : env.scope.kind = .function) (hx : env.scope.names.lookup x = some .local) (hy : env.scope.names.lookup y = some .local) (hz : env.scope.names.lookup z = some .local) (hl : (py.line == px.line) = true) (hl2 : (pz.line == px.line) = true) (hn : x ≠ y) (hn2 : x ≠ z) (hn3 : y ≠ z)
    (hs : [a, b, d].all (fun e => !isStar e) = true) (h1 : [a, b, d].all (foldedForSure 8) = false) (h2 : [a, b, d].all (constantsAlone 8) = false) :
    swappedStores [.Tuple [.Name x px, .Name y py, .Name z pz] k p] (.Tuple [a, b, d] k2 p2) env = pure (some [x, y, z]) := by
  have hb : env.blockKind = .function := by unfold Env.blockKind; rw [hk]; rfl
  have kx : env.kindOf x = some .local := hx
  have ky : env.kindOf y = some .local := hy
  have kz : env.kindOf z = some .local := hz
  unfold swappedStores
  have e1 : (List.eraseDups [x, y, z]).length = 3 := by
    have b1 : (y == x) = false := by simpa using fun z => hn z.symm
    have b2 : (z == x) = false := by simpa using fun z => hn2 z.symm
    have b3 : (z == y) = false := by simpa using fun z => hn3 z.symm
    simp [List.eraseDups_cons, b1, b2, b3]
  simp only [hb, h1, h2, List.filterMap_cons, List.filterMap_nil, kx, ky, kz, Expr.pos, List.head?_cons, Option.map_some, Option.getD_some, beq_self_eq_true, Bool.and_true, hl, hl2, if_true, e1]
  exact (if_neg (fun q => Bool.noConfusion (show false = true from q))).trans ((if_neg (fun q => Bool.noConfusion ((star_any hs).symm.trans q))).trans ((if_neg (fun q => Bool.noConfusion (show false = true from q))).trans ((if_neg Bool.false_ne_true).trans (if_neg Bool.false_ne_true))))
theorem sw_fold (hs : vs.all (fun e => !isStar e) = true) (h1 : vs.all (foldedForSure 8) = true) : swappedStores [.Tuple es k p] (.Tuple vs k2 p2) env = pure none := by
  unfold swappedStores
  simp only [h1, if_true]
  split
  · rfl
  · refine (if_neg (fun q => Bool.noConfusion ((star_any hs).symm.trans q))).trans ?_
    split <;> rfl
end

def isNm : Expr → Bool
  | .Name .. => true
  | _ => false
theorem fm_le {f : Expr → Option Str} : ∀ es : List Expr, (es.filterMap f).length ≤ es.length := fun es => List.length_filterMap_le f es
theorem fm_ne {f : Expr → Option Str} (hf : ∀ e, isNm e = false → f e = none) : ∀ {es : List Expr}, es.any (fun e => !isNm e) = true → (es.filterMap f).length < es.length
  | [], h => by simp at h
  | e :: es, h => by
    rw [List.any_cons, Bool.or_eq_true, Bool.not_eq_true'] at h
    have le := fm_le (f := f) es
    rw [List.filterMap_cons, List.length_cons]
    cases he : f e with
    | none => dsimp only; omega
    | some x =>
      dsimp only
      rcases h with h | h
      · rw [hf e h] at he; cases he
      · have := fm_ne hf h
        rw [List.length_cons]; omega
theorem sw_mix {env : Env} {es vs : List Expr} {k k2 : Nat} {p p2 : Pos} (hs : vs.all (fun e => !isStar e) = true) (h1 : es.any (fun e => !isNm e) = true) : swappedStores [.Tuple es k p] (.Tuple vs k2 p2) env = pure none := by
  unfold swappedStores
  dsimp only
  split
  · rfl
  · refine (if_neg (fun q => Bool.noConfusion ((star_any hs).symm.trans q))).trans ?_
    rw [if_pos]
    rw [Bool.or_eq_true]
    refine .inl ?_
    have := fm_ne (f := fun
      | .Name id pos => if env.kindOf id == some .local && pos.line == (es.head?.map (·.pos.line)).getD 0 then some id else none
      | _ => none) (fun e h => by cases e <;> first | rfl | (cases h)) h1
    rw [bne_iff_ne]
    exact Nat.ne_of_lt this
/-! ### statements -/
def swB (es : List Expr) (v : Expr) : Bool := match v with
  | .Tuple vs _ _ => !(es.length == 2 || es.length == 3) || (vs.all (fun e => !isStar e) && (vs.all (foldedForSure 8) || es.any (fun e => !isNm e)))
  | _ => true
theorem swB_ok {es : List Expr} {v : Expr} {k : Nat} {p : Pos} {env : Env} (h : swB es v = true) : swappedStores [.Tuple es k p] v env = pure none := by
  unfold swB at h
  split at h
  · rw [Bool.or_eq_true] at h
    rcases h with h | h
    · exact sw_len (by simpa using h)
    · rw [Bool.and_eq_true, Bool.or_eq_true] at h
      rcases h.2 with h2 | h2
      · exact sw_fold h.1 h2
      · exact sw_mix h.1 h2
  · rename_i hn
    exact sw_no (by cases v <;> first | rfl | exact absurd rfl (hn _ _ _))
def parB (es : List Expr) : Bool := es.all (fun e => !isStar e) && !es.all (foldedForSure 8) && !es.all (constantsAlone 8)
def chkSs (f : Stmt → S → Bool) : List Stmt → List S → Bool
  | [], [] => true
  | s :: ss, i :: is => f s i && chkSs f ss is
  | _, _ => false
def chkS : Nat → CT → Stmt → S → Bool
  | 0, _, _, _ => false
  | n + 1, c, st, ir => match ir, st with
    | .asg (.nm i) (.lc own tg it cnd elt), .Assign [.Name x px] (.ListComp y gs scope lp) _ => decide (c.N[i]? = some x) && fnB c.sc && locB c.sc x && (px.line == lp.line) && !(scope.names.any fun (n, k) => n == x && (k == .local || k == .cell)) &&
        chk (n + 1) c (.ListComp y gs scope lp) (.lc own tg it cnd elt)
    | .asg (.nm i) e, .Assign [.Name x _] v _ => !isComp v && decide (c.N[i]? = some x) && tgB c x && chk n c v e
    | .asg (.tp ts) e, .Assign [.Tuple es _ p] v _ => swB es v && chkT c (.Tuple es 0 p) (.tp ts) && chk n c v e
    | .par [i, j] is, .Assign [.Tuple [.Name x px, .Name y py] _ _] (.Tuple [a, b] _ _) _ => decide (c.N[i]? = some x) && decide (c.N[j]? = some y) && decide (i ≠ j) && decide (x ≠ y) && fnB c.sc && locB c.sc x && locB c.sc y && (py.line == px.line) && parB [a, b] && chkL (chk n c) [a, b] is
    | .par [i, j, k] is, .Assign [.Tuple [.Name x px, .Name y py, .Name z pz] _ _] (.Tuple [a, b, d] _ _) _ => decide (c.N[i]? = some x) && decide (c.N[j]? = some y) && decide (c.N[k]? = some z) && decide (i ≠ j) && decide (i ≠ k) && decide (j ≠ k) && decide (x ≠ y) && decide (x ≠ z) && decide (y ≠ z) && fnB c.sc && locB c.sc x && locB c.sc y && locB c.sc z && (py.line == px.line) && (pz.line == px.line) && parB [a, b, d] && chkL (chk n c) [a, b, d] is
    | .put o i e, .Assign [.Subscript x y _] v _ => !isComp v && !isSlice y && chk n c v e && chk n c x o && chk n c y i
    | .setf o f e, .Assign [.Attribute x m _] v _ => !isComp v && decide (c.names[f]? = some m) && c.flds.contains f && chk n c v e && chk n c x o
    | .ex e, .Expr v _ => !isComp v && chk n c v e
    | .ret e, .Return (some v) _ => chk n c v e
    | .retN, .Return none _ => true
    | .ifs t a b, .If x ss us _ => chk n c x t && chkSs (chkS n c) ss a && chkSs (chkS n c) us b
    | .for_ t i b, .For tg it ss [] _ => !isSet it && chkT c tg t && chk n c it i && chkSs (chkS n c) ss b
    | .whl t b, .While x ss [] _ => chk n c x t && chkSs (chkS n c) ss b
    | .brk, .Break _ => true
    | .cnt, .Continue _ => true
    | .pas, .Pass _ => true
    | .stk, _ => true
    | .rse0 cc wf wd, .Raise (some (.Call (.Name x _) [] [] _)) none _ => decide (c.xids.lookup x = some (cc, wd, none)) && glB c.sc x && decide (c.names[wf]? = some "word")
    | .rse1 cc wf wd f e, .Raise (some (.Call (.Name x _) [y] [] _)) none _ => decide (c.xids.lookup x = some (cc, wd, some f)) && glB c.sc x && decide (c.names[wf]? = some "word") && !isStar y && chk n c y e
    | _, _ => false

section
variable {X : Cx} {G : Sg} {W : WX} {c : CT} {P : Nat → Option Fd} {k : Nat}
theorem chkSs_ok {F : Fns} {f : Stmt → S → Bool} (ih : ∀ s i, f s i = true → PS X s (tS G W (exS F i))) : ∀ {ss : List Stmt} {is : List S}, chkSs f ss is = true → PSs X ss (tS G W (exSs F is))
  | [], [], _ => x_nil
  | [], _ :: _, h => nomatch h
  | _ :: _, [], h => nomatch h
  | s :: ss, i :: is, h => by
    simp only [chkSs, Bool.and_eq_true] at h
    exact x_cons (ih s i h.1) (chkSs_ok ih h.2)
theorem Gd.loc (g : Gd X c G P k) {x : Str} (h : locB c.sc x = true) : X.env.scope.names.lookup x = some .local := by rw [g.sc]; exact locB_ok h
theorem lc_set (g : Gd X c G P k) (tk : Takes X W) {n i : Nat} {x : Str} {px lp p : Pos} {y : Expr} {gs : List Comprehension} {scope : Scope} {own : List Nat} {tg : T} {it elt : E} {cnd : List E}
    (hi : c.N[i]? = some x) (hf : fnB c.sc = true) (hx : locB c.sc x = true) (hl : (px.line == lp.line) = true) (ha : (scope.names.any fun (n, k) => n == x && (k == .local || k == .cell)) = false)
    (h : chk (n + 1) c (.ListComp y gs scope lp) (.lc own tg it cnd elt) = true) :
    PS X (.Assign [.Name x px] (.ListComp y gs scope lp) p) (tS G W fun r h => ((den (callN P k) (.lc own tg it cnd elt)).v r h).os r fun d h1 => match bindT (.nm i) d r h1 with | some r1 => .ok .nx r1 h1 | none => .stuck) := by
  have ih := chk_ok n X c G W P k g tk
  unfold chk at h
  split at h
  all_goals try (cases h; done)
  all_goals rename_i e1 e2; first | (cases e2; done) | (cases e1; try cases e2)
  simp only [Bool.and_eq_true, Bool.not_eq_true'] at h
  obtain ⟨⟨⟨⟨h1, h2⟩, h3⟩, h4⟩, ⟨h5, h6⟩, h7⟩ := h
  have hx' : X.env.scope.names.lookup x = some .local := by rw [g.sc]; exact locB_ok hx
  refine (ps_setLc g.calm g.nd (by rw [g.N]; exact hi) hx' (sw_true (by rw [g.sc]; exact fnB_ok hf) hx' hl ha) ((ih _ _ h1).i _) (by rw [g.N, g.sc]; exact blkOk_by h3) (fun s H C cl fp => chkT_ok g.blkG _ _ h5) (fun s H C cl fp => chkIfs_ok (chk_ok n _ _ G W0 P k g.blkG takes_blk) h6)
        (fun s H C cl fp => (chk_ok n _ _ G W0 P k g.blkG takes_blk _ _ h7).v) (fold_pure h2)).imp fun De s H q => ?_
  show tLc _ _ _ _ _ s H fun x H1 => gName i x s H1 De.nx
  rw [own_snd]
  refine lc_imp (W := W) (fun j hj => ?_) ?_
  · rw [List.all_eq_true] at h4
    simpa using h4 j hj
  obtain ⟨il, h, r, w, er, q⟩ := q
  exact ⟨il, h, r, w, er, after_imp (afterS.osD q er) fun x H1 ⟨il1, h1, d, e1, w1, r1, er1, q1⟩ => q1 _ il1 H1 .refl w1 (er1.set i r1)⟩
end
theorem chkS_ok : ∀ (n : Nat) (X : Cx) (c : CT) (G : Sg) (W : WX) (P : Nat → Option Fd) (k : Nat), Gd X c G P k → Takes X W → PassesOwn (model X.prog X.w) X.A X.env X.xe → ∀ (st : Stmt) (ir : S), chkS n c st ir = true → PS X st (tS G W (exS (callN P k) ir))
  | 0, _, _, _, _, _, _, _, _, _, _, _, h => nomatch h
  | n + 1, X, c, G, W, P, k, g, tk, hp, st, ir, h => by
    have ie := chk_ok n X c G W P k g tk
    have ih := chkS_ok n X c G W P k g tk hp
    have hK := g.K
    unfold chkS at h
    split at h
    · -- name = [..]
      simp only [Bool.and_eq_true, decide_eq_true_eq, Bool.not_eq_true'] at h
      obtain ⟨⟨⟨⟨⟨h1, h2⟩, h3⟩, h4⟩, h5⟩, h6⟩ := h
      exact (lc_set g tk h1 h2 h3 h4 h5 h6).imp fun De s H q => q
    · -- name = e
      simp only [Bool.and_eq_true, decide_eq_true_eq, Bool.not_eq_true'] at h
      obtain ⟨⟨⟨h1, h2⟩, h3⟩, h4⟩ := h
      have hs := g.sc
      unfold tgB at h3
      split at h3
      · rename_i e
        exact (x_asgN g.nd (by rw [g.N]; exact h2) (.inl (by rw [hs]; exact e)) (.inr (by rw [hs]; exact e)) (swaps_plain h1) (ie _ _ h4).v).imp fun De s H q => q
      · rename_i e
        exact (x_asgN g.nd (by rw [g.N]; exact h2) (.inr (by rw [hs]; exact e)) (.inl (g.fn (by simpa using h3) _)) (swaps_plain h1) (ie _ _ h4).v).imp fun De s H q => q
      · cases h3
    · -- a, b, .. = e
      simp only [Bool.and_eq_true, Bool.not_eq_true'] at h
      obtain ⟨⟨h2, h3⟩, h4⟩ := h
      refine (x_asgT (swB_ok h2) (ie _ _ h4).v (chkT_ok g _ _ ?_)).imp fun De s H q => q
      simpa [chkT] using h3
    · -- two at once
      simp only [Bool.and_eq_true, decide_eq_true_eq, parB, Bool.not_eq_true'] at h
      obtain ⟨⟨⟨⟨⟨⟨⟨⟨⟨h1, h2⟩, h3⟩, h4⟩, h5⟩, h6⟩, h7⟩, h8⟩, ⟨h9, h10⟩, h11⟩, h12⟩ := h
      have lx := g.loc h6
      have ly := g.loc h7
      exact (x_par g.calm g.nd (by rw [g.N]; exact h1) (by rw [g.N]; exact h2) h3 lx ly (chkL_ok ie h12) (sw_two (by rw [g.sc]; exact fnB_ok h5) lx ly h8 h4 h9 h10 h11)).imp fun De s H q => q
    · -- three at once
      simp only [Bool.and_eq_true, decide_eq_true_eq, parB, Bool.not_eq_true'] at h
      obtain ⟨⟨⟨⟨⟨⟨⟨⟨⟨⟨⟨⟨⟨⟨⟨⟨h1, h2⟩, h3⟩, h4⟩, h5⟩, h6⟩, h7⟩, h8⟩, h9⟩, h10⟩, h11⟩, h12⟩, h13⟩, h14⟩, h15⟩, ⟨h16, h17⟩, h18⟩, h19⟩ := h
      have lx := g.loc h11
      have ly := g.loc h12
      have lz := g.loc h13
      exact (x_par3 g.calm g.nd (by rw [g.N]; exact h1) (by rw [g.N]; exact h2) (by rw [g.N]; exact h3) h4 h5 h6 lx ly lz (chkL_ok ie h19) (sw_three (by rw [g.sc]; exact fnB_ok h10) lx ly lz h14 h15 h7 h8 h9 h16 h17 h18)).imp fun De s H q => q
    · -- o[i] = e
      simp only [Bool.and_eq_true, Bool.not_eq_true'] at h
      obtain ⟨⟨⟨⟨h1, h2⟩, h3⟩, h4⟩, h5⟩ := h
      exact (x_put h1 h2 (ie _ _ h3).v (ie _ _ h4).v (ie _ _ h5).v).imp fun De s H q => q
    · -- o.f = e
      simp only [Bool.and_eq_true, decide_eq_true_eq, Bool.not_eq_true'] at h
      obtain ⟨⟨⟨⟨h1, h2⟩, h3⟩, h4⟩, h5⟩ := h
      have e := g.cl.fld _ _ h2
      subst e
      exact (x_setf g.cl.inj (fun cc hk => ⟨(g.cl.cls cc hk).1, g.cl.nat cc _ hk h3⟩) h1 (ie _ _ h4).v (ie _ _ h5).v).imp fun De s H q => q
    · simp only [Bool.and_eq_true, Bool.not_eq_true'] at h
      exact (x_expr h.1 (ie _ _ h.2).v).imp fun De s H q => q
    · exact (x_ret (ie _ _ h).v).imp fun De s H q => q
    · exact x_retN.imp fun De s H q => q
    · simp only [Bool.and_eq_true] at h
      exact (x_if (ie _ _ h.1.1).t (chkSs_ok ih h.1.2) (chkSs_ok ih h.2)).imp fun De s H q => q
    · simp only [Bool.and_eq_true, Bool.not_eq_true'] at h
      obtain ⟨⟨⟨h1, h2⟩, h3⟩, h4⟩ := h
      exact (x_for hp g.calm (fold_pure h1) ((ie _ _ h3).i _) (chkT_ok g _ _ h2) (chkSs_ok ih h4)).imp fun De s H q => q
    · simp only [Bool.and_eq_true] at h
      exact (x_while manyTurns hp (ie _ _ h.1).t (chkSs_ok ih h.2)).imp fun De s H q => q
    · exact x_break
    · exact x_continue
    · exact x_pass
    · exact ⟨fun _ _ _ _ _ _ ⟨_, _, _, _, _, q⟩ => q.elim⟩
    · -- raise C()
      simp only [Bool.and_eq_true, decide_eq_true_eq] at h
      obtain ⟨⟨h1, h2⟩, h3⟩ := h
      obtain ⟨k1, k2, k3⟩ := g.cl.exi _ _ _ _ h1
      exact (x_rse0 g.calm tk (g.room.mono (by omega)) (g.cl.fld _ _ h3) k3 (g.gl h2) k2 k1).imp fun De s H q => q
    · -- raise C(e)
      simp only [Bool.and_eq_true, decide_eq_true_eq, Bool.not_eq_true'] at h
      obtain ⟨⟨⟨⟨h1, h2⟩, h3⟩, h4⟩, h5⟩ := h
      obtain ⟨k1, k2, k3⟩ := g.cl.exi _ _ _ _ h1
      exact (x_rse1 g.calm tk (g.room.mono (by omega)) (g.cl.fld _ _ h3) k3 (g.gl h2) k2 k1 h4 (ie _ _ h5).v).imp fun De s H q => q
    · cases h
end GY

namespace GY
open PySem PySem.Spec PyProof.Rows L2
/-! ### a law's defs -/
/-- where a def stands: a global, a class's method, a property's getter -/
inductive Wh where
  | glo (x : Str)
  | met (C m : Str)
  | prp (C m : Str)
  | exi (C : Str)
def getter (K : PySem.W.Frag) (p : Addr) : Addr := match PySem.W.recIn K p "property" with
  | some (.ref g :: _) => g
  | _ => 0
def Wh.addr (K : PySem.W.Frag) : Wh → Addr
  | .glo x => He.ga K x
  | .met C m => He.ma K (He.ga K C) m
  | .prp C m => getter K (He.ma K (He.ga K C) m)
  | .exi C => He.ma K (He.ga K C) "__init__"
def Wh.nm : Wh → Option Str
  | .glo x => some x
  | _ => none
/-- a def's text -/
structure DefT where
  name : Str
  qual : Str
  params : Arguments
  body : List Stmt
  scope : Scope
  dfl : List He.Dv := []
  kwd : List (Str × He.Dv) := []
structure DefX where
  w : Wh
  gid : Nat
  d : DefT
  ps1 : List Str
  ps2 : List Str
  va : Option Str
  N : List Str
  fd : Fd
  lam : Bool := false
def DefX.da (x : DefX) : He5.DefA := ⟨fun K => x.w.addr K, x.d.name, x.d.qual, x.d.params, x.d.body, x.d.scope, x.d.dfl, x.d.kwd⟩
def DefX.ps (x : DefX) : List Str := x.ps1 ++ x.ps2
def nodupB : List Str → Bool
  | [] => true
  | x :: xs => xs.all (fun y => decide (x ≠ y)) && nodupB xs
theorem nodupB_ok : ∀ {l : List Str}, nodupB l = true → l.Nodup
  | [], _ => List.nodup_nil
  | x :: xs, h => by
    simp only [nodupB, Bool.and_eq_true, List.all_eq_true, decide_eq_true_eq] at h
    exact List.nodup_cons.mpr ⟨fun m => h.1 x m rfl, nodupB_ok h.2⟩
def locCell (sc : Scope) (x : Str) : Bool := match sc.names.lookup x with | some .local => true | some .cell => true | _ => false
def notFree : NameKind → Bool
  | .free => false
  | _ => true
def scB (N P : List Str) (sc : Scope) : Bool := fnB sc && !sc.isCoroutine && !sc.isGenerator && nodupB N && decide (N.take P.length = P) && P.all (locCell sc) && sc.names.all fun y => notFree y.2
theorem scB_ok {N P : List Str} {sc : Scope} (h : scB N P sc = true) : FnScope N P sc := by
  simp only [scB, Bool.and_eq_true, Bool.not_eq_true', decide_eq_true_eq, List.all_eq_true] at h
  obtain ⟨⟨⟨⟨⟨⟨h1, h2⟩, h3⟩, h4⟩, h5⟩, h6⟩, h7⟩ := h
  refine ⟨fnB_ok h1, h2, h3, nodupB_ok h4, h5, fun x m => ?_, fun y m e => ?_⟩
  · have := h6 x m
    unfold locCell at this
    split at this <;> first | exact .inl (by assumption) | exact .inr (by assumption) | cases this
  · have := h7 y m
    rw [e] at this
    cases this
def dvB : D → He.Dv → Bool
  | .non, .non => true
  | .bl b, .bl c => b == c
  | .int b, .int c => b == c
  | .str b, .str c => decide (b = c)
  | _, _ => false
def dvsB : List D → List He.Dv → Bool
  | [], [] => true
  | d :: ds, v :: vs => dvB d v && dvsB ds vs
  | _, _ => false
theorem dvB_ok {G : Sg} {K : PySem.W.Frag} {il : Lay} {H : Hp} {d : D} {v : He.Dv} (h : dvB d v = true) : Rep G il H d (v.v K) := by
  cases d <;> cases v <;> simp only [dvB, beq_iff_eq, decide_eq_true_eq, Bool.false_eq_true, reduceCtorEq] at h
  · exact .non
  · subst h; exact .bl _
  · subst h; exact .int _
  · subst h; exact .str _
theorem dvsB_ok {G : Sg} {K : PySem.W.Frag} : ∀ {ds : List D} {vs : List He.Dv}, dvsB ds vs = true → DflR G ds (vs.map (He.Dv.v K))
  | [], [], _ => fun _ _ => .nil
  | [], _ :: _, h => nomatch h
  | _ :: _, [], h => nomatch h
  | d :: ds, v :: vs, h => fun il H => by
    simp only [dvsB, Bool.and_eq_true] at h
    exact .cons (dvB_ok h.1) (dvsB_ok h.2 il H)

/-- a class of exceptions: its name, its number, its word, its field -/
structure XCd where
  name : Str
  cid : Nat
  word : Str
  fld : Option Nat
/-- the shape of its __init__ -/
def xshape (x : DefX) (word : Str) (f : Option Str) : Bool := decide (x.d.name = "__init__") && x.d.dfl.isEmpty && x.d.kwd.isEmpty && (match x.d.params, x.d.body, f with
  | ⟨[], [a], none, [], _, none, _⟩, [.Assign [.Attribute (.Name s _) m _] (.Constant (.str w) _ _) _], none => decide (a.arg = s) && decide (m = "word") && decide (w = word) && scB [s] [s] x.d.scope && !(s == ("__debug__" : Str)) && !(s == ("__classdict__" : Str))
  | ⟨[], [a, b], none, [], _, none, _⟩, [.Assign [.Attribute (.Name s _) m _] (.Constant (.str w) _ _) _, .Assign [.Attribute (.Name s2 _) g _] (.Name n _) _], some f => decide (a.arg = s) && decide (m = "word") && decide (w = word) && decide (s2 = s) && decide (g = f) && decide (b.arg = n) && decide (s ≠ n) &&
      scB [s, n] [s, n] x.d.scope && !(s == ("__debug__" : Str)) && !(s == ("__classdict__" : Str)) && !(n == ("__debug__" : Str)) && !(n == ("__classdict__" : Str))
  | _, _, _ => false)
/-- a law's text: its defs and classes, by numbers -/
structure LI where
  tbl : List DefX
  names : List Str
  flds : List Nat
  prps : List Nat
  mets : List Nat
  clss : List (Str × Nat)
  subs : List (Nat × List Nat)
  xcs : List XCd := []
  tryb : Bool := false
  trs : List (List Nat × List Nat) := []
def fldOf (names : List Str) (i : Nat) : Str := match names[i]? with
  | some n => n
  | none => ⟨#[3000000 + i]⟩
def clsAd (L : LI) (K : PySem.W.Frag) (c : Nat) : Addr := match L.clss.find? (fun p => p.2 == c) with
  | some p => He.ga K p.1
  | none => match L.xcs.find? (fun p => p.cid == c) with
    | some p => He.ga K p.name
    | none => 0
/-- the code object of the def at a -/
def codeAt (K : PySem.W.Frag) (a : Addr) : Addr := match K.lookup a with
  | some ⟨_, _, .func fd, _⟩ => (match fd.code with
    | .ref c => c
    | _ => 0)
  | _ => 0
/-- a def's code object and its table -/
def DefX.cT (x : DefX) (K : PySem.W.Frag) : Addr × Addr := (codeAt K (x.w.addr K), He.tabOf K (codeAt K (x.w.addr K)))
def DefX.lq (x : DefX) : Str := x.d.qual ++ ".<locals>." ++ "<lambda>"
/-- the tables of code objects -/
def LI.tabs (L : LI) (K : PySem.W.Frag) : List (Addr × Str) := (L.tbl.filter DefX.lam).map fun x => ((x.cT K).2, x.lq)
def LI.sg (L : LI) (K : PySem.W.Frag) : Sg := { K := K, cls := clsAd L K, fld := fldOf L.names, ok := (fun c => L.clss.any fun p => p.2 == c), tab := L.tabs K }
def gloOf (x : DefX) : Option (Str × Nat) := match x.w with
  | .glo n => some (n, x.gid)
  | _ => none
def ctOf (L : LI) (x : DefX) : CT := ⟨x.d.scope, x.N, false, L.tbl.filterMap gloOf, L.tbl.map (fun y => (y.gid, y.ps)), L.names, L.flds, L.prps, L.mets, L.clss, L.subs, L.xcs.map (fun p => (p.name, p.cid, p.word, p.fld)), if L.tryb then ["_law_try"] else [], L.trs, x.lam⟩
def chkDef (fuel : Nat) (L : LI) (x : DefX) : Bool :=
  scB x.N (x.ps1 ++ x.ps2 ++ x.va.toList) x.d.scope && x.d.params.posonlyargs.isEmpty && decide (x.d.params.args.map (·.arg) = x.ps1) && decide (x.d.params.kwonlyargs.map (·.arg) = x.ps2) &&
    x.d.params.kwarg.isNone && decide (x.d.params.vararg.map (·.arg) = x.va) && nodupB (x.ps1 ++ x.ps2) && decide (x.ps1.length = x.fd.npos) && decide (x.ps2.length = x.fd.kdf.length) && (x.fd.star == x.va.isSome) && decide (x.N.length = x.fd.ns) &&
    decide (x.fd.pdf.length ≤ x.fd.npos) && decide (x.d.kwd.map (·.1) = x.ps2) && dvsB x.fd.kdf (x.d.kwd.map (·.2)) &&
    chkSs (chkS fuel (ctOf L x)) x.d.body x.fd.body
def chkTbl (fuel : Nat) (L : LI) : Bool := L.tbl.all (chkDef fuel L)
/-- the numbers of the defs tell where they stand -/
def chkGid (L : LI) (x : DefX) : Bool := match x.w with
  | .glo n => decide (x.gid < 1000) && !(n == ("__debug__" : Str))
  | .met C m => (match L.clss.lookup C with
    | some c => (List.range 200).any (fun i => decide (x.gid = mid c i) && decide (L.names[i]? = some m) && L.mets.contains i && !L.prps.contains i)
    | none => false)
  | .prp C m => (match L.clss.lookup C with
    | some c => (List.range 200).any (fun i => decide (x.gid = mid c i) && decide (L.names[i]? = some m) && L.prps.contains i && !L.mets.contains i && decide (spNames.length ≤ i))
    | none => false)
  | .exi _ => decide (x.gid < 1000)
def chkXc (L : LI) (p : XCd) : Bool := !(p.name == ("__debug__" : Str)) && L.clss.all (fun q => !(q.2 == p.cid)) && (match L.xcs.find? (fun q => q.cid == p.cid) with | some q => decide (q.name = p.name) | none => false) &&
  L.tbl.any (fun x => (match x.w with | .exi n => decide (n = p.name) | _ => false) && xshape x p.word (p.fld.map (fldOf L.names)))
/-- `_law_try`, `_law_field_of` -/
def tryShape (x : DefX) : Bool := decide (x.w.nm = some ("_law_try" : Str)) && decide (x.d.name = "_law_try") && decide (x.d.qual = "_law_try") && x.d.dfl.isEmpty && x.d.kwd.isEmpty && (match x.d.params, x.N, x.d.body with
  | ⟨[], [ak], none, [], _, none, _⟩, [n1, n2], [.Try [.Return (some (.Tuple [.Constant (.str t) _ _, .Call (.Name a _) [] [] _] _ _)) _] (.ExceptHandler (some (.Name gx _)) (some e) [.Return (some (.Tuple [.Attribute (.Name e1 _) w _, .Call (.Name fo _) [.Name e2 _] [] _] _ _)) _] _ :: _) [] [] _] =>
    decide (ak.arg = n1) && decide (n2 = e) && decide (t = "told") && decide (a = n1) && decide (gx = "GrainError") && decide (e1 = e) && decide (w = "word") && decide (fo = "_law_field_of") && decide (e2 = e) && scB [n1, n2] [n1] x.d.scope &&
      decide (x.d.scope.names.lookup e = some .local) && decide (x.d.scope.names.lookup ("GrainError" : Str) = some .globalImplicit) && decide (x.d.scope.names.lookup ("_law_field_of" : Str) = some .globalImplicit) && !dbgB e && !dbgB n1
  | _, _, _ => false)
def foShape (x : DefX) : Bool := decide (x.w.nm = some ("_law_field_of" : Str)) && decide (x.d.name = ("_law_field_of" : Str)) && x.d.dfl.isEmpty && x.d.kwd.isEmpty && (match x.d.params with
  | ⟨[], [ak], none, [], _, none, _⟩ => scB [ak.arg] [ak.arg] x.d.scope && foB ak.arg x.d.body && !dbgB ak.arg
  | _ => false)
/-- the numbers that a call of `_law_try` tells -/
def trsOk (L : LI) (p : List Nat × List Nat) : Bool := ((List.range 6).all fun i => decide (L.names[p.1.getD i 0]? = some (foName i))) && p.2.all fun c => L.xcs.any fun q => q.cid == c
def chkTry (L : LI) : Bool := !L.tryb || (L.tbl.any tryShape && L.tbl.any foShape && L.trs.all (trsOk L))
def chkLI (L : LI) : Bool := chkTry L && L.tbl.all (chkGid L) && nodupB L.names && L.names.all (fun n => n.cps.toList.all fun k => decide (k < 3000000)) && decide (L.names.take spNames.length = spNames) &&
  L.clss.all (fun p => !(p.1 == ("__debug__" : Str)) && decide (L.clss.find? (fun q => q.2 == p.2) = some p)) && L.mets.all (fun i => decide (i < 200)) && L.prps.all (fun i => decide (i < 200)) && decide ((L.tbl.map DefX.gid).Nodup) && L.xcs.all (chkXc L)
def tblP (L : LI) : Nat → Option Fd := fun i => (L.tbl.find? fun x => x.gid == i).map DefX.fd
/-! ### what the head tells of the classes -/
def propB (K : PySem.W.Frag) (C f : Str) : Bool :=
  let p := He.ma K (He.ga K C) f
  He.eqO (PySem.W.findIn K (.ref (He.ga K C)) f) (some (some (.ref p))) && He.eqO (PySem.W.specialIn K (.ref p) "__get__") (some (some (.builtin "property.__get__"))) && decide (PySem.W.takesIn K (.ref p) = some true) &&
    (match PySem.W.recIn K p "property" with | some (.ref _ :: _) => true | _ => false)
theorem propB_ok {K : PySem.W.Frag} {C f : Str} (h : propB K C f = true) : PropOf K (He.ga K C) f (He.ma K (He.ga K C) f) (getter K (He.ma K (He.ga K C) f)) := by
  simp only [propB, Bool.and_eq_true, decide_eq_true_eq] at h
  obtain ⟨⟨⟨h1, h2⟩, h3⟩, h4⟩ := h
  refine ⟨He.eqO_ok h1, He.eqO_ok h2, h3, ?_⟩
  unfold getter
  split at h4
  · rename_i g rest e; exact ⟨rest, by rw [e]⟩
  · cases h4
def clsF (L : LI) (K : PySem.W.Frag) (p : Str × Nat) : Bool :=
  (He.Fa.glo p.1).ok K && (He.Fa.cls p.1).ok K && PySem.W.selfFirst K (He.ga K p.1) && He.eqO (PySem.W.findIn K (.ref (He.ga K p.1)) (dunderR "mul")) (some none) &&
    He.eqO (PySem.W.findIn K (.ref (He.ga K p.1)) "__class__") (some (some (.builtin "object.__class__"))) && decide (PySem.W.mroIn K (He.ga K p.1) (.type "object") = some true) &&
    L.flds.all (fun f => (match L.names[f]? with | some n => (He.Fa.noat p.1 n).ok K | none => false)) &&
    tyNames.all (fun t => decide (PySem.W.kitOne K (.type t) (.ref (He.ga K p.1)) = some false)) &&
    (match L.subs.lookup p.2 with | some cs => L.clss.all (fun q => decide (PySem.W.kitOne K (.ref (He.ga K q.1)) (.ref (He.ga K p.1)) = some (cs.contains q.2))) | none => true)
def eqF (K : PySem.W.Frag) (p : Str × Nat) : Bool := tyNames.all (fun t => PySem.W.notFirst K (He.ga K p.1) (.type t)) && (match PySem.W.findIn K (.ref (He.ga K p.1)) "__eq__" with | some (some (.ref _)) => PySem.W.neIn K (He.ga K p.1) | _ => true)
def defF (K : PySem.W.Frag) (x : DefX) : Bool := match x.w with
  | .glo n => (He.Fa.glo n).ok K
  | .met C m => (He.Fa.meth C m).ok K && PySem.W.fnIn K (He.ma K (He.ga K C) m) && (!(m == ("__init__" : Str)) || (He.Fa.mkr C).ok K)
  | .prp C m => propB K C m
  | .exi _ => true
/-- what the head tells of a class of exceptions -/
def xcF (L : LI) (K : PySem.W.Frag) (p : XCd) : Bool := (He.Fa.glo p.name).ok K && oexB K (He.ga K p.name) && He.eqO (PySem.W.findIn K (.ref (He.ga K p.name)) "word") (some none) &&
  (match p.fld with | some f => He.eqO (PySem.W.findIn K (.ref (He.ga K p.name)) (fldOf L.names f)) (some none) | none => true) &&
  He.eqO (PySem.W.findIn K (.ref (He.ga K p.name)) "__init__") (some (some (.ref (He.ma K (He.ga K p.name) "__init__")))) && (PySem.W.typeIn K (.ref (He.ma K (He.ga K p.name) "__init__")) == some (.type "function"))
/-- a value that stands in the written part -/
def valOf : Value → Option V
  | .none => some .non
  | .bool b => some (.bl b)
  | .int i _ => some (.int i)
  | .str x _ => some (.str x)
  | .ref a => some (.ref a)
  | _ => none
theorem valOf_rel {u : Value} {v : V} (h : valOf u = some v) : RelV v u := by
  cases u <;> simp only [valOf, Option.some.injEq, reduceCtorEq] at h <;> subst h <;> first | rfl | exact ⟨_, rfl⟩
def allV : List Value → Option (List V)
  | [] => some []
  | u :: us => match valOf u, allV us with
    | some v, some vs => some (v :: vs)
    | _, _ => none
theorem allV_rel : ∀ {us : List Value} {vs : List V}, allV us = some vs → Vals vs us
  | [], _, h => by cases h; exact .nil
  | u :: us, vs, h => by
    simp only [allV] at h
    split at h
    · rename_i v ws e1 e2
      cases h
      exact .cons (valOf_rel e1) (allV_rel e2)
    · cases h
mutual
def constB (K : PySem.W.Frag) : D → V → Bool
  | .non, v => decide (v = .non)
  | .bl b, v => decide (v = .bl b)
  | .int i, v => decide (v = .int i)
  | .str x, v => decide (v = .str x)
  | .tup ds, v => (match v with
    | .ref a => (match K.lookup a with
      | some o => (match o.cls, o.data with
        | .type "tuple", .seq its _ => decide (its.size ≤ sizeLine) && noLoc ds && (match allV its.toList with | some vs => constsB K ds vs | none => false)
        | _, _ => false)
      | none => false)
    | _ => false)
  | _, _ => false
def constsB (K : PySem.W.Frag) : List D → List V → Bool
  | [], [] => true
  | d :: ds, v :: vs => constB K d v && constsB K ds vs
  | _, _ => false
end
mutual
theorem constB_ok {K : PySem.W.Frag} {G : Sg} (hG : G.K = K) {il : Lay} {H : Hp} : ∀ (d : D) (v : V), constB K d v = true → Rep G il H d v
  | .non, v, h => by simp only [constB, decide_eq_true_eq] at h; subst h; exact .non
  | .bl b, v, h => by simp only [constB, decide_eq_true_eq] at h; subst h; exact .bl b
  | .int b, v, h => by simp only [constB, decide_eq_true_eq] at h; subst h; exact .int b
  | .str b, v, h => by simp only [constB, decide_eq_true_eq] at h; subst h; exact .str b
  | .tup ds, v, h => by
    simp only [constB] at h
    split at h
    case h_2 => cases h
    rename_i a
    split at h
    case h_2 => cases h
    rename_i o lo
    split at h
    case h_2 => cases h
    rename_i its m e1 e2
    simp only [Bool.and_eq_true, decide_eq_true_eq] at h
    obtain ⟨⟨h1, h2⟩, h3⟩ := h
    split at h3
    case h_2 => cases h3
    rename_i vs ev
    refine .tup (.inr ⟨o, its, m, by rw [hG]; exact lo, e1, e2, h1, allV_rel ev⟩) h2 (constsB_ok hG ds vs h3)
  | .lst _, _, h => by simp [constB] at h
  | .frz _, _, h => by simp [constB] at h
  | .ins _ _, _, h => by simp [constB] at h
  | .exc _ _, _, h => by simp [constB] at h
  | .loc _, _, h => by simp [constB] at h
theorem constsB_ok {K : PySem.W.Frag} {G : Sg} (hG : G.K = K) {il : Lay} {H : Hp} : ∀ (ds : List D) (vs : List V), constsB K ds vs = true → Reps G il H ds vs
  | [], [], _ => .nil
  | [], _ :: _, h => by simp [constsB] at h
  | _ :: _, [], h => by simp [constsB] at h
  | d :: ds, v :: vs, h => by
    simp only [constsB, Bool.and_eq_true] at h
    exact .cons (constB_ok hG d v h.1) (constsB_ok hG ds vs h.2)
end
/-- what the head tells of a class of exceptions that `_law_try` meets -/
def trF (L : LI) (K : PySem.W.Frag) (c : Nat) : Bool := xfB K (clsAd L K c) && (["word", "number", "at", "name", "most", "reason"] : List Str).all (fun n => decide (PySem.W.findIn K (.ref (clsAd L K c)) n = some none)) &&
  decide (PySem.W.exmOne K (.ref (clsAd L K c)) (.ref (He.ga K "GrainError")) = some true)
def tryF (L : LI) (K : PySem.W.Frag) : Bool := !L.tryb || ((He.Fa.glo "GrainError").ok K && L.trs.all (fun p => p.2.all (trF L K)))
/-- no two names for one table -/
def tabsU (L : LI) (K : PySem.W.Frag) : Bool := (L.tabs K).all fun p => (L.tabs K).all fun q => !(p.1 == q.1) || decide (p.2 = q.2)
def LI.facts (L : LI) (K : PySem.W.Frag) : Bool := tryF L K && tabsU L K && L.clss.all (clsF L K) && L.tbl.all (defF K) && L.tbl.all (fun x => constsB K x.fd.pdf (x.da.dvs K)) && bltNames.all (fun x => (He.Fa.free x).ok K) &&
  (L.clss.isEmpty || (He.eqO (PySem.W.specialIn K (.builtin "object.__class__") "__get__") (some (some (.builtin "getset_descriptor.__get__"))) && decide (PySem.W.takesIn K (.builtin "object.__class__") = some true))) && L.clss.all (eqF K) && L.xcs.all (xcF L K)
def obsL (L : LI) (K : PySem.W.Frag) : He.AlD := (L.facts K && L.tbl.all (fun x => x.da.ok K), L.tbl.map fun x => He5.fnA K (x.w.addr K))
def valL (L : LI) : He.AlD := (true, L.tbl.map fun x => x.da.val)
structure SaysL (L : LI) (h : Heap) (K : PySem.W.Frag) : Prop where
  o : obsL L K = valL L
  hd : ∀ x ∈ L.tbl, x.lam = true → PySem.W.codeHdIn K (x.cT K).1 (x.cT K).2 = true
  out : ∀ x ∈ L.tbl, x.lam = true → K.lookup (x.cT K).2 = none
  empty : ∀ x ∈ L.tbl, x.lam = true → h.get? (x.cT K).2 = some { cls := .none, data := .fields #[] }
def tabsL (g : Addr → Option Obj) (L : LI) (K : PySem.W.Frag) : Bool := L.tbl.all fun x => !x.lam || (PySem.W.codeHdIn K (x.cT K).1 (x.cT K).2 && (match g (x.cT K).2 with
  | some o => He.emptyTab o
  | none => false))
def obsLK (L : LI) (g : Addr → Option Obj) (K : PySem.W.Frag) : He.AlD := ((obsL L K).1 && tabsL g L K, (obsL L K).2)
def obsLG (n : Nat) (L : LI) (g : Addr → Option Obj) : He.AlD := obsLK L g (He.frT g (He5.asA g n))
theorem saysL_of {n : Nat} {L : LI} {h : Heap} (e : obsLG n L h.get? = valL L) : SaysL L h (He.frT h.get? (He5.asA h.get? n)) := by
  have e1 : ((obsL L (He.frT h.get? (He5.asA h.get? n))).1 && tabsL h.get? L (He.frT h.get? (He5.asA h.get? n))) = true := (congrArg (fun z : He.AlD => z.1) e : (obsLG n L h.get?).1 = (valL L).1)
  have e2 : (obsL L (He.frT h.get? (He5.asA h.get? n))).2 = (valL L).2 := (congrArg (fun z : He.AlD => z.2) e : (obsLG n L h.get?).2 = (valL L).2)
  rw [Bool.and_eq_true] at e1
  have key : ∀ x ∈ L.tbl, x.lam = true → PySem.W.codeHdIn (He.frT h.get? (He5.asA h.get? n)) (x.cT (He.frT h.get? (He5.asA h.get? n))).1 (x.cT (He.frT h.get? (He5.asA h.get? n))).2 = true ∧ ∃ o, h.get? (x.cT (He.frT h.get? (He5.asA h.get? n))).2 = some o ∧ He.emptyTab o = true := fun x hx hl => by
    have q := List.all_eq_true.mp e1.2 x hx
    rw [hl] at q
    simp only [Bool.not_true, Bool.false_or, Bool.and_eq_true] at q
    refine ⟨q.1, ?_⟩
    have q2 := q.2
    split at q2
    · rename_i o ho; exact ⟨o, ho, q2⟩
    · cases q2
  refine ⟨Prod.ext e1.1 e2, fun x hx hl => (key x hx hl).1, fun x hx hl => ?_, fun x hx hl => ?_⟩
  · obtain ⟨_, o, q, z⟩ := key x hx hl
    exact He.frT_none q z
  · obtain ⟨_, o, q, z⟩ := key x hx hl
    rw [q, He.emptyTab_eq z]
def hookL (n : Nat) (L : LI) : PySem.W.Hook where
  α := He.AlD
  obs := fun s => obsLG n L s.heap.get?
  val := fun _ => valL L
  says := fun _ h => ∃ K : PySem.W.Frag, K.In h ∧ SaysL L h K
  of := fun _ _ e => ⟨_, He.frT_in, saysL_of e⟩
  keeps := fun _ _ _ ⟨K, hK, c⟩ k => ⟨K, PySem.W.Frag.In.keeps hK k, ⟨c.o, c.hd, c.out, fun x hx hl => k _ _ (c.empty x hx hl)⟩⟩
theorem obsLG_eq {n : Nat} {L : LI} {g : Addr → Option Obj} {s : Shared} (h : ∀ a, g a = s.heap.get? a) : obsLG n L g = (hookL n L).obs s := by
  have e : g = s.heap.get? := funext h
  rw [e] <;> rfl
theorem SaysL.facts {L : LI} {h : Heap} {K : PySem.W.Frag} (c : SaysL L h K) : L.facts K = true := (He.ba (show (L.facts K && L.tbl.all (fun x => x.da.ok K)) = true from congrArg (fun z : He.AlD => z.1) c.o)).1
theorem SaysL.fd {L : LI} {h : Heap} {K : PySem.W.Frag} (c : SaysL L h K) {x : DefX} (m : x ∈ L.tbl) : ∃ fd, FunD K x.d.name x.d.qual x.d.params x.d.body x.d.scope (x.da.dvs K) (x.da.kws K) (x.w.addr K) fd := by
  have c2 := (He.ba (show (L.facts K && L.tbl.all (fun x => x.da.ok K)) = true from congrArg (fun z : He.AlD => z.1) c.o)).2
  have e : (L.tbl.map fun x => He5.fnA K (x.w.addr K)) = L.tbl.map fun x => x.da.val := congrArg (fun z : He.AlD => z.2) c.o
  obtain ⟨i, hi, ei⟩ := List.getElem_of_mem m
  have e2 : (L.tbl.map fun x => He5.fnA K (x.w.addr K))[i]? = (L.tbl.map fun x => x.da.val)[i]? := by rw [e]
  rw [List.getElem?_map, List.getElem?_map, List.getElem?_eq_getElem hi, ei] at e2
  exact He5.DefA.funD (d := x.da) (Option.some.inj e2) (List.all_eq_true.mp c2 x m)
end GY

namespace GY
open PySem PySem.Spec PyProof.Rows L2
structure TblOk (L : LI) (K : PySem.W.Frag) (mg : Str → Option Value) : Prop where
  li : chkLI L = true
  f : L.facts K = true
  fd : ∀ x ∈ L.tbl, ∃ fd, FunD K x.d.name x.d.qual x.d.params x.d.body x.d.scope (x.da.dvs K) (x.da.kws K) (x.w.addr K) fd
  glo : ∀ n, (He.Fa.glo n).ok K = true → mg n = some (.ref (He.ga K n))
  free : ∀ n, (He.Fa.free n).ok K = true → mg n = none
theorem tbl_ok {L : LI} {K : PySem.W.Frag} {h : Heap} {mg : Str → Option Value} (X : K.In h) (G : h.Ns mainGlobals mg) (c : SaysL L h K) (li : chkLI L = true) : TblOk L K mg :=
  ⟨li, c.facts, fun x m => c.fd m, fun n q => He.glo_ok X G q, fun n q => He.free_ok X G q⟩
section
variable {L : LI} {K : PySem.W.Frag} {mg : Str → Option Value}
theorem find_ps {g : Nat} {ps : List Str} : ∀ {l : List DefX}, (l.map fun y => (y.gid, y.ps)).lookup g = some ps → ∃ x, l.find? (fun y => y.gid == g) = some x ∧ ps = x.ps
  | [], h => by cases h
  | y :: l, h => by
    rw [List.map_cons, List.lookup_cons] at h
    by_cases e : g = y.gid
    · subst e
      simp only [beq_self_eq_true] at h
      cases h
      exact ⟨y, by simp, rfl⟩
    · have b1 : (g == y.gid) = false := by simpa using e
      have b2 : (y.gid == g) = false := by simpa using fun z => e z.symm
      rw [b1] at h
      obtain ⟨x, h1, h2⟩ := find_ps h
      exact ⟨x, by rw [List.find?_cons, b2]; exact h1, h2⟩
theorem find_mem {g : Nat} {l : List DefX} {x : DefX} (h : l.find? (fun y => y.gid == g) = some x) : x ∈ l ∧ x.gid = g := ⟨List.mem_of_find?_eq_some h, by simpa using List.find?_some h⟩
theorem lookup_mem {β : Type} {x : Str} {c : β} : ∀ {l : List (Str × β)}, l.lookup x = some c → (x, c) ∈ l
  | [], h => by cases h
  | p :: l, h => by
    rw [List.lookup_cons] at h
    by_cases e : x = p.1
    · have b : (x == p.1) = true := by simpa using e
      rw [b] at h
      cases h
      rw [e]
      exact List.mem_cons_self ..
    · have b : (x == p.1) = false := by simpa using e
      rw [b] at h
      exact List.mem_cons_of_mem _ (lookup_mem h)
theorem fldOf_some {names : List Str} {i : Nat} {n : Str} (h : names[i]? = some n) : fldOf names i = n := by unfold fldOf; rw [h]
structure LiOk (L : LI) : Prop where
  gid : ∀ x ∈ L.tbl, chkGid L x = true
  nd : L.names.Nodup
  low : ∀ n ∈ L.names, ∀ k ∈ n.cps.toList, k < 3000000
  sp : L.names.take spNames.length = spNames
  cls : ∀ p ∈ L.clss, (p.1 == ("__debug__" : Str)) = false ∧ L.clss.find? (fun q => q.2 == p.2) = some p
  mets : ∀ i ∈ L.mets, i < 200
  prps : ∀ i ∈ L.prps, i < 200
  ndg : (L.tbl.map DefX.gid).Nodup
  xcs : ∀ p ∈ L.xcs, chkXc L p = true
  tr : chkTry L = true
theorem li_ok (h : chkLI L = true) : LiOk L := by
  simp only [chkLI, Bool.and_eq_true, List.all_eq_true, decide_eq_true_eq, Bool.not_eq_true'] at h
  obtain ⟨⟨⟨⟨⟨⟨⟨⟨⟨h0, h1⟩, h2⟩, h3⟩, h4⟩, h5⟩, h6⟩, h7⟩, h8⟩, h9⟩ := h
  exact ⟨h1, nodupB_ok h2, h3, h4, h5, h6, h7, h8, h9, h0⟩
theorem fldOf_inj (o : LiOk L) {i j : Nat} (h : fldOf L.names i = fldOf L.names j) : i = j := by
  unfold fldOf at h
  cases ei : L.names[i]? with
  | none =>
    cases ej : L.names[j]? with
    | none =>
      rw [ei, ej] at h
      simp only [Str.mk.injEq] at h
      have := congrArg Array.toList h
      simpa using this
    | some n =>
      rw [ei, ej] at h
      dsimp only at h
      have := o.low n (List.mem_of_getElem? ej) (3000000 + i) (by rw [← h]; simp)
      omega
  | some m =>
    cases ej : L.names[j]? with
    | none =>
      rw [ei, ej] at h
      dsimp only at h
      have := o.low m (List.mem_of_getElem? ei) (3000000 + j) (by rw [h]; simp)
      omega
    | some n =>
      rw [ei, ej] at h
      dsimp only at h
      subst h
      obtain ⟨l1, e1⟩ := List.getElem?_eq_some_iff.mp ei
      obtain ⟨l2, e2⟩ := List.getElem?_eq_some_iff.mp ej
      exact (List.getElem_inj o.nd).mp (e1.trans e2.symm)
theorem sp_name (o : LiOk L) {i : Nat} {n : Str} (h : spNames[i]? = some n) : L.names[i]? = some n := by
  rw [← o.sp, List.getElem?_take] at h
  split at h
  · exact h
  · cases h
theorem okc {cc : Nat} (o : LiOk L) (h : (L.sg K).ok cc = true) : ∃ p ∈ L.clss, p.2 = cc ∧ (L.sg K).cls cc = He.ga K p.1 := by
  have h : L.clss.any (fun p => p.2 == cc) = true := h
  rw [List.any_eq_true] at h
  obtain ⟨p, m, e⟩ := h
  have e : p.2 = cc := by simpa using e
  refine ⟨p, m, e, ?_⟩
  show clsAd L K cc = _
  unfold clsAd
  rw [← e, (o.cls p m).2]
theorem cls_at {C : Str} {c : Nat} (o : LiOk L) (h : L.clss.lookup C = some c) : (C, c) ∈ L.clss ∧ (L.sg K).ok c = true ∧ (L.sg K).cls c = He.ga K C := by
  have m := lookup_mem h
  refine ⟨m, List.any_eq_true.mpr ⟨_, m, by simp⟩, ?_⟩
  show clsAd L K c = _
  unfold clsAd
  rw [(o.cls _ m).2]
theorem mid_inj {c d i j : Nat} (hi : i < 200) (hj : j < 200) (h : mid c i = mid d j) : c = d ∧ i = j := by
  unfold mid at h
  omega
/-- where the def of a method stands -/
theorem met_at {cc m : Nat} {x : DefX} (o : LiOk L) (hx : L.tbl.find? (fun y => y.gid == mid cc m) = some x) (hm : m < 200) (hp : L.prps.contains m = false) :
    ∃ C n, x.w = .met C n ∧ (L.sg K).ok cc = true ∧ (L.sg K).cls cc = He.ga K C ∧ (L.sg K).fld m = n := by
  obtain ⟨hm1, hm2⟩ := find_mem hx
  have g := o.gid x hm1
  unfold chkGid at g
  cases hw : x.w with
  | glo n =>
    rw [hw] at g
    simp only [Bool.and_eq_true, decide_eq_true_eq] at g
    have := g.1
    unfold mid at hm2
    omega
  | met C n =>
    rw [hw] at g
    dsimp only at g
    split at g
    case h_2 => cases g
    rename_i c hc
    rw [List.any_eq_true] at g
    obtain ⟨i, hi, gi⟩ := g
    simp only [Bool.and_eq_true, decide_eq_true_eq] at gi
    obtain ⟨⟨⟨g1, g2⟩, g3⟩, g4⟩ := gi
    obtain ⟨rfl, rfl⟩ := mid_inj (List.mem_range.mp hi) hm (g1.symm.trans hm2)
    obtain ⟨a1, a2, a3⟩ := cls_at (K := K) o hc
    exact ⟨C, n, rfl, a2, a3, fldOf_some g2⟩
  | prp C n =>
    rw [hw] at g
    dsimp only at g
    split at g
    case h_2 => cases g
    rename_i c hc
    rw [List.any_eq_true] at g
    obtain ⟨i, hi, gi⟩ := g
    simp only [Bool.and_eq_true, decide_eq_true_eq] at gi
    obtain ⟨⟨⟨⟨g1, g2⟩, g3⟩, g4⟩, g5⟩ := gi
    obtain ⟨rfl, rfl⟩ := mid_inj (List.mem_range.mp hi) hm (g1.symm.trans hm2)
    rw [g3] at hp
    cases hp
  | exi C =>
    rw [hw] at g
    simp only [decide_eq_true_eq] at g
    unfold mid at hm2
    omega
theorem prp_at {cc m : Nat} {x : DefX} (o : LiOk L) (hx : L.tbl.find? (fun y => y.gid == mid cc m) = some x) (hm : m < 200) (hp : L.prps.contains m = true) :
    ∃ C n, x.w = .prp C n ∧ (L.sg K).cls cc = He.ga K C ∧ (L.sg K).fld m = n := by
  obtain ⟨hm1, hm2⟩ := find_mem hx
  have g := o.gid x hm1
  unfold chkGid at g
  cases hw : x.w with
  | glo n =>
    rw [hw] at g
    simp only [Bool.and_eq_true, decide_eq_true_eq] at g
    have := g.1
    unfold mid at hm2
    omega
  | met C n =>
    rw [hw] at g
    dsimp only at g
    split at g
    case h_2 => cases g
    rename_i c hc
    rw [List.any_eq_true] at g
    obtain ⟨i, hi, gi⟩ := g
    simp only [Bool.and_eq_true, decide_eq_true_eq, Bool.not_eq_true'] at gi
    obtain ⟨⟨⟨g1, g2⟩, g3⟩, g4⟩ := gi
    obtain ⟨rfl, rfl⟩ := mid_inj (List.mem_range.mp hi) hm (g1.symm.trans hm2)
    rw [g4] at hp
    cases hp
  | prp C n =>
    rw [hw] at g
    dsimp only at g
    split at g
    case h_2 => cases g
    rename_i c hc
    rw [List.any_eq_true] at g
    obtain ⟨i, hi, gi⟩ := g
    simp only [Bool.and_eq_true, decide_eq_true_eq] at gi
    obtain ⟨⟨⟨⟨g1, g2⟩, g3⟩, g4⟩, g5⟩ := gi
    obtain ⟨rfl, rfl⟩ := mid_inj (List.mem_range.mp hi) hm (g1.symm.trans hm2)
    obtain ⟨a1, a2, a3⟩ := cls_at (K := K) o hc
    exact ⟨C, n, rfl, a3, fldOf_some g2⟩
  | exi C =>
    rw [hw] at g
    simp only [decide_eq_true_eq] at g
    unfold mid at hm2
    omega
theorem xshape_ok {Pr : Program} {w : World} {base : Heap} {x : DefX} {wd : Str} {f : Option Str} (h : xshape x wd f = true) {addr : Addr} {fd : FuncData} (F : FunD K x.d.name x.d.qual x.d.params x.d.body x.d.scope (x.da.dvs K) (x.da.kws K) addr fd) :
    ∃ ps, FnOk Pr w K mg base (L2.CX Pr w) 1 addr fd ps (spX K wd f) ∧ (f = none → ps.length = 1) ∧ Binds K fd ps [] := by
  obtain ⟨wh, gid, ⟨name, qual, params, body, scope, dfl, kwd⟩, ps1, ps2, va, N, fdx⟩ := x
  unfold xshape at h
  simp only [Bool.and_eq_true, decide_eq_true_eq, List.isEmpty_iff] at h
  obtain ⟨⟨⟨rfl, rfl⟩, rfl⟩, h⟩ := h
  have F : FunD K "__init__" qual params body scope [] [] addr fd := F
  obtain ⟨oc, od, dV, kV, doc, pm, an, cdv, ct, osl, e1, lk, hcd, hd, _⟩ := F.ex
  have hd : dV = .none := by
    rcases hd with ⟨_, e⟩ | ⟨n, _⟩
    · exact e
    · exact absurd rfl n
  subst hd
  split at h
  · simp only [Bool.and_eq_true, decide_eq_true_eq, Bool.not_eq_true'] at h
    obtain ⟨⟨⟨⟨⟨h1, rfl⟩, rfl⟩, h4⟩, h5⟩, h6⟩ := h
    subst h1
    refine ⟨_, init0_ok F (scB_ok h4) h5 h6, fun _ => rfl, ?_⟩
    rw [e1]
    refine Binds.all fun us hl => ?_
    match us, hl with
    | [u], _ => exact bind1 u
  · simp only [Bool.and_eq_true, decide_eq_true_eq, Bool.not_eq_true'] at h
    obtain ⟨⟨⟨⟨⟨⟨⟨⟨⟨⟨⟨h1, rfl⟩, rfl⟩, rfl⟩, rfl⟩, h2⟩, hne⟩, h4⟩, h5⟩, h6⟩, h7⟩, h8⟩ := h
    subst h1 h2
    refine ⟨_, init1_ok F (scB_ok h4) h5 h6 h7 h8, fun z => (nomatch z), ?_⟩
    rw [e1]
    refine Binds.all fun us hl => ?_
    match us, hl with
    | [u, v], _ => exact bind2 hne u v
  · cases h
theorem nodup_gid : ∀ {l : List DefX} {x y : DefX}, (l.map DefX.gid).Nodup → x ∈ l → y ∈ l → x.gid = y.gid → x = y
  | [], _, _, _, m, _, _ => nomatch m
  | z :: l, x, y, nd, mx, my, e => by
    rw [List.map_cons, List.nodup_cons] at nd
    rcases List.mem_cons.mp mx with ex | mx
    · rcases List.mem_cons.mp my with ey | my
      · rw [ex, ey]
      · exact absurd (by rw [← ex, e]; exact List.mem_map_of_mem (f := DefX.gid) my) nd.1
    · rcases List.mem_cons.mp my with ey | my
      · exact absurd (by rw [← ey, ← e]; exact List.mem_map_of_mem (f := DefX.gid) mx) nd.1
      · exact nodup_gid nd.2 mx my e
structure FOk (L : LI) (K : PySem.W.Frag) : Prop where
  cls : ∀ p ∈ L.clss, clsF L K p = true
  defs : ∀ x ∈ L.tbl, defF K x = true
  dfl : ∀ x ∈ L.tbl, constsB K x.fd.pdf (x.da.dvs K) = true
  blt : ∀ x ∈ bltNames, (He.Fa.free x).ok K = true
  cd : L.clss = [] ∨ (PySem.W.specialIn K (.builtin "object.__class__") "__get__" = some (some (.builtin "getset_descriptor.__get__")) ∧ PySem.W.takesIn K (.builtin "object.__class__") = some true)
  eqs : ∀ p ∈ L.clss, eqF K p = true
  xcs : ∀ p ∈ L.xcs, xcF L K p = true
  tr : tryF L K = true
  tu : tabsU L K = true
theorem f_ok (h : L.facts K = true) : FOk L K := by
  simp only [LI.facts, Bool.and_eq_true, List.all_eq_true, Bool.or_eq_true, decide_eq_true_eq] at h
  obtain ⟨⟨⟨⟨⟨⟨⟨⟨t1, t2⟩, h1⟩, h2⟩, h5⟩, h3⟩, h4⟩, h6⟩, h7⟩ := h
  refine ⟨h1, h2, h5, h3, h4.elim (fun z => .inl (by simpa using z)) fun z => .inr ⟨He.eqO_ok z.1, z.2⟩, h6, h7, t1, t2⟩
theorem tblP_none {i n : Nat} (h : L.tbl.find? (fun y => y.gid == i) = none) (us : List D) (kw : List (Nat × D)) (hh : Hs) : callN (tblP L) n i us kw hh = .stuck := by
  cases n with
  | zero => rw [callN_zero]
  | succ n =>
    rw [callN_succ]
    have : tblP L i = none := by unfold tblP; rw [h]; rfl
    rw [this]
end
section
variable {Pr : Program} {w : World} {K : PySem.W.Frag} {mg : Str → Option Value} {base : Heap} {L : LI} {fuel : Nat}
theorem tryc_ok (T : TblOk L K mg) (hb : L.tryb = true) : TryC Pr w K mg base (L.sg K) ("_law_try" : Str) L.trs := by
  have o := li_ok T.li
  have fo := f_ok T.f
  have t := o.tr
  have tf := fo.tr
  unfold chkTry at t
  unfold tryF at tf
  rw [hb] at t tf
  simp only [Bool.not_true, Bool.false_or, Bool.and_eq_true, List.any_eq_true, List.all_eq_true] at t tf
  obtain ⟨⟨⟨x, mx, hx⟩, y, my, hy⟩, ht⟩ := t
  obtain ⟨tg, tc⟩ := tf
  obtain ⟨fdx, Fx⟩ := T.fd x mx
  obtain ⟨fdy, Fy⟩ := T.fd y my
  have dx := fo.defs x mx
  have dy := fo.defs y my
  obtain ⟨wx, gx, ⟨nx, qx, px, bx, sx, dfx, kwx⟩, _, _, _, Nx, _, _⟩ := x
  obtain ⟨wy, gy, ⟨ny, qy, py, by_, sy, dfy, kwy⟩, _, _, _, Ny, _, _⟩ := y
  unfold tryShape at hx
  unfold foShape at hy
  simp only [Bool.and_eq_true, decide_eq_true_eq, List.isEmpty_iff] at hx hy
  obtain ⟨⟨⟨⟨⟨hx1, rfl⟩, rfl⟩, rfl⟩, rfl⟩, hx⟩ := hx
  obtain ⟨⟨⟨⟨hy1, rfl⟩, rfl⟩, rfl⟩, hy⟩ := hy
  cases wx <;> simp only [Wh.nm, reduceCtorEq, Option.some.injEq] at hx1
  cases wy <;> simp only [Wh.nm, reduceCtorEq, Option.some.injEq] at hy1
  subst hx1 hy1
  have mgx := T.glo _ (show (He.Fa.glo "_law_try").ok K = true from dx)
  have mgy := T.glo _ (show (He.Fa.glo "_law_field_of").ok K = true from dy)
  have kx := Fx.kp
  have ky := Fy.kp
  have Fx : FunD K "_law_try" "_law_try" px bx sx [] [] (He.ga K "_law_try") fdx := Fx
  have Fy : FunD K "_law_field_of" qy py by_ sy [] [] (He.ga K "_law_field_of") fdy := Fy
  obtain ⟨oc, od, dV, kV, doc, pm, an, cdv, ct, osl, e1, lk, hcd, hd, _⟩ := Fx.ex
  obtain ⟨oc2, od2, dV2, kV2, doc2, pm2, an2, cdv2, ct2, osl2, e2, lk2, hcd2, hd2, _⟩ := Fy.ex
  have hd : dV = .none := by
    rcases hd with ⟨_, e⟩ | ⟨n, _⟩
    · exact e
    · exact absurd rfl n
  have hd2 : dV2 = .none := by
    rcases hd2 with ⟨_, e⟩ | ⟨n, _⟩
    · exact e
    · exact absurd rfl n
  subst hd hd2 e1 e2
  split at hx
  case h_2 => cases hx
  split at hy
  case h_2 => cases hy
  simp only [Bool.and_eq_true, decide_eq_true_eq, Bool.not_eq_true', dbgB, Bool.or_eq_false_iff] at hx hy
  obtain ⟨⟨⟨⟨⟨⟨⟨⟨⟨⟨⟨⟨⟨⟨rfl, rfl⟩, rfl⟩, rfl⟩, rfl⟩, rfl⟩, rfl⟩, rfl⟩, rfl⟩, x1⟩, x2⟩, x3⟩, x4⟩, x5⟩, x6⟩ := hx
  obtain ⟨⟨y1, y2⟩, y3⟩ := hy
  have Sx := scB_ok x1
  have Sy := scB_ok y1
  have vis : ∀ {n : Str} {N : List Str} {sc : Scope}, FnScope N [n] sc → Vis sc n := fun {n N sc} S => (S.par n (List.mem_singleton_self _)).elim .inl fun z => .inr (.inl z)
  refine ⟨by decide +kernel, _, He.ga K "GrainError", _, _, _, _, _, _, _, _, _, _, _, _, _, _, _, mgx, kx, lk, hcd, Binds.all fun us hl => ?_, Sx, rfl, vis Sx, x6.1, x6.2, fun p hp => ?_, fun X kk q e1 e2 e3 e4 e5 hr => ?_⟩
  · match us, hl with
    | [u], _ => exact bind1 u
  · have t1 := ht p hp
    have t2 := tc p hp
    simp only [trsOk, Bool.and_eq_true, List.all_eq_true, decide_eq_true_eq] at t1
    refine ⟨fun i hi => fldOf_some (t1.1 i (List.mem_range.mpr hi)), fun c hc => ?_⟩
    have t3 := t2 c hc
    have t4 := t1.2 c hc
    simp only [trF, Bool.and_eq_true, List.all_eq_true, decide_eq_true_eq] at t3
    obtain ⟨⟨a1, a2⟩, a3⟩ := t3
    exact ⟨⟨xfB_ok a1, a2⟩, a3⟩
  · subst e1 e2 e3 e4 e5
    exact try_gives (ie := 1) hr Sx.nd rfl x2 x3 (T.glo _ tg) (by decide +kernel) x5.1 x5.2 (fun _ => rfl) lk2 hcd2 Sy rfl (vis Sy) y3.1 y3.2 (Binds.all fun us hl => (match us, hl with
      | [u], _ => bind1 u)) ky x4 mgy (by decide +kernel) y2
theorem gdc (T : TblOk L K mg) (n : Nat) (ih : ∀ (i : Nat) (x : DefX), L.tbl.find? (fun y => y.gid == i) = some x → FnI Pr w K mg base (L.sg K) n (x.w.addr K) x.ps (callN (tblP L) n i)) (x : DefX) :
    GdC Pr w K mg base (ctOf L x) (L.sg K) (tblP L) n := by
  have o := li_ok T.li
  have fo := f_ok T.f
  have clsD : ∀ cc, (L.sg K).ok cc = true → ∃ p ∈ L.clss, p.2 = cc ∧ (L.sg K).cls cc = He.ga K p.1 ∧ clsF L K p = true := fun cc h => by
    obtain ⟨p, m, e1, e2⟩ := okc (K := K) o h
    exact ⟨p, m, e1, e2, fo.cls p m⟩
  have meth : ∀ {cc m : Nat} {y : DefX}, L.tbl.find? (fun z => z.gid == mid cc m) = some y → m < 200 → L.prps.contains m = false →
      Meth K ((L.sg K).cls cc) ((L.sg K).fld m) (y.w.addr K) ∧ PySem.W.fnIn K (y.w.addr K) = true ∧ ((L.sg K).fld m = ("__init__" : Str) → Mk K ((L.sg K).cls cc) (y.w.addr K)) := fun {cc m y} hy hm hp => by
    obtain ⟨C, nn, ew, _, ec, en⟩ := met_at (K := K) o hy hm hp
    have d := fo.defs y (find_mem hy).1
    unfold defF at d
    rw [ew] at d
    simp only [Bool.and_eq_true, Bool.or_eq_true, Bool.not_eq_true'] at d
    obtain ⟨⟨d1, d2⟩, d3⟩ := d
    rw [ec, en, ew]
    refine ⟨He.meth_ok d1, d2, fun e => ?_⟩
    rcases d3 with d3 | d3
    · rw [e] at d3; exact absurd d3 (by decide +kernel)
    · have := He.mkr_ok d3
      show Mk K (He.ga K C) (He.ma K (He.ga K C) nn)
      rw [e]
      exact this
  refine ⟨fun i nn h => fldOf_some h, fun i j h => fldOf_inj o h, fun cc h => ?_, fun cc f h hf => ?_, fun cc m ps hm hps => ?_, fun f cc hf hc => ?_, fun cc hc i nn hi h0 => ?_, fun cc h => ?_, fun y cc hy => ?_, fun y cc cs hy hs => ?_, fun cc h H a dx fs ea => ?_, fun cc h => ?_, (fun y hy => by
    have hy : y ∈ (if L.tryb = true then [("_law_try" : Str)] else []) := hy
    by_cases hb : L.tryb = true
    · rw [if_pos hb] at hy
      rw [List.mem_singleton.mp hy]
      exact tryc_ok T hb
    · rw [if_neg hb] at hy
      cases hy), fun y cc wd f hy => ?_⟩
  · obtain ⟨p, m, e1, e2, f⟩ := clsD cc h
    simp only [clsF, Bool.and_eq_true] at f
    rw [e2]
    exact ⟨He.cls_ok f.1.1.1.1.1.1.1.2, f.1.1.1.1.1.1.2⟩
  · obtain ⟨p, m, e1, e2, fc⟩ := clsD cc h
    simp only [clsF, Bool.and_eq_true, List.all_eq_true] at fc
    have hf : f ∈ L.flds := by simpa [ctOf] using hf
    have q := fc.1.1.2 f hf
    split at q
    · rename_i nn e
      rw [e2]
      show NoAttr K (He.ga K p.1) (fldOf L.names f)
      rw [fldOf_some e]
      exact He.noat_ok q
    · cases q
  · have hm : m ∈ L.mets := by simpa [ctOf] using hm
    obtain ⟨y, hy, rfl⟩ := find_ps hps
    have hp : L.prps.contains m = false := by
      cases e : L.prps.contains m with
      | false => rfl
      | true =>
        obtain ⟨C, nn, ew, _, _⟩ := prp_at (K := K) o hy (o.mets m hm) e
        have g := o.gid y (find_mem hy).1
        unfold chkGid at g
        rw [ew] at g
        dsimp only at g
        split at g
        case h_2 => cases g
        rename_i c hc
        rw [List.any_eq_true] at g
        obtain ⟨i, hi, gi⟩ := g
        simp only [Bool.and_eq_true, decide_eq_true_eq, Bool.not_eq_true'] at gi
        obtain ⟨⟨⟨⟨g1, g2⟩, g3⟩, g4⟩, g5⟩ := gi
        obtain ⟨_, rfl⟩ := mid_inj (List.mem_range.mp hi) (o.mets m hm) (g1.symm.trans (find_mem hy).2)
        have : L.mets.contains i = true := by simpa using hm
        rw [g4] at this
        cases this
    exact ⟨_, (meth hy (o.mets m hm) hp).1, ih _ _ hy⟩
  · have hf : L.prps.contains f = true := hf
    cases hy : L.tbl.find? (fun z => z.gid == mid cc f) with
    | none => exact .inl fun us kw h => tblP_none hy us kw h
    | some y =>
      obtain ⟨C, nn, ew, ec, en⟩ := prp_at (K := K) o hy (o.prps f (by simpa using hf)) hf
      have d := fo.defs y (find_mem hy).1
      unfold defF at d
      rw [ew] at d
      have FI := ih _ _ hy
      rw [ew] at FI
      refine .inr ⟨He.ma K (He.ga K C) nn, _, _, ?_, FI⟩
      rw [ec, en]
      exact propB_ok d
  · cases hy : L.tbl.find? (fun z => z.gid == mid cc i) with
    | none => exact .inl fun us kw h => tblP_none hy us kw h
    | some y =>
      have hi2 : i < 12 := by
        have := (List.getElem?_eq_some_iff.mp hi).1
        exact this
      have hp : L.prps.contains i = false := by
        cases e : L.prps.contains i with
        | false => rfl
        | true =>
          obtain ⟨C, nn2, ew, _, _⟩ := prp_at (K := K) o hy (by omega) e
          have g := o.gid y (find_mem hy).1
          unfold chkGid at g
          rw [ew] at g
          dsimp only at g
          split at g
          case h_2 => cases g
          rename_i c hc
          rw [List.any_eq_true] at g
          obtain ⟨j, hj, gi⟩ := g
          simp only [Bool.and_eq_true, decide_eq_true_eq, Bool.not_eq_true'] at gi
          obtain ⟨⟨⟨⟨g1, g2⟩, g3⟩, g4⟩, g5⟩ := gi
          obtain ⟨_, rfl⟩ := mid_inj (List.mem_range.mp hj) (by omega) (g1.symm.trans (find_mem hy).2)
          have : spNames.length = 12 := rfl
          omega
      obtain ⟨M, hfn, _⟩ := meth hy (by omega) hp
      have en : (L.sg K).fld i = nn := fldOf_some (sp_name o hi)
      rw [en] at M
      exact .inr ⟨_, _, M, hfn, ih _ _ hy⟩
  · obtain ⟨p, m, e1, e2, f⟩ := clsD cc h
    simp only [clsF, Bool.and_eq_true] at f
    rw [e2]
    exact He.eqO_ok f.1.1.1.1.1.2
  · obtain ⟨a1, a2, a3⟩ := cls_at (K := K) o (show L.clss.lookup y = some cc from hy)
    have f := fo.cls _ a1
    simp only [clsF, Bool.and_eq_true] at f
    refine ⟨a2, (o.cls _ a1).1, by rw [a3]; exact T.glo _ f.1.1.1.1.1.1.1.1, fun ps hps => ?_⟩
    obtain ⟨z, hz, rfl⟩ := find_ps hps
    have n0 : (L.sg K).fld 0 = ("__init__" : Str) := fldOf_some (sp_name o rfl)
    have hp : L.prps.contains 0 = false := by
      cases e : L.prps.contains 0 with
      | false => rfl
      | true =>
        obtain ⟨C, nn2, ew, _, _⟩ := prp_at (K := K) o hz (by omega) e
        have g := o.gid z (find_mem hz).1
        unfold chkGid at g
        rw [ew] at g
        dsimp only at g
        split at g
        case h_2 => cases g
        rename_i c hc
        rw [List.any_eq_true] at g
        obtain ⟨j, hj, gi⟩ := g
        simp only [Bool.and_eq_true, decide_eq_true_eq, Bool.not_eq_true'] at gi
        obtain ⟨⟨⟨⟨g1, g2⟩, g3⟩, g4⟩, g5⟩ := gi
        obtain ⟨_, rfl⟩ := mid_inj (List.mem_range.mp hj) (by omega) (g1.symm.trans (find_mem hz).2)
        have : spNames.length = 12 := rfl
        omega
    exact ⟨_, (meth hz (by omega) hp).2.2 n0, ih _ _ hz⟩
  · obtain ⟨a1, a2, a3⟩ := cls_at (K := K) o (show L.clss.lookup y = some cc from hy)
    have f := fo.cls _ a1
    simp only [clsF, Bool.and_eq_true, List.all_eq_true, decide_eq_true_eq] at f
    rw [a3]
    refine ⟨fun d hd => ?_, fun t ht => f.1.2 t ht⟩
    obtain ⟨p, m, e1, e2⟩ := okc (K := K) o hd
    have f2 := f.2
    have hs : L.subs.lookup cc = some cs := hs
    rw [hs] at f2
    dsimp only at f2
    rw [List.all_eq_true] at f2
    have := f2 p m
    rw [decide_eq_true_eq] at this
    rw [e2, ← e1]
    exact this
  · obtain ⟨p, m, e1, e2, f⟩ := clsD cc h
    simp only [clsF, Bool.and_eq_true, decide_eq_true_eq] at f
    rw [e2] at ea ⊢
    rcases fo.cd with z | ⟨z1, z2⟩
    · rw [z] at m; cases m
    · exact .base (.ins ea (He.cls_ok f.1.1.1.1.1.1.1.2) (He.eqO_ok f.1.1.1.1.2) z1 z2 f.1.1.1.2)
  · obtain ⟨p, m, e1, e2, _⟩ := clsD cc h
    have q := fo.eqs p m
    simp only [eqF, Bool.and_eq_true, List.all_eq_true] at q
    rw [e2]
    refine ⟨q.1, fun f hf => ?_⟩
    have q2 := q.2
    rw [hf] at q2
    exact q2
  · have hy : (L.xcs.map fun p => (p.name, p.cid, p.word, p.fld)).lookup y = some (cc, wd, f) := hy
    obtain ⟨p, m, e⟩ := List.mem_map.mp (lookup_mem hy)
    cases e
    have c := o.xcs p m
    have q := fo.xcs p m
    simp only [chkXc, Bool.and_eq_true, Bool.not_eq_true', List.all_eq_true, List.any_eq_true] at c
    obtain ⟨⟨⟨c1, c2⟩, c3⟩, z, mz, hz, hsh⟩ := c
    simp only [xcF, Bool.and_eq_true, beq_iff_eq] at q
    obtain ⟨⟨⟨⟨⟨q1, q2⟩, q3⟩, q4⟩, q5⟩, q6⟩ := q
    have ec : (L.sg K).cls p.cid = He.ga K p.name := by
      show clsAd L K p.cid = _
      unfold clsAd
      have n1 : L.clss.find? (fun q => q.2 == p.cid) = none := List.find?_eq_none.mpr fun q mq => by simp [c2 q mq]
      rw [n1]
      dsimp only
      split at c3
      · rw [decide_eq_true_eq] at c3
        rw [c3]
      · cases c3
    refine ⟨c1, by rw [ec]; exact T.glo _ q1, ?_⟩
    rw [ec]
    have hw : z.w = .exi p.name := by
      split at hz
      · rename_i nn e
        rw [decide_eq_true_eq] at hz
        rw [e, hz]
      · cases hz
    obtain ⟨fdz, Fz⟩ := T.fd z mz
    rw [hw] at Fz
    obtain ⟨ps, F1, hp, hb⟩ := xshape_ok (Pr := Pr) (w := w) (mg := mg) (base := base) hsh Fz
    refine ⟨oexB_ok q2, He.eqO_ok q3, fun g hg => ?_, _, fdz, ps, He.eqO_ok q5, q6, F1, hp, hb⟩
    cases ef : p.fld with
    | none => rw [ef] at hg; cases hg
    | some i =>
      rw [ef] at hg q4
      cases hg
      exact He.eqO_ok q4
theorem tbl_body (T : TblOk L K mg) (hc : chkTbl fuel L = true) (n : Nat) (ih : ∀ (i : Nat) (x : DefX), L.tbl.find? (fun y => y.gid == i) = some x → FnI Pr w K mg base (L.sg K) n (x.w.addr K) x.ps (callN (tblP L) n i)) {x : DefX} (m : x ∈ L.tbl)
    {f : Addr} {cdv : Value} {A : Around} {outer : List Env} {s : Shared} {H : Hp} {E : XK} (hcv : x.lam = true → cdv = .ref (x.cT K).1) (hT : ∀ x ∈ L.tbl, x.lam = true → LamX.TabB base mg (x.cT K).1 (x.cT K).2) (hr : Room (5 * n + 4) (A.deeper (envOfC x.d.qual x.d.scope s.heap.objs.size f cdv))) :
    PSs (cxOf (L2.CX Pr w) Pr w K mg base x.N x.d.qual x.d.scope f cdv A outer s H E) x.d.body (tS (L.sg K) (fun cls d _ H => E cls d H) (exSs (callN (tblP L) n) x.fd.body)) := by
  have c := List.all_eq_true.mp hc x m
  simp only [chkDef, Bool.and_eq_true, decide_eq_true_eq, beq_iff_eq] at c
  obtain ⟨⟨⟨⟨⟨⟨⟨⟨⟨⟨⟨⟨⟨⟨c2, c3⟩, c4⟩, c5⟩, c6⟩, c7⟩, c8⟩, c9⟩, c10⟩, c11⟩, c12⟩, c13⟩, c15⟩, c16⟩, c18⟩ := c
  have S : FnScope x.N (x.ps1 ++ x.ps2 ++ x.va.toList) x.d.scope := scB_ok c2
  have tk : Takes (cxOf (L2.CX Pr w) Pr w K mg base x.N x.d.qual x.d.scope f cdv A outer s H E) (fun cls d _ H => E cls d H) := takes_of rfl rfl rfl rfl
  have hp : PassesOwn (model Pr w) (cxOf (L2.CX Pr w) Pr w K mg base x.N x.d.qual x.d.scope f cdv A outer s H E).A (cxOf (L2.CX Pr w) Pr w K mg base x.N x.d.qual x.d.scope f cdv A outer s H E).env (cxOf (L2.CX Pr w) Pr w K mg base x.N x.d.qual x.d.scope f cdv A outer s H E).xe :=
    passes_of (X := cxOf (L2.CX Pr w) Pr w K mg base x.N x.d.qual x.d.scope f cdv A outer s H E) (K := fun e s'' => L2.CX Pr w outer H s E e s'') (E₁ := fun e' s'' => L2.CX Pr w outer H s E e' s'') rfl
  refine chkSs_ok (fun st ir => chkS_ok fuel _ (ctOf L x) (L.sg K) _ (tblP L) n ?_ tk hp st ir) c18
  have o := li_ok T.li
  have fo := f_ok T.f
  refine ⟨rfl, rfl, S.nd, rfl, hr.mono (by omega), rfl, fun _ _ => rfl, fun y hy => T.free y (fo.blt y hy), fun y g hy => ?_, gdc T n ih x, fun hl => ⟨hr, _, _, hcv hl, hT x m hl, ?_, ?_⟩⟩
  rotate_left
  · exact List.mem_map.mpr ⟨x, List.mem_filter.mpr ⟨m, hl⟩, rfl⟩
  · intro p hp e
    have u := fo.tu
    simp only [tabsU, List.all_eq_true, Bool.or_eq_true, Bool.not_eq_true', beq_eq_false_iff_ne, decide_eq_true_eq] at u
    rcases u p hp ((x.cT K).2, x.lq) (List.mem_map.mpr ⟨x, List.mem_filter.mpr ⟨m, hl⟩, rfl⟩) with z | z
    · exact absurd e z
    · exact z
  obtain ⟨z, mz, ez⟩ := List.mem_filterMap.mp (lookup_mem (show (L.tbl.filterMap gloOf).lookup y = some g from hy))
  unfold gloOf at ez
  split at ez
  case h_2 => cases ez
  rename_i nn hw
  cases ez
  have g := o.gid z mz
  unfold chkGid at g
  rw [hw] at g
  simp only [Bool.and_eq_true, Bool.not_eq_true'] at g
  have d := fo.defs z mz
  unfold defF at d
  rw [hw] at d
  obtain ⟨fdz, Fz⟩ := T.fd z mz
  rw [hw] at Fz
  refine ⟨g.2, _, T.glo _ d, Fz.kp, fun ps hps => ?_⟩
  obtain ⟨u, hu, rfl⟩ := find_ps hps
  have FI := ih _ _ hu
  have e : u = z := nodup_gid o.ndg (find_mem hu).1 mz (find_mem hu).2
  rw [e, hw] at FI
  rw [e]
  exact FI
theorem codeAt_eq {K : PySem.W.Frag} {x : DefX} {oc : Value} {od : Option Addr} {osl : Array (Option Value)} {fd : FuncData} {c : Addr} (lk : K.lookup (x.w.addr K) = some ⟨oc, od, .func fd, osl⟩) (e : fd.code = .ref c) : (x.cT K).1 = c := by
  show codeAt K (x.w.addr K) = c
  unfold codeAt
  rw [lk]
  show (match fd.code with | .ref c => c | _ => 0) = c
  rw [e]
/-- every def keeps its evaluator, at every level -/
theorem tbl_fn (T : TblOk L K mg) (hc : chkTbl fuel L = true) (hT : ∀ x ∈ L.tbl, x.lam = true → LamX.TabB base mg (x.cT K).1 (x.cT K).2) : ∀ (n i : Nat) (x : DefX), L.tbl.find? (fun y => y.gid == i) = some x → FnI Pr w K mg base (L.sg K) n (x.w.addr K) x.ps (callN (tblP L) n i)
  | 0, i, x, hx => ⟨fun A outer s H us kw uv il h usD kwD Q E hr e0 rv w1 r1 rk q => by rw [callN_zero] at q; exact q.elim⟩
  | n + 1, i, x, hx => by
    have ih := tbl_fn T hc hT n
    have m := (find_mem hx).1
    have c := List.all_eq_true.mp hc x m
    simp only [chkDef, Bool.and_eq_true, decide_eq_true_eq, beq_iff_eq] at c
    obtain ⟨⟨⟨⟨⟨⟨⟨⟨⟨⟨⟨⟨⟨⟨c2, c3⟩, c4⟩, c5⟩, c6⟩, c7⟩, c8⟩, c9⟩, c10⟩, c11⟩, c12⟩, c13⟩, c15⟩, c16⟩, c18⟩ := c
    obtain ⟨fd, F⟩ := T.fd x m
    obtain ⟨oc, od, dV, kV, doc, pm, an, cdv, ct, osl, rfl, lk, hcd, hD, hKw⟩ := F.ex
    have hP : tblP L i = some x.fd := by unfold tblP; rw [hx]; rfl
    have ek : x.da.kws K = x.ps2.zip (x.d.kwd.map fun q => q.2.v K) := by
      show (x.d.kwd.map fun q => (q.1, q.2.v K)) = _
      rw [← c15]
      clear hKw
      induction x.d.kwd with
      | nil => rfl
      | cons q qs ih => simp [ih]
    refine fn_run (N := x.N) hP rfl lk hcd (scB_ok c2) ⟨by simpa using c3, c4, c5, by simpa using c6, c7⟩ (nodupB_ok c8) c9 c10 c11 c12 c13 hD (fun il H => constsB_ok rfl _ _ ((f_ok T.f).dfl x m)) (by rw [← ek]; exact hKw) ?_ fun A outer s H E hr => tbl_body T hc n ih m (fun _ => by obtain ⟨c, e⟩ := He.codeIn_ref hcd; rw [e, codeAt_eq lk e]) hT hr
    have := dvsB_ok (G := L.sg K) (K := K) c16
    rw [List.map_map] at this
    exact this
end
/-! ### the end -/
theorem wr_start {G : Sg} {H : Hp} (ht : LamX.Tabs G.tab H) : WR G ⟨[], []⟩ H [] := ⟨rfl, List.nodup_nil, fun _ _ _ h => (nomatch h), fun _ m => (nomatch m), fun _ m => (nomatch m), ht⟩
def spLaw (K : PySem.W.Frag) (n : Nat) (cs : List (Addr × Addr)) : Sp := fun vs H Q _ => ∃ (a : Addr) (ns : List Int), vs = [.ref a] ∧ ns.length ≤ n ∧ SqL K H a (ns.map V.int) ∧ (∀ p ∈ cs, H p.2 = some (.tbl #[])) ∧ ∀ H', Q (.bl true) H'
theorem reps_ints {G : Sg} {il : Lay} {H : Hp} : ∀ ns : List Int, Reps G il H (ns.map D.int) (ns.map V.int)
  | [] => .nil
  | n :: ns => .cons (.int n) (reps_ints ns)
theorem noLoc_ints (ns : List Int) : noLoc (ns.map D.int) = true := by
  unfold noLoc
  rw [List.all_map]
  exact List.all_eq_true.mpr fun _ _ => rfl
theorem walk_gy {l : PySem.W.OpenLaw} {n k fuel i : Nat} {q : Program} {loose : List Str} {XP : (Str → Option Value) → Heap → Prop} {YP : World → Heap → Prop} {d : DefRec} {arg nm : Str} {L : LI} {x : DefX}
    (hn : l.most = some n) (hn2 : n ≤ sizeLine) (hdf : d.params.defaults = []) (hr : Room (5 * (k + 1)) callerA) (hc : chkTbl fuel L = true) (hli : chkLI L = true) (hx : L.tbl.find? (fun y => y.gid == i) = some x) (hw : x.w = .glo nm) (hname : d.name = nm)
    (h1 : x.ps1 = [arg]) (h2 : x.ps2 = []) (h3 : x.va = none)
    (hb : ∀ (K : PySem.W.Frag) (f : Addr) (fd : FuncData), FunD K x.d.name x.d.qual x.d.params x.d.body x.d.scope (x.da.dvs K) (x.da.kws K) f fd → ∀ (s : Shared) (u : Value), BindsTo s fd ⟨[u], []⟩ [(arg, u)])
    (hY : ∀ (w : World) (h : Heap), YP w h → ∃ K : PySem.W.Frag, K.In h ∧ SaysL L h K)
    (hlaw : ∀ ns : List Int, ns.length ≤ n → ∃ r h', exSs (callN (tblP L) k) x.fd.body (some (.frz (ns.map .int)) :: List.replicate (x.fd.ns - 1) none) [] = .ok (.rt (.bl true)) r h') :
    PySem.W.WalkO q loose XP YP l.row.toRowW d [] (fun f vs => PySem.call f vs) := by
  refine Att.attach_call hn hdf fun w s₀ s₁ mg mb fa o pm cd doc a vs ns G Y ho hd hcd hmg hobj hints hlen hg => ?_
  obtain ⟨K, KX, c⟩ := hY w _ Y
  have m := (find_mem hx).1
  have T := tbl_ok KX G.T.g c hli
  have fo := f_ok T.f
  obtain ⟨fd, F⟩ := T.fd x m
  have cc := List.all_eq_true.mp hc x m
  simp only [chkDef, Bool.and_eq_true, decide_eq_true_eq] at cc
  have hns : x.N.length = x.fd.ns := cc.1.1.1.1.2
  have S : FnScope x.N (x.ps1 ++ x.ps2 ++ x.va.toList) x.d.scope := scB_ok cc.1.1.1.1.1.1.1.1.1.1.1.1.1.1
  rw [h1, h2, h3] at S
  have hd := fo.defs x m
  unfold defF at hd
  rw [hw] at hd
  have ef : fa = x.w.addr K := by
    rw [hname] at hmg
    have := hmg.symm.trans (T.glo _ hd)
    rw [hw]
    cases this; rfl
  subst ef
  have hbb := fun s u => hb K _ fd F s u
  obtain ⟨oc, od, dV, kV, doc', pm', an, cdv, ct, osl, rfl, lk, hcv, hD, hKw⟩ := F.ex
  have memC : ∀ {p : Addr × Addr}, p ∈ (L.tbl.filter DefX.lam).map (fun x => x.cT K) → ∃ x ∈ L.tbl, x.lam = true ∧ x.cT K = p := fun {p} hp => by
    obtain ⟨z, mz, ez⟩ := List.mem_map.mp hp
    obtain ⟨m1, m2⟩ := List.mem_filter.mp mz
    exact ⟨z, m1, m2, ez⟩
  refine LamX.law_callTs (CX := L2.CX l.prog w) (cs := (L.tbl.filter DefX.lam).map fun x => x.cT K) (sp := spLaw K n ((L.tbl.filter DefX.lam).map fun x => x.cT K)) KX G.T.g G.T.b G.T.builtins G.T.nolimit hg (fun p hp => ?_) (fun p hp => ?_) (fun p hp => ?_) G.T.bmain hobj hints (Nat.le_trans hlen hn2) hr (fun base hK hN hTB => ?_) hbb (fun H hH hS => ⟨a, ns, rfl, hlen, hS, hH, fun _ => rfl⟩) fun H e s' ⟨_, _, _, _, _, _, _, _, _, _, _, _, z⟩ => z
  · obtain ⟨z, m1, m2, rfl⟩ := memC hp
    exact c.empty z m1 m2
  · obtain ⟨z, m1, m2, rfl⟩ := memC hp
    exact c.out z m1 m2
  · obtain ⟨z, m1, m2, rfl⟩ := memC hp
    exact PySem.W.codeHd_of_K KX (c.hd z m1 m2)
  have hT : ∀ x ∈ L.tbl, x.lam = true → LamX.TabB base mg (x.cT K).1 (x.cT K).2 := fun z m1 m2 => hTB _ (List.mem_map.mpr ⟨z, List.mem_filter.mpr ⟨m1, m2⟩, rfl⟩)
  refine L2.fn_of (N := x.N) lk hcv S (fun vs H Q E h => ?_) (fun A outer s H vs Q E hr h => ⟨_, tbl_body T hc k (tbl_fn T hc hT k) m (fun _ => by obtain ⟨c, e⟩ := He.codeIn_ref hcv; rw [e, codeAt_eq lk e]) hT (hr.mono (Nat.le_refl _)), ?_⟩)
  · obtain ⟨a, ns, rfl, _⟩ := h; rfl
  · obtain ⟨a, ns, rfl, hl, hS, hTb, hQ⟩ := h
    obtain ⟨r, h', e⟩ := hlaw ns hl
    refine ⟨⟨[], []⟩, [], (some (D.frz (ns.map .int)) :: List.replicate (x.fd.ns - 1) none), wr_start (fun p hp => ?_), ⟨?_, fun j dd hd => ?_⟩, ?_⟩
    · obtain ⟨z, mz, rfl⟩ := List.mem_map.mp hp
      exact LamX.TabS.nil (hTb _ (List.mem_map.mpr ⟨z, mz, rfl⟩))
    · unfold L2.start
      rw [hns]; simp
    · cases j with
      | zero =>
        simp at hd
        subst hd
        refine ⟨.ref a, by unfold L2.start; rfl, .frz ?_ (noLoc_ints ns) (reps_ints ns)⟩
        rcases hS with hS | hS
        · exact .inl ⟨hS, fun z => (nomatch z), fun z => (nomatch z)⟩
        · exact .inr hS
      | succ j =>
        simp [List.getElem?_replicate] at hd
    · rw [e]
      intro v il1 H1 e1 w1 r1
      rw [r1.bl_inv]
      exact hQ H1
end GY

namespace GY
open PySem PySem.Spec PyProof.Rows L2
variable {XQ : D → Hs → Prop}
/-! ### weakest preconditions of the evaluator -/
def OkV {α : Type} (XQ : D → Hs → Prop) (o : Out α) (Q : α → Hs → Prop) : Prop :=
  match o with
  | .ok a h => Q a h
  | .exc e h => XQ e h
  | .stuck => False
def OkS (XQ : D → Hs → Prop) (o : Os) (Q : Fl → Env1 → Hs → Prop) : Prop :=
  match o with
  | .ok f r h => Q f r h
  | .exc e r h => XQ e h
  | .stuck => False
/-- nothing is raised -/
abbrev noE : D → Hs → Prop := fun _ _ => False
theorem OkV.ofNo {α : Type} {XQ : D → Hs → Prop} {o : Out α} {Q : α → Hs → Prop} (h : OkV noE o Q) : OkV XQ o Q := by
  cases o <;> first | exact h | exact False.elim h
theorem OkV.monoE {α : Type} {XQ XQ' : D → Hs → Prop} {o : Out α} {Q : α → Hs → Prop} (h : OkV XQ o Q) (f : ∀ e h, XQ e h → XQ' e h) : OkV XQ' o Q := by
  cases o <;> first | exact h | exact f _ _ h
theorem OkS.ofNo {XQ : D → Hs → Prop} {o : Os} {Q : Fl → Env1 → Hs → Prop} (h : OkS noE o Q) : OkS XQ o Q := by
  cases o <;> first | exact h | exact False.elim h
section
variable {α β : Type} {F : Fns} {r : Env1} {h : Hs}
theorem ok_ok (a : α) (h : Hs) (Q : α → Hs → Prop) : OkV XQ (.ok a h) Q = Q a h := rfl
theorem ok_bind (o : Out α) (f : α → Hs → Out β) (Q : β → Hs → Prop) : OkV XQ (o.bind f) Q = OkV XQ o fun a h => OkV XQ (f a h) Q := by cases o <;> rfl
theorem oks_ok (f : Fl) (r : Env1) (h : Hs) (Q : Fl → Env1 → Hs → Prop) : OkS XQ (.ok f r h) Q = Q f r h := rfl
theorem ok_os (o : Out α) (r : Env1) (f : α → Hs → Os) (Q : Fl → Env1 → Hs → Prop) : OkS XQ (o.os r f) Q = OkV XQ o fun a h => OkS XQ (f a h) Q := by cases o <;> rfl
theorem OkV.mono {o : Out α} {Q Q' : α → Hs → Prop} (h : OkV XQ o Q) (f : ∀ a h, Q a h → Q' a h) : OkV XQ o Q' := by
  cases o <;> first | exact f _ _ h | exact h
theorem OkS.mono {o : Os} {Q Q' : Fl → Env1 → Hs → Prop} (h : OkS XQ o Q) (f : ∀ a r h, Q a r h → Q' a r h) : OkS XQ o Q' := by
  cases o <;> first | exact f _ _ _ h | exact h
theorem OkV.ex {o : Out α} {Q : α → Hs → Prop} (h : OkV noE o Q) : ∃ a h', o = .ok a h' ∧ Q a h' := by
  cases o <;> first | exact h.elim | exact ⟨_, _, rfl, h⟩
theorem OkS.ex {o : Os} {Q : Fl → Env1 → Hs → Prop} (h : OkS noE o Q) : ∃ a r h', o = .ok a r h' ∧ Q a r h' := by
  cases o <;> first | exact h.elim | exact ⟨_, _, _, rfl, h⟩
theorem OkV.of {o : Out α} {a : α} {h' : Hs} {Q : α → Hs → Prop} (e : o = .ok a h') (q : Q a h') : OkV XQ o Q := by rw [e]; exact q
/-- what stands behind a statement -/
def after1 (Q : Fl → Env1 → Hs → Prop) (k : Env1 → Hs → Prop) : Fl → Env1 → Hs → Prop
  | .nx, r, h => k r h
  | f, r, h => Q f r h
theorem after1_nx (Q : Fl → Env1 → Hs → Prop) (k : Env1 → Hs → Prop) (r : Env1) (h : Hs) : after1 Q k .nx r h = k r h := rfl
theorem after1_rt (Q : Fl → Env1 → Hs → Prop) (k : Env1 → Hs → Prop) (d : D) (r : Env1) (h : Hs) : after1 Q k (.rt d) r h = Q (.rt d) r h := rfl
theorem after1_bk (Q : Fl → Env1 → Hs → Prop) (k : Env1 → Hs → Prop) (r : Env1) (h : Hs) : after1 Q k .bk r h = Q .bk r h := rfl
theorem after1_ct (Q : Fl → Env1 → Hs → Prop) (k : Env1 → Hs → Prop) (r : Env1) (h : Hs) : after1 Q k .ct r h = Q .ct r h := rfl
theorem ok_nil (Q : Fl → Env1 → Hs → Prop) : OkS XQ (exSs F [] r h) Q = Q .nx r h := rfl
theorem ok_cons {s : S} {ss : List S} {Q : Fl → Env1 → Hs → Prop} (a : OkS XQ (exS F s r h) (after1 Q fun r1 h1 => OkS XQ (exSs F ss r1 h1) Q)) : OkS XQ (exSs F (s :: ss) r h) Q := by
  show OkS XQ ((exS F s r h).seq fun r1 h1 => exSs F ss r1 h1) Q
  cases o : exS F s r h with
  | stuck => rw [o] at a; exact a.elim
  | exc x y z => rw [o] at a; exact a
  | ok f r1 h1 => rw [o] at a; cases f <;> exact a
theorem ok_one {s : S} {Q : Fl → Env1 → Hs → Prop} (a : OkS XQ (exS F s r h) Q) : OkS XQ (exSs F [s] r h) Q :=
  ok_cons (a.mono fun f r h q => by cases f <;> exact q)
/-- if: one way is known -/
theorem ok_if {c : E} {a b : List S} {Q : Fl → Env1 → Hs → Prop} (q : OkV XQ ((den F c).t r h) fun t h1 => OkS XQ (if t = true then exSs F a r h1 else exSs F b r h1) Q) : OkS XQ (exS F (.ifs c a b) r h) Q := by
  show OkS XQ (((den F c).t r h).os r fun t h1 => if t = true then exSs F a r h1 else exSs F b r h1) Q
  rw [ok_os]; exact q
/-- if: the test is known -/
theorem ok_skip {c : E} {a : List S} {Q : Fl → Env1 → Hs → Prop} (hc : OkV XQ ((den F c).t r h) fun t h1 => t = false ∧ h1 = h) (q : Q .nx r h) : OkS XQ (exS F (.ifs c a []) r h) Q :=
  ok_if (hc.mono fun t h1 ⟨e1, e2⟩ => by subst e1 e2; exact q)
theorem ok_else {c : E} {a b : List S} {Q : Fl → Env1 → Hs → Prop} (hc : OkV XQ ((den F c).t r h) fun t h1 => t = false ∧ h1 = h) (q : OkS XQ (exSs F b r h) Q) : OkS XQ (exS F (.ifs c a b) r h) Q :=
  ok_if (hc.mono fun t h1 ⟨e1, e2⟩ => by subst e1 e2; exact q)
theorem ok_then {c : E} {a b : List S} {Q : Fl → Env1 → Hs → Prop} (hc : OkV XQ ((den F c).t r h) fun t h1 => t = true ∧ h1 = h) (q : OkS XQ (exSs F a r h) Q) : OkS XQ (exS F (.ifs c a b) r h) Q :=
  ok_if (hc.mono fun t h1 ⟨e1, e2⟩ => by subst e1 e2; exact q)
theorem ok_asg {i : Nat} {e : E} {Q : Fl → Env1 → Hs → Prop} (q : OkV XQ ((den F e).v r h) fun d h1 => Q .nx (r.set i (some d)) h1) : OkS XQ (exS F (.asg (.nm i) e) r h) Q := by
  show OkS XQ (((den F e).v r h).os r fun d h1 => match bindT (.nm i) d r h1 with | some r1 => .ok .nx r1 h1 | none => .stuck) Q
  rw [ok_os]; exact q
theorem ok_asgT {t : T} {e : E} {Q : Fl → Env1 → Hs → Prop} (q : OkV XQ ((den F e).v r h) fun d h1 => ∃ r1, bindT t d r h1 = some r1 ∧ Q .nx r1 h1) : OkS XQ (exS F (.asg t e) r h) Q := by
  show OkS XQ (((den F e).v r h).os r fun d h1 => match bindT t d r h1 with | some r1 => .ok .nx r1 h1 | none => .stuck) Q
  rw [ok_os]; exact q.mono fun d h1 ⟨r1, e, q⟩ => by rw [e]; exact q
theorem ok_par {is : List Nat} {es : List E} {Q : Fl → Env1 → Hs → Prop} (q : OkV XQ (evs (dens F es) r h) fun ds h1 => ∃ r1, setAll is ds r = some r1 ∧ Q .nx r1 h1) : OkS XQ (exS F (.par is es) r h) Q := by
  show OkS XQ ((evs (dens F es) r h).os r fun ds h1 => match setAll is ds r with | some r1 => .ok .nx r1 h1 | none => .stuck) Q
  rw [ok_os]; exact q.mono fun d h1 ⟨r1, e, q⟩ => by rw [e]; exact q
theorem ok_put {o i e : E} {Q : Fl → Env1 → Hs → Prop} (q : OkV XQ ((den F e).v r h) fun d h1 => OkV XQ ((den F o).v r h1) fun x h2 => OkV XQ ((den F i).v r h2) fun y h3 => OkV XQ (putD x y d h3) fun _ h4 => Q .nx r h4) : OkS XQ (exS F (.put o i e) r h) Q := by
  show OkS XQ (((den F e).v r h).os r fun d h1 => ((den F o).v r h1).os r fun x h2 => ((den F i).v r h2).os r fun y h3 => (putD x y d h3).os r fun _ h4 => .ok .nx r h4) Q
  simp only [ok_os]; exact q
theorem ok_ex {e : E} {Q : Fl → Env1 → Hs → Prop} (q : OkV XQ ((den F e).v r h) fun d h1 => Q .nx r h1) : OkS XQ (exS F (.ex e) r h) Q := by
  show OkS XQ (((den F e).v r h).os r fun _ h1 => .ok .nx r h1) Q
  rw [ok_os]; exact q
theorem ok_ret {e : E} {Q : Fl → Env1 → Hs → Prop} (q : OkV XQ ((den F e).v r h) fun d h1 => Q (.rt d) r h1) : OkS XQ (exS F (.ret e) r h) Q := by
  show OkS XQ (((den F e).v r h).os r fun d h1 => .ok (.rt d) r h1) Q
  rw [ok_os]; exact q
theorem ok_for {t : T} {it : E} {b : List S} {Q : Fl → Env1 → Hs → Prop} (q : OkV XQ ((den F it).i r h) fun p h1 => OkS XQ (forL (fun d r1 h2 => match bindT t d r1 h2 with | some r2 => exSs F b r2 h2 | none => .stuck) (stays p.2 h1) p.1 r h1) Q) : OkS XQ (exS F (.for_ t it b) r h) Q := by
  show OkS XQ (((den F it).i r h).os r fun p h1 => forL (fun d r1 h2 => match bindT t d r1 h2 with | some r2 => exSs F b r2 h2 | none => .stuck) (stays p.2 h1) p.1 r h1) Q
  rw [ok_os]; exact q
/-- a for: I by what is left -/
theorem ok_forL {f : D → Env1 → Hs → Os} {g : Hs → Prop} {Q : Fl → Env1 → Hs → Prop} (I : List D → Env1 → Hs → Prop) (he : ∀ r h, I [] r h → Q .nx r h)
    (hs : ∀ d ds r h, I (d :: ds) r h → OkS XQ (f d r h) fun fl r1 h1 => match fl with
      | .nx => g h1 ∧ I ds r1 h1
      | .ct => g h1 ∧ I ds r1 h1
      | .bk => Q .nx r1 h1
      | .rt v => Q (.rt v) r1 h1) : ∀ {ds : List D} {r : Env1} {h : Hs}, I ds r h → OkS XQ (forL f g ds r h) Q
  | [], r, h, i => he r h i
  | d :: ds, r, h, i => by
    have q := hs d ds r h i
    unfold forL
    cases o : f d r h with
    | stuck => rw [o] at q; exact q.elim
    | exc x y z => rw [o] at q; exact q
    | ok fl r1 h1 =>
      rw [o] at q
      cases fl with
      | nx => dsimp only; rw [if_pos q.1]; exact ok_forL I he hs q.2
      | ct => dsimp only; rw [if_pos q.1]; exact ok_forL I he hs q.2
      | bk => exact q
      | rt v => exact q
/-- a comprehension: I by what is left and what is made -/
theorem ok_compL {f : D → Hs → Out (Option D)} {g : Hs → Prop} {Q : List D → Hs → Prop} (I : List D → List D → Hs → Prop) (he : ∀ acc h, I [] acc h → Q acc h)
    (hs : ∀ d ds acc h, I (d :: ds) acc h → OkV noE (f d h) fun o h1 => match o with
      | none => g h1 ∧ I ds acc h1
      | some y => g h1 ∧ isLoc y = false ∧ acc.length < sizeLine ∧ I ds (acc ++ [y]) h1) : ∀ {ds acc : List D} {h : Hs}, I ds acc h → OkV XQ (compL f g ds acc h) Q
  | [], acc, h, i => he acc h i
  | d :: ds, acc, h, i => by
    have q := hs d ds acc h i
    unfold compL
    cases o : f d h with
    | stuck => rw [o] at q; exact q.elim
    | exc x y => rw [o] at q; exact q.elim
    | ok y h1 =>
      rw [o] at q
      cases y with
      | none => dsimp only; rw [if_pos q.1]; exact ok_compL I he hs q.2
      | some y =>
        dsimp only
        rw [if_pos q.1, if_pos (by rw [q.2.1]; simpa using q.2.2.1)]
        exact ok_compL I he hs q.2.2.2
/-- a call -/
theorem ok_call {P : Nat → Option Fd} {n f : Nat} {us : List D} {kws : List (Nat × D)} {fd : Fd} {ds : List D} {Q : D → Hs → Prop} (hP : P f = some fd) (hb : bindD fd us kws = some ds)
    (hx : OkS (fun e h' => XQ e (h'.take h.length)) (exSs (callN P n) fd.body (ds.map some ++ List.replicate (fd.ns - ds.length) none) h) fun fl _ h' => match fl with
      | .rt d => OkV XQ (finish fd.fresh h.length d h') Q
      | .nx => OkV XQ (finish fd.fresh h.length .non h') Q
      | _ => False) : OkV XQ (callN P (n + 1) f us kws h) Q := by
  rw [callN_succ, hP]
  dsimp only
  rw [hb]
  dsimp only
  cases o : exSs (callN P n) fd.body (ds.map some ++ List.replicate (fd.ns - ds.length) none) h with
  | stuck => rw [o] at hx; exact hx.elim
  | exc x y z => rw [o] at hx; exact hx
  | ok fl r1 h1 =>
    rw [o] at hx
    cases fl <;> first | exact hx | exact hx.elim
end

/-! ### small ints -/
/-- below 2^k -/
def Sm (k : Nat) (i : Int) : Prop := i.natAbs < 2 ^ k
section
variable {j k : Nat} {a b : Int}
theorem Sm.mono (h : Sm j a) (e : j ≤ k) : Sm k a := Nat.lt_of_lt_of_le h (Nat.pow_le_pow_right (by decide) e)
theorem Sm.mul (h1 : Sm j a) (h2 : Sm k b) : Sm (j + k) (a * b) := by
  unfold Sm at *
  rw [Int.natAbs_mul, Nat.pow_add]
  exact Nat.mul_lt_mul'' h1 h2
theorem Sm.add (h1 : Sm j a) (h2 : Sm k b) : Sm (max j k + 1) (a + b) := by
  have h1 := h1.mono (Nat.le_max_left j k)
  have h2 := h2.mono (Nat.le_max_right j k)
  unfold Sm at *
  rw [Nat.pow_succ]
  have := Int.natAbs_add_le a b
  omega
theorem Sm.neg (h1 : Sm j a) : Sm j (-a) := by unfold Sm at *; rw [Int.natAbs_neg]; exact h1
theorem Sm.sub (h1 : Sm j a) (h2 : Sm k b) : Sm (max j k + 1) (a - b) := by rw [Int.sub_eq_add_neg]; exact h1.add h2.neg
theorem log2_lt (h : Sm k a) (hk : 0 < k) : a.natAbs.log2 < k := by
  unfold Sm at h
  by_cases h0 : a.natAbs = 0
  · rw [h0]; simpa using hk
  · exact (Nat.log2_lt h0).mpr h
theorem Sm.big (h1 : Sm j a) (h2 : Sm k b) (hj : j ≤ 400000) (hk : k ≤ 400000) : bigOk a b = true := by
  have a1 := log2_lt (h1.mono (Nat.le_succ j)) (Nat.succ_pos _)
  have a2 := log2_lt (h2.mono (Nat.le_succ k)) (Nat.succ_pos _)
  unfold bigOk
  exact decide_eq_true (by omega)
theorem Sm.of {x : Int} (k : Nat) (h1 : -(2 ^ k) < x) (h2 : x < 2 ^ k) : Sm k x := by
  unfold Sm
  have e : ((2 ^ k : Nat) : Int) = 2 ^ k := by norm_cast
  omega
theorem Sm.range (h : Sm k a) : -(2 ^ k) < a ∧ a < 2 ^ k := by
  unfold Sm at h
  have e : ((2 ^ k : Nat) : Int) = 2 ^ k := by norm_cast
  omega
end
end GY

namespace GY
open PySem PySem.Spec PyProof.Rows L2
variable {XQ : D → Hs → Prop}
section
variable {F : Fns} {r : Env1} {h : Hs} {Q : D → Hs → Prop} {QB : Bool → Hs → Prop} {QL : List D → Hs → Prop} {QU : Unit → Hs → Prop} {QI : List D × D → Hs → Prop} {QO : Option Int → Hs → Prop}
/-- a test's truth -/
def tstQ (d : D) (h : Hs) (Q : Bool → Hs → Prop) : Prop := match truthD d h with
  | some b => Q b h
  | none => False
def varQ : Env1 → Nat → (D → Prop) → Prop
  | some d :: _, 0, Q => Q d
  | _ :: r, i + 1, Q => varQ r i Q
  | _, _, _ => False
theorem varQ_z (d : D) (r : Env1) (Q : D → Prop) : varQ (some d :: r) 0 Q = Q d := rfl
theorem varQ_s (d : Option D) (r : Env1) (i : Nat) (Q : D → Prop) : varQ (d :: r) (i + 1) Q = varQ r i Q := by cases d <;> rfl
theorem varQ_eq : ∀ (r : Env1) (i : Nat) (Q : D → Prop), varQ r i Q = match r[i]? with | some (some d) => Q d | _ => False
  | [], i, Q => by cases i <;> simp [varQ]
  | none :: r, 0, Q => by simp [varQ]
  | some d :: r, 0, Q => by simp [varQ]
  | x :: r, i + 1, Q => by rw [varQ_s, varQ_eq r i Q]; simp
theorem ok_stuck (Q : D → Hs → Prop) : OkV XQ .stuck Q = False := rfl
theorem ok_ite {α : Type} {c : Prop} [Decidable c] (a b : Out α) (Q : α → Hs → Prop) : OkV XQ (if c then a else b) Q = if c then OkV XQ a Q else OkV XQ b Q := by split <;> rfl
theorem oks_ite {c : Prop} [Decidable c] (a b : Os) (Q : Fl → Env1 → Hs → Prop) : OkS XQ (if c then a else b) Q = if c then OkS XQ a Q else OkS XQ b Q := by split <;> rfl
theorem ok_dite {α : Type} {c : Prop} [Decidable c] (o : Out α) (Q : α → Hs → Prop) : OkV XQ (if c then o else .stuck) Q = (c ∧ OkV XQ o Q) := by
  by_cases e : c
  · rw [if_pos e]; simp [e]
  · rw [if_neg e]; simp [e]; exact id
theorem w_con (d : D) : OkV XQ ((den F (.con d)).v r h) Q = Q d h := rfl
theorem w_var (i : Nat) : OkV XQ ((den F (.var i)).v r h) Q = varQ r i fun d => Q d h := by
  show OkV XQ (match r[i]? with | some (some d) => Out.ok d h | _ => .stuck) Q = _
  rw [varQ_eq]
  split <;> rfl
theorem w_bin (op : Bop) (a b : E) : OkV XQ ((den F (.bin op a b)).v r h) Q = OkV XQ ((den F a).v r h) fun x h1 => OkV XQ ((den F b).v r h1) fun y h2 => OkV XQ (binF F op x y h2) Q := by
  show OkV XQ (((den F a).v r h).bind fun x h1 => ((den F b).v r h1).bind fun y h2 => binF F op x y h2) Q = _
  simp only [ok_bind]
theorem w_neg (a : E) : OkV XQ ((den F (.neg a)).v r h) Q = OkV XQ ((den F a).v r h) fun x h1 => OkV XQ (negF F x h1) Q := by
  show OkV XQ (((den F a).v r h).bind fun x h1 => negF F x h1) Q = _
  rw [ok_bind]
def notQ (x : D) (h : Hs) (Q : D → Hs → Prop) : Prop := match x with | .bl c => Q (.bl (!c)) h | _ => False
theorem notQ_bl (c : Bool) : notQ (.bl c) h Q = Q (.bl (!c)) h := rfl
theorem w_not (a : E) : OkV XQ ((den F (.not_ a)).v r h) Q = OkV XQ ((den F a).v r h) fun x h1 => notQ x h1 Q := by
  show OkV XQ (((den F a).v r h).bind fun x h1 => match x with | .bl c => .ok (.bl (!c)) h1 | _ => .stuck) Q = _
  rw [ok_bind]
  congr 1
  funext x h1
  cases x <;> rfl
def andQ (x : D) (h : Hs) (k : Hs → Prop) (Q : D → Hs → Prop) : Prop := match x with | .bl c => if c = true then k h else Q (.bl false) h | _ => False
theorem andQ_bl (c : Bool) (k : Hs → Prop) : andQ (.bl c) h k Q = if c = true then k h else Q (.bl false) h := rfl
theorem w_band (a b : E) : OkV XQ ((den F (.band a b)).v r h) Q = OkV XQ ((den F a).v r h) fun x h1 => andQ x h1 (fun h1 => OkV XQ ((den F b).v r h1) Q) Q := by
  show OkV XQ (((den F a).v r h).bind fun x h1 => match x with | .bl c => if c = true then (den F b).v r h1 else .ok (.bl false) h1 | _ => .stuck) Q = _
  rw [ok_bind]
  congr 1
  funext x h1
  cases x <;> first | rfl | exact ok_ite ..
def orQ (x : D) (h : Hs) (k : Hs → Prop) (Q : D → Hs → Prop) : Prop := match x with | .bl c => if c = true then Q (.bl true) h else k h | _ => False
theorem orQ_bl (c : Bool) (k : Hs → Prop) : orQ (.bl c) h k Q = if c = true then Q (.bl true) h else k h := rfl
theorem w_bor (a b : E) : OkV XQ ((den F (.bor a b)).v r h) Q = OkV XQ ((den F a).v r h) fun x h1 => orQ x h1 (fun h1 => OkV XQ ((den F b).v r h1) Q) Q := by
  show OkV XQ (((den F a).v r h).bind fun x h1 => match x with | .bl c => if c = true then .ok (.bl true) h1 else (den F b).v r h1 | _ => .stuck) Q = _
  rw [ok_bind]
  congr 1
  funext x h1
  cases x <;> first | rfl | exact ok_ite ..
theorem w_cmp (op : Cop) (a b : E) : OkV XQ ((den F (.cmp op a b)).v r h) Q = OkV XQ ((den F a).v r h) fun x h1 => OkV XQ ((den F b).v r h1) fun y h2 => OkV XQ (cmpF F op x y h2) Q := by
  show OkV XQ (((den F a).v r h).bind fun x h1 => ((den F b).v r h1).bind fun y h2 => cmpF F op x y h2) Q = _
  simp only [ok_bind]
theorem w_ite (c a b : E) : OkV XQ ((den F (.ite_ c a b)).v r h) Q = OkV XQ ((den F c).t r h) fun t h1 => if t = true then OkV XQ ((den F a).v r h1) Q else OkV XQ ((den F b).v r h1) Q := by
  show OkV XQ (((den F c).t r h).bind fun t h1 => if t = true then (den F a).v r h1 else (den F b).v r h1) Q = _
  simp only [ok_bind, ok_ite]
def mkQ (c : List D → D) (ds : List D) (h : Hs) (Q : D → Hs → Prop) : Prop := (noLoc ds && decide (ds.length ≤ sizeLine)) = true ∧ Q (c ds) h
theorem w_tup (es : List E) : OkV XQ ((den F (.tup es)).v r h) Q = OkV XQ (evs (dens F es) r h) fun ds h1 => mkQ .tup ds h1 Q := by
  show OkV XQ ((evs (dens F es) r h).bind fun ds h1 => mkTup ds h1) Q = _
  rw [ok_bind]
  congr 1
  funext ds h1
  exact ok_dite _ _
theorem w_lst (es : List E) : OkV XQ ((den F (.lst es)).v r h) Q = OkV XQ (evs (dens F es) r h) fun ds h1 => mkQ .lst ds h1 Q := by
  show OkV XQ ((evs (dens F es) r h).bind fun ds h1 => mkLst ds h1) Q = _
  rw [ok_bind]
  congr 1
  funext ds h1
  exact ok_dite _ _
theorem w_lnew (es : List E) : OkV XQ ((den F (.lnew es)).v r h) Q = OkV XQ (evs (dens F es) r h) fun ds h1 => (noLoc ds && decide (ds.length ≤ sizeLine)) = true ∧ Q (.loc h1.length) (h1 ++ [.lst ds]) := by
  show OkV XQ ((evs (dens F es) r h).bind fun ds h1 => if noLoc ds && decide (ds.length ≤ sizeLine) then .ok (.loc h1.length) (h1 ++ [.lst ds]) else .stuck) Q = _
  rw [ok_bind]
  congr 1
  funext ds h1
  exact ok_dite _ _
theorem w_idx (a i : E) : OkV XQ ((den F (.idx a i)).v r h) Q = OkV XQ ((den F a).v r h) fun x h1 => OkV XQ ((den F i).v r h1) fun y h2 => OkV XQ (idxD x y h2) Q := by
  show OkV XQ (((den F a).v r h).bind fun x h1 => ((den F i).v r h1).bind fun y h2 => idxD x y h2) Q = _
  simp only [ok_bind]
theorem w_slc (a : E) (lo hi : Option E) : OkV XQ ((den F (.slc a lo hi)).v r h) Q = OkV XQ ((den F a).v r h) fun x h1 => OkV XQ (evo (denO F lo) r h1) fun l h2 => OkV XQ (evo (denO F hi) r h2) fun u h3 => OkV XQ (slcD x l u h3) Q := by
  show OkV XQ (((den F a).v r h).bind fun x h1 => (evo (denO F lo) r h1).bind fun l h2 => (evo (denO F hi) r h2).bind fun u h3 => slcD x l u h3) Q = _
  simp only [ok_bind]
theorem w_evo_none : OkV XQ (evo (denO F none) r h) QO = QO none h := rfl
def intQ (d : D) (h : Hs) (Q : Option Int → Hs → Prop) : Prop := match d with | .int i => Q (some i) h | _ => False
theorem intQ_int (i : Int) : intQ (.int i) h QO = QO (some i) h := rfl
theorem w_evo_some (e : E) : OkV XQ (evo (denO F (some e)) r h) QO = OkV XQ ((den F e).v r h) fun d h1 => intQ d h1 QO := by
  show OkV XQ (((den F e).v r h).bind fun d h1 => match d with | .int i => .ok (some i) h1 | _ => .stuck) QO = _
  rw [ok_bind]
  congr 1
  funext x h1
  cases x <;> rfl
theorem w_call (f : Nat) (es : List E) (ks : List Nat) (kes : List E) : OkV XQ ((den F (.call f es ks kes)).v r h) Q = OkV XQ (evs (dens F es) r h) fun ds h1 => OkV XQ (evs (dens F kes) r h1) fun vs h2 => OkV XQ (F f ds (ks.zip vs) h2) Q := by
  show OkV XQ ((evs (dens F es) r h).bind fun ds h1 => (evs (dens F kes) r h1).bind fun vs h2 => F f ds (ks.zip vs) h2) Q = _
  simp only [ok_bind]
theorem w_blt (b : Blt) (es : List E) : OkV XQ ((den F (.blt b es)).v r h) Q = OkV XQ (evs (dens F es) r h) fun ds h1 => OkV XQ (bltD b ds h1) Q := by
  show OkV XQ ((evs (dens F es) r h).bind fun ds h1 => bltD b ds h1) Q = _
  simp only [ok_bind]
theorem w_app (o e : E) : OkV XQ ((den F (.app o e)).v r h) Q = OkV XQ ((den F o).v r h) fun x h1 => lstLoc x h1 = true ∧ OkV XQ ((den F e).v r h1) fun y h2 => OkV XQ (appD x y h2) Q := by
  show OkV XQ (((den F o).v r h).bind fun x h1 => if lstLoc x h1 = true then ((den F e).v r h1).bind fun y h2 => appD x y h2 else .stuck) Q = _
  rw [ok_bind]
  congr 1
  funext x h1
  rw [← ok_bind]
  exact ok_dite _ _
def bitQ (x : D) (h : Hs) (Q : D → Hs → Prop) : Prop := match x with | .int i => Q (.int (Builtin.Int.intBits i : Nat)) h | _ => False
theorem bitQ_int (i : Int) : bitQ (.int i) h Q = Q (.int (Builtin.Int.intBits i : Nat)) h := rfl
theorem w_bitl (a : E) : OkV XQ ((den F (.bitl a)).v r h) Q = OkV XQ ((den F a).v r h) fun x h1 => bitQ x h1 Q := by
  show OkV XQ (((den F a).v r h).bind fun x h1 => match x with | .int i => .ok (.int (Builtin.Int.intBits i : Nat)) h1 | _ => .stuck) Q = _
  rw [ok_bind]
  congr 1
  funext x h1
  cases x <;> rfl
theorem negQ_int (i : Int) : OkV XQ (negF F (.int i) h) Q = Q (.int (-i)) h := rfl
theorem wbF_int (op : Bop) (i : Int) (y : D) : OkV XQ (binF F op (.int i) y h) Q = OkV XQ (binD op (.int i) y h) Q := rfl
theorem wbF_lst (op : Bop) (i : List D) (y : D) : OkV XQ (binF F op (.lst i) y h) Q = OkV XQ (binD op (.lst i) y h) Q := rfl
theorem wbF_tup (op : Bop) (i : List D) (y : D) : OkV XQ (binF F op (.tup i) y h) Q = OkV XQ (binD op (.tup i) y h) Q := rfl
theorem wbF_str (op : Bop) (i : Str) (y : D) : OkV XQ (binF F op (.str i) y h) Q = OkV XQ (binD op (.str i) y h) Q := rfl
theorem wF_lt (x y : D) : OkV XQ (cmpF F .lt x y h) Q = OkV XQ (cmpD .lt x y h) Q := rfl
theorem wF_le (x y : D) : OkV XQ (cmpF F .le x y h) Q = OkV XQ (cmpD .le x y h) Q := rfl
theorem wF_gt (x y : D) : OkV XQ (cmpF F .gt x y h) Q = OkV XQ (cmpD .gt x y h) Q := rfl
theorem wF_ge (x y : D) : OkV XQ (cmpF F .ge x y h) Q = OkV XQ (cmpD .ge x y h) Q := rfl
theorem wF_isN (x y : D) : OkV XQ (cmpF F .isN x y h) Q = OkV XQ (cmpD .isN x y h) Q := rfl
theorem wF_notN (x y : D) : OkV XQ (cmpF F .notN x y h) Q = OkV XQ (cmpD .notN x y h) Q := rfl
theorem wF_eq_int (i : Int) (y : D) : OkV XQ (cmpF F .eq (.int i) y h) Q = OkV XQ (cmpD .eq (.int i) y h) Q := rfl
theorem wF_eq_bl (i : Bool) (y : D) : OkV XQ (cmpF F .eq (.bl i) y h) Q = OkV XQ (cmpD .eq (.bl i) y h) Q := rfl
theorem wF_eq_str (i : Str) (y : D) : OkV XQ (cmpF F .eq (.str i) y h) Q = OkV XQ (cmpD .eq (.str i) y h) Q := rfl
theorem wF_eq_tup (i : List D) (y : D) : OkV XQ (cmpF F .eq (.tup i) y h) Q = OkV XQ (cmpD .eq (.tup i) y h) Q := rfl
theorem wF_eq_lst (i : List D) (y : D) : OkV XQ (cmpF F .eq (.lst i) y h) Q = OkV XQ (cmpD .eq (.lst i) y h) Q := rfl
theorem wF_eq_frz (i : List D) (y : D) : OkV XQ (cmpF F .eq (.frz i) y h) Q = OkV XQ (cmpD .eq (.frz i) y h) Q := rfl
theorem wF_eq_non (y : D) : OkV XQ (cmpF F .eq .non y h) Q = OkV XQ (cmpD .eq .non y h) Q := rfl
theorem wF_ne_int (i : Int) (y : D) : OkV XQ (cmpF F .ne (.int i) y h) Q = OkV XQ (cmpD .ne (.int i) y h) Q := rfl
theorem wF_ne_bl (i : Bool) (y : D) : OkV XQ (cmpF F .ne (.bl i) y h) Q = OkV XQ (cmpD .ne (.bl i) y h) Q := rfl
theorem wF_ne_str (i : Str) (y : D) : OkV XQ (cmpF F .ne (.str i) y h) Q = OkV XQ (cmpD .ne (.str i) y h) Q := rfl
theorem wF_ne_tup (i : List D) (y : D) : OkV XQ (cmpF F .ne (.tup i) y h) Q = OkV XQ (cmpD .ne (.tup i) y h) Q := rfl
theorem wF_ne_lst (i : List D) (y : D) : OkV XQ (cmpF F .ne (.lst i) y h) Q = OkV XQ (cmpD .ne (.lst i) y h) Q := rfl
theorem wF_ne_frz (i : List D) (y : D) : OkV XQ (cmpF F .ne (.frz i) y h) Q = OkV XQ (cmpD .ne (.frz i) y h) Q := rfl
theorem wF_ne_non (y : D) : OkV XQ (cmpF F .ne .non y h) Q = OkV XQ (cmpD .ne .non y h) Q := rfl
theorem wF_isIn_tup (x : D) (i : List D) : OkV XQ (cmpF F .isIn x (.tup i) h) Q = OkV XQ (cmpD .isIn x (.tup i) h) Q := rfl
theorem wF_isIn_lst (x : D) (i : List D) : OkV XQ (cmpF F .isIn x (.lst i) h) Q = OkV XQ (cmpD .isIn x (.lst i) h) Q := rfl
theorem wF_isIn_frz (x : D) (i : List D) : OkV XQ (cmpF F .isIn x (.frz i) h) Q = OkV XQ (cmpD .isIn x (.frz i) h) Q := rfl
theorem wF_notIn_tup (x : D) (i : List D) : OkV XQ (cmpF F .notIn x (.tup i) h) Q = OkV XQ (cmpD .notIn x (.tup i) h) Q := rfl
theorem wF_notIn_lst (x : D) (i : List D) : OkV XQ (cmpF F .notIn x (.lst i) h) Q = OkV XQ (cmpD .notIn x (.lst i) h) Q := rfl
theorem wF_notIn_frz (x : D) (i : List D) : OkV XQ (cmpF F .notIn x (.frz i) h) Q = OkV XQ (cmpD .notIn x (.frz i) h) Q := rfl
def blQ (d : D) (k : Bool → Bool) (h : Hs) (Q : D → Hs → Prop) : Prop := match d with | .bl b => Q (.bl (k b)) h | _ => False
theorem blQ_bl (b : Bool) (k : Bool → Bool) : blQ (.bl b) k h Q = Q (.bl (k b)) h := rfl
theorem ok_blX (o : Out D) (k : Bool → Bool) : OkV XQ (blX o k) Q = OkV noE o fun d h1 => blQ d k h1 Q := by
  cases o with
  | ok d h1 => cases d <;> rfl
  | _ => rfl
theorem wF_eq_ins (c : Nat) (fs gs : List (Nat × D)) : OkV XQ (cmpF F .eq (.ins c fs) (.ins c gs) h) Q = OkV XQ (F (mid c 6) [.ins c fs, .ins c gs] [] h) Q := congrArg (fun o => OkV XQ o Q) (if_pos (c := clsOf (.ins c gs) h = some c ∨ (tyName (.ins c gs) h).isSome = true) (.inl rfl))
theorem wF_eq_insT (c : Nat) (fs : List (Nat × D)) (ds : List D) : OkV XQ (cmpF F .eq (.ins c fs) (.tup ds) h) Q = OkV XQ (F (mid c 6) [.ins c fs, .tup ds] [] h) Q := rfl
theorem wF_eq_insN (c : Nat) (fs : List (Nat × D)) : OkV XQ (cmpF F .eq (.ins c fs) .non h) Q = OkV XQ (F (mid c 6) [.ins c fs, .non] [] h) Q := rfl
theorem wF_eq_insI (c : Nat) (fs : List (Nat × D)) (i : Int) : OkV XQ (cmpF F .eq (.ins c fs) (.int i) h) Q = OkV XQ (F (mid c 6) [.ins c fs, .int i] [] h) Q := rfl
theorem wF_ne_ins (c : Nat) (fs gs : List (Nat × D)) : OkV XQ (cmpF F .ne (.ins c fs) (.ins c gs) h) Q = OkV noE (F (mid c 6) [.ins c fs, .ins c gs] [] h) fun d h1 => blQ d not h1 Q :=
  (congrArg (fun o => OkV XQ o Q) (if_pos (c := clsOf (.ins c gs) h = some c) rfl)).trans (ok_blX _ _)
theorem w_bol (a : E) : OkV XQ ((den F (.bol a)).v r h) Q = OkV XQ ((den F a).v r h) fun x h1 => OkV XQ (bolF F x h1) Q := by
  show OkV XQ (((den F a).v r h).bind fun x h1 => bolF F x h1) Q = _
  rw [ok_bind]
theorem wF_bol_ins (c : Nat) (fs : List (Nat × D)) : OkV XQ (bolF F (.ins c fs) h) Q = OkV noE (F (mid c 7) [.ins c fs] [] h) fun d h1 => blQ d id h1 Q := ok_blX _ _
theorem w_attr (o : E) (f : Nat) : OkV XQ ((den F (.attr o f)).v r h) Q = OkV XQ ((den F o).v r h) fun x h1 => OkV XQ (attrD x f h1) Q := by
  show OkV XQ (((den F o).v r h).bind fun x h1 => attrD x f h1) Q = _
  rw [ok_bind]
theorem ok_noX (o : Out D) : OkV XQ (noX o) Q = OkV noE o Q := by cases o <;> rfl
def propQ (F : Fns) (x : D) (f : Nat) (h : Hs) (Q : D → Hs → Prop) : Prop := match clsOf x h with | some c => OkV noE (F (mid c f) [x] [] h) Q | none => False
theorem w_prop (o : E) (f : Nat) : OkV XQ ((den F (.prop o f)).v r h) Q = OkV XQ ((den F o).v r h) fun x h1 => propQ F x f h1 Q := by
  show OkV XQ (((den F o).v r h).bind fun x h1 => match clsOf x h1 with | some c => noX (F (mid c f) [x] [] h1) | none => .stuck) Q = _
  rw [ok_bind]
  congr 1
  funext x h1
  unfold propQ
  cases clsOf x h1 with
  | none => rfl
  | some c => exact ok_noX _
theorem propQ_ins (c f : Nat) (fs : List (Nat × D)) : propQ F (.ins c fs) f h Q = OkV noE (F (mid c f) [.ins c fs] [] h) Q := rfl
def methQ (m : Nat) (cs : List Nat) (x : D) (h : Hs) (K : Nat → Prop) : Prop := match fldsOf x h with | some (c, fs) => (cs.contains c && (fs.lookup m).isNone) = true ∧ K c | none => False
theorem w_meth (m : Nat) (cs : List Nat) (o : E) (es : List E) (ks : List Nat) (kes : List E) : OkV XQ ((den F (.meth m cs o es ks kes)).v r h) Q = OkV XQ ((den F o).v r h) fun x h1 => methQ m cs x h1 fun c => OkV XQ (evs (dens F es) r h1) fun ds h2 => OkV XQ (evs (dens F kes) r h2) fun vs h3 => OkV XQ (F (mid c m) (x :: ds) (ks.zip vs) h3) Q := by
  show OkV XQ (((den F o).v r h).bind fun x h1 => methD m cs x (fun c => (evs (dens F es) r h1).bind fun ds h2 => (evs (dens F kes) r h2).bind fun vs h3 => F (mid c m) (x :: ds) (ks.zip vs) h3) h1) Q = _
  rw [ok_bind]
  congr 1
  funext x h1
  unfold methD methQ
  cases fldsOf x h1 with
  | none => rfl
  | some p =>
    obtain ⟨c, fs⟩ := p
    dsimp only
    rw [ok_dite]
    simp only [ok_bind]
theorem methQ_ins (m c : Nat) (cs : List Nat) (fs : List (Nat × D)) (K : Nat → Prop) : methQ m cs (.ins c fs) h K = ((cs.contains c && (fs.lookup m).isNone) = true ∧ K c) := rfl
theorem w_new (c : Nat) (fr : Bool) (es : List E) (ks : List Nat) (kes : List E) : OkV XQ ((den F (.new c fr es ks kes)).v r h) Q = OkV XQ (evs (dens F es) r h) fun ds h1 => OkV XQ (evs (dens F kes) r h1) fun vs h2 => OkV XQ (newD F c fr ds (ks.zip vs) h2) Q := by
  show OkV XQ ((evs (dens F es) r h).bind fun ds h1 => (evs (dens F kes) r h1).bind fun vs h2 => newD F c fr ds (ks.zip vs) h2) Q = _
  simp only [ok_bind]
def nonQ (d : D) (K : Prop) : Prop := match d with | .non => K | _ => False
theorem nonQ_non (K : Prop) : nonQ .non K = K := rfl
theorem w_newD (c : Nat) (fr : Bool) (ds : List D) (kw : List (Nat × D)) : OkV XQ (newD F c fr ds kw h) Q = OkV XQ (F (mid c 0) (.loc h.length :: ds) kw (h ++ [.ins c []])) fun d h3 => nonQ d (OkV XQ (demote fr h.length h3) Q) := by
  unfold newD
  rw [ok_bind]
  congr 1
  funext d h3
  cases d <;> rfl
theorem w_isI (o : E) (cs : List Nat) : OkV XQ ((den F (.isI o cs)).v r h) Q = OkV XQ ((den F o).v r h) fun x h1 => OkV XQ (isND x h1 cs) Q := by
  show OkV XQ (((den F o).v r h).bind fun x h1 => isND x h1 cs) Q = _
  rw [ok_bind]
theorem isN_ins (c : Nat) (fs : List (Nat × D)) (cs : List Nat) : OkV XQ (isND (.ins c fs) h cs) Q = Q (.bl (cs.contains c)) h := rfl
theorem w_nil : OkV XQ (evs (dens F []) r h) QL = QL [] h := rfl
theorem w_cons (e : E) (es : List E) : OkV XQ (evs (dens F (e :: es)) r h) QL = OkV XQ ((den F e).v r h) fun d h1 => OkV XQ (evs (dens F es) r h1) fun ds h2 => QL (d :: ds) h2 := by
  show OkV XQ (((den F e).v r h).bind fun d h1 => (evs (dens F es) r h1).bind fun ds h2 => .ok (d :: ds) h2) QL = _
  simp only [ok_bind, ok_ok]
theorem mkQ_eq (c : List D → D) (ds : List D) : mkQ c ds h Q = ((noLoc ds && decide (ds.length ≤ sizeLine)) = true ∧ Q (c ds) h) := rfl
theorem tss_nil : OkV XQ (tss (dens F []) r h) QB = QB true h := rfl
theorem tss_cons (e : E) (es : List E) : OkV XQ (tss (dens F (e :: es)) r h) QB = OkV XQ ((den F e).t r h) fun c h1 => if c = true then OkV XQ (tss (dens F es) r h1) QB else QB false h1 := by
  show OkV XQ (((den F e).t r h).bind fun c h1 => if c = true then tss (dens F es) r h1 else .ok false h1) QB = _
  simp only [ok_bind, ok_ite, ok_ok]
def seqQ (d : D) (h : Hs) (Q : List D × D → Hs → Prop) : Prop := match seqOf d h with
  | some ds => Q (ds, d) h
  | none => False
theorem ok_seqQ (v : Env1 → Hs → Out D) : OkV XQ (itOf v r h) QI = OkV XQ (v r h) fun d h1 => seqQ d h1 QI := by
  unfold itOf
  rw [ok_bind]
  congr 1
  funext d h1
  unfold seqQ
  cases seqOf d h1 <;> rfl
theorem seqQ_tup (ds : List D) : seqQ (.tup ds) h QI = QI (ds, .tup ds) h := rfl
theorem seqQ_lst (ds : List D) : seqQ (.lst ds) h QI = QI (ds, .lst ds) h := rfl
theorem seqQ_frz (ds : List D) : seqQ (.frz ds) h QI = QI (ds, .frz ds) h := rfl
theorem seqQ_loc (n : Nat) : seqQ (.loc n) h QI = ∃ ds, h[n]? = some (.lst ds) ∧ QI (ds, .loc n) h := by
  unfold seqQ
  simp only [seqOf]
  cases e : h[n]? with
  | none => simp
  | some o => cases o <;> simp
/-! tests -/
theorem ok_tst (v : Env1 → Hs → Out D) : OkV XQ (tstOf v r h) QB = OkV XQ (v r h) fun d h1 => tstQ d h1 QB := by
  unfold tstOf
  rw [ok_bind]
  congr 1
  funext d h1
  unfold tstQ
  cases truthD d h1 <;> rfl

theorem wt_con (d : D) : OkV XQ ((den F (.con d)).t r h) QB = OkV XQ ((den F (.con d)).v r h) fun d h1 => tstQ d h1 QB := ok_tst (den F (.con d)).v
theorem wi_con (d : D) : OkV XQ ((den F (.con d)).i r h) QI = OkV XQ ((den F (.con d)).v r h) fun d h1 => seqQ d h1 QI := ok_seqQ (den F (.con d)).v
theorem wt_var (i : Nat) : OkV XQ ((den F (.var i)).t r h) QB = OkV XQ ((den F (.var i)).v r h) fun d h1 => tstQ d h1 QB := ok_tst (den F (.var i)).v
theorem wi_var (i : Nat) : OkV XQ ((den F (.var i)).i r h) QI = OkV XQ ((den F (.var i)).v r h) fun d h1 => seqQ d h1 QI := ok_seqQ (den F (.var i)).v
theorem wt_bin (op : Bop) (a b : E) : OkV XQ ((den F (.bin op a b)).t r h) QB = OkV XQ ((den F (.bin op a b)).v r h) fun d h1 => tstQ d h1 QB := ok_tst (den F (.bin op a b)).v
theorem wi_bin (op : Bop) (a b : E) : OkV XQ ((den F (.bin op a b)).i r h) QI = OkV XQ ((den F (.bin op a b)).v r h) fun d h1 => seqQ d h1 QI := ok_seqQ (den F (.bin op a b)).v
theorem wt_neg (a : E) : OkV XQ ((den F (.neg a)).t r h) QB = OkV XQ ((den F (.neg a)).v r h) fun d h1 => tstQ d h1 QB := ok_tst (den F (.neg a)).v
theorem wi_neg (a : E) : OkV XQ ((den F (.neg a)).i r h) QI = OkV XQ ((den F (.neg a)).v r h) fun d h1 => seqQ d h1 QI := ok_seqQ (den F (.neg a)).v
theorem wt_cmp (op : Cop) (a b : E) : OkV XQ ((den F (.cmp op a b)).t r h) QB = OkV XQ ((den F (.cmp op a b)).v r h) fun d h1 => tstQ d h1 QB := ok_tst (den F (.cmp op a b)).v
theorem wi_cmp (op : Cop) (a b : E) : OkV XQ ((den F (.cmp op a b)).i r h) QI = OkV XQ ((den F (.cmp op a b)).v r h) fun d h1 => seqQ d h1 QI := ok_seqQ (den F (.cmp op a b)).v
theorem wt_cmp2 (op op2 : Cop) (a b c : E) : OkV XQ ((den F (.cmp2 op op2 a b c)).t r h) QB = OkV XQ ((den F (.cmp2 op op2 a b c)).v r h) fun d h1 => tstQ d h1 QB := ok_tst (den F (.cmp2 op op2 a b c)).v
theorem wi_cmp2 (op op2 : Cop) (a b c : E) : OkV XQ ((den F (.cmp2 op op2 a b c)).i r h) QI = OkV XQ ((den F (.cmp2 op op2 a b c)).v r h) fun d h1 => seqQ d h1 QI := ok_seqQ (den F (.cmp2 op op2 a b c)).v
theorem wt_tup (es : List E) : OkV XQ ((den F (.tup es)).t r h) QB = OkV XQ ((den F (.tup es)).v r h) fun d h1 => tstQ d h1 QB := ok_tst (den F (.tup es)).v
theorem wi_tup (es : List E) : OkV XQ ((den F (.tup es)).i r h) QI = OkV XQ ((den F (.tup es)).v r h) fun d h1 => seqQ d h1 QI := ok_seqQ (den F (.tup es)).v
theorem wt_lst (es : List E) : OkV XQ ((den F (.lst es)).t r h) QB = OkV XQ ((den F (.lst es)).v r h) fun d h1 => tstQ d h1 QB := ok_tst (den F (.lst es)).v
theorem wi_lst (es : List E) : OkV XQ ((den F (.lst es)).i r h) QI = OkV XQ ((den F (.lst es)).v r h) fun d h1 => seqQ d h1 QI := ok_seqQ (den F (.lst es)).v
theorem wt_lnew (es : List E) : OkV XQ ((den F (.lnew es)).t r h) QB = OkV XQ ((den F (.lnew es)).v r h) fun d h1 => tstQ d h1 QB := ok_tst (den F (.lnew es)).v
theorem wi_lnew (es : List E) : OkV XQ ((den F (.lnew es)).i r h) QI = OkV XQ ((den F (.lnew es)).v r h) fun d h1 => seqQ d h1 QI := ok_seqQ (den F (.lnew es)).v
theorem wt_idx (a i : E) : OkV XQ ((den F (.idx a i)).t r h) QB = OkV XQ ((den F (.idx a i)).v r h) fun d h1 => tstQ d h1 QB := ok_tst (den F (.idx a i)).v
theorem wi_idx (a i : E) : OkV XQ ((den F (.idx a i)).i r h) QI = OkV XQ ((den F (.idx a i)).v r h) fun d h1 => seqQ d h1 QI := ok_seqQ (den F (.idx a i)).v
theorem wt_slc (a : E) (lo hi : Option E) : OkV XQ ((den F (.slc a lo hi)).t r h) QB = OkV XQ ((den F (.slc a lo hi)).v r h) fun d h1 => tstQ d h1 QB := ok_tst (den F (.slc a lo hi)).v
theorem wi_slc (a : E) (lo hi : Option E) : OkV XQ ((den F (.slc a lo hi)).i r h) QI = OkV XQ ((den F (.slc a lo hi)).v r h) fun d h1 => seqQ d h1 QI := ok_seqQ (den F (.slc a lo hi)).v
theorem wt_call (f : Nat) (es : List E) (ks : List Nat) (kes : List E) : OkV XQ ((den F (.call f es ks kes)).t r h) QB = OkV XQ ((den F (.call f es ks kes)).v r h) fun d h1 => tstQ d h1 QB := ok_tst (den F (.call f es ks kes)).v
theorem wi_call (f : Nat) (es : List E) (ks : List Nat) (kes : List E) : OkV XQ ((den F (.call f es ks kes)).i r h) QI = OkV XQ ((den F (.call f es ks kes)).v r h) fun d h1 => seqQ d h1 QI := ok_seqQ (den F (.call f es ks kes)).v
theorem wt_blt (b : Blt) (es : List E) : OkV XQ ((den F (.blt b es)).t r h) QB = OkV XQ ((den F (.blt b es)).v r h) fun d h1 => tstQ d h1 QB := ok_tst (den F (.blt b es)).v
theorem wi_blt (b : Blt) (es : List E) : OkV XQ ((den F (.blt b es)).i r h) QI = OkV XQ ((den F (.blt b es)).v r h) fun d h1 => seqQ d h1 QI := ok_seqQ (den F (.blt b es)).v
theorem wt_lc (own : List Nat) (tg : T) (it : E) (cnd : List E) (elt : E) : OkV XQ ((den F (.lc own tg it cnd elt)).t r h) QB = OkV XQ ((den F (.lc own tg it cnd elt)).v r h) fun d h1 => tstQ d h1 QB := ok_tst (den F (.lc own tg it cnd elt)).v
theorem wi_lc (own : List Nat) (tg : T) (it : E) (cnd : List E) (elt : E) : OkV XQ ((den F (.lc own tg it cnd elt)).i r h) QI = OkV XQ ((den F (.lc own tg it cnd elt)).v r h) fun d h1 => seqQ d h1 QI := ok_seqQ (den F (.lc own tg it cnd elt)).v
theorem wt_bol (a : E) : OkV XQ ((den F (.bol a)).t r h) QB = OkV XQ ((den F (.bol a)).v r h) fun d h1 => tstQ d h1 QB := ok_tst (den F (.bol a)).v
theorem wi_bol (a : E) : OkV XQ ((den F (.bol a)).i r h) QI = OkV XQ ((den F (.bol a)).v r h) fun d h1 => seqQ d h1 QI := ok_seqQ (den F (.bol a)).v
theorem wt_lc2 (own : List Nat) (tg : T) (it : E) (cnd : List E) (vs1 : List Nat) (tg1 : T) (it1 : E) (cnd1 : List E) (elt : E) : OkV XQ ((den F (.lc2 own tg it cnd vs1 tg1 it1 cnd1 elt)).t r h) QB = OkV XQ ((den F (.lc2 own tg it cnd vs1 tg1 it1 cnd1 elt)).v r h) fun d h1 => tstQ d h1 QB := ok_tst (den F (.lc2 own tg it cnd vs1 tg1 it1 cnd1 elt)).v
theorem wi_lc2 (own : List Nat) (tg : T) (it : E) (cnd : List E) (vs1 : List Nat) (tg1 : T) (it1 : E) (cnd1 : List E) (elt : E) : OkV XQ ((den F (.lc2 own tg it cnd vs1 tg1 it1 cnd1 elt)).i r h) QI = OkV XQ ((den F (.lc2 own tg it cnd vs1 tg1 it1 cnd1 elt)).v r h) fun d h1 => seqQ d h1 QI := ok_seqQ (den F (.lc2 own tg it cnd vs1 tg1 it1 cnd1 elt)).v
theorem wt_app (o e : E) : OkV XQ ((den F (.app o e)).t r h) QB = OkV XQ ((den F (.app o e)).v r h) fun d h1 => tstQ d h1 QB := ok_tst (den F (.app o e)).v
theorem wi_app (o e : E) : OkV XQ ((den F (.app o e)).i r h) QI = OkV XQ ((den F (.app o e)).v r h) fun d h1 => seqQ d h1 QI := ok_seqQ (den F (.app o e)).v
theorem wt_bitl (a : E) : OkV XQ ((den F (.bitl a)).t r h) QB = OkV XQ ((den F (.bitl a)).v r h) fun d h1 => tstQ d h1 QB := ok_tst (den F (.bitl a)).v
theorem wi_bitl (a : E) : OkV XQ ((den F (.bitl a)).i r h) QI = OkV XQ ((den F (.bitl a)).v r h) fun d h1 => seqQ d h1 QI := ok_seqQ (den F (.bitl a)).v
theorem wt_attr (o : E) (f : Nat) : OkV XQ ((den F (.attr o f)).t r h) QB = OkV XQ ((den F (.attr o f)).v r h) fun d h1 => tstQ d h1 QB := ok_tst (den F (.attr o f)).v
theorem wi_attr (o : E) (f : Nat) : OkV XQ ((den F (.attr o f)).i r h) QI = OkV XQ ((den F (.attr o f)).v r h) fun d h1 => seqQ d h1 QI := ok_seqQ (den F (.attr o f)).v
theorem wt_prop (o : E) (f : Nat) : OkV XQ ((den F (.prop o f)).t r h) QB = OkV XQ ((den F (.prop o f)).v r h) fun d h1 => tstQ d h1 QB := ok_tst (den F (.prop o f)).v
theorem wi_prop (o : E) (f : Nat) : OkV XQ ((den F (.prop o f)).i r h) QI = OkV XQ ((den F (.prop o f)).v r h) fun d h1 => seqQ d h1 QI := ok_seqQ (den F (.prop o f)).v
theorem wt_meth (m : Nat) (cs : List Nat) (o : E) (es : List E) (ks : List Nat) (kes : List E) : OkV XQ ((den F (.meth m cs o es ks kes)).t r h) QB = OkV XQ ((den F (.meth m cs o es ks kes)).v r h) fun d h1 => tstQ d h1 QB := ok_tst (den F (.meth m cs o es ks kes)).v
theorem wi_meth (m : Nat) (cs : List Nat) (o : E) (es : List E) (ks : List Nat) (kes : List E) : OkV XQ ((den F (.meth m cs o es ks kes)).i r h) QI = OkV XQ ((den F (.meth m cs o es ks kes)).v r h) fun d h1 => seqQ d h1 QI := ok_seqQ (den F (.meth m cs o es ks kes)).v
theorem wt_new (c : Nat) (fr : Bool) (es : List E) (ks : List Nat) (kes : List E) : OkV XQ ((den F (.new c fr es ks kes)).t r h) QB = OkV XQ ((den F (.new c fr es ks kes)).v r h) fun d h1 => tstQ d h1 QB := ok_tst (den F (.new c fr es ks kes)).v
theorem wi_new (c : Nat) (fr : Bool) (es : List E) (ks : List Nat) (kes : List E) : OkV XQ ((den F (.new c fr es ks kes)).i r h) QI = OkV XQ ((den F (.new c fr es ks kes)).v r h) fun d h1 => seqQ d h1 QI := ok_seqQ (den F (.new c fr es ks kes)).v
theorem wt_isI (o : E) (cs : List Nat) : OkV XQ ((den F (.isI o cs)).t r h) QB = OkV XQ ((den F (.isI o cs)).v r h) fun d h1 => tstQ d h1 QB := ok_tst (den F (.isI o cs)).v
theorem wi_isI (o : E) (cs : List Nat) : OkV XQ ((den F (.isI o cs)).i r h) QI = OkV XQ ((den F (.isI o cs)).v r h) fun d h1 => seqQ d h1 QI := ok_seqQ (den F (.isI o cs)).v

theorem tt_not (a : E) : OkV XQ ((den F (.not_ a)).t r h) QB = OkV XQ ((den F a).t r h) fun c h1 => QB (!c) h1 := by
  show OkV XQ (((den F a).t r h).bind fun c h1 => .ok (!c) h1) QB = _
  simp only [ok_bind, ok_ok]
theorem tt_band (a b : E) : OkV XQ ((den F (.band a b)).t r h) QB = OkV XQ ((den F a).t r h) fun c h1 => if c = true then OkV XQ ((den F b).t r h1) QB else QB false h1 := by
  show OkV XQ (((den F a).t r h).bind fun c h1 => if c = true then (den F b).t r h1 else .ok false h1) QB = _
  simp only [ok_bind, ok_ite, ok_ok]
theorem tt_bor (a b : E) : OkV XQ ((den F (.bor a b)).t r h) QB = OkV XQ ((den F a).t r h) fun c h1 => if c = true then QB true h1 else OkV XQ ((den F b).t r h1) QB := by
  show OkV XQ (((den F a).t r h).bind fun c h1 => if c = true then .ok true h1 else (den F b).t r h1) QB = _
  simp only [ok_bind, ok_ite, ok_ok]
theorem tt_ite (c a b : E) : OkV XQ ((den F (.ite_ c a b)).t r h) QB = OkV XQ ((den F c).t r h) fun t h1 => if t = true then OkV XQ ((den F a).t r h1) QB else OkV XQ ((den F b).t r h1) QB := by
  show OkV XQ (((den F c).t r h).bind fun t h1 => if t = true then (den F a).t r h1 else (den F b).t r h1) QB = _
  simp only [ok_bind, ok_ite]
theorem tstQ_bl (b : Bool) : tstQ (.bl b) h QB = QB b h := rfl
theorem tstQ_non : tstQ .non h QB = QB false h := rfl
theorem tstQ_int (i : Int) : tstQ (.int i) h QB = QB (i != 0) h := rfl
theorem tstQ_lst (ds : List D) : tstQ (.lst ds) h QB = QB (!ds.isEmpty) h := rfl
theorem tstQ_tup (ds : List D) : tstQ (.tup ds) h QB = QB (!ds.isEmpty) h := rfl
def rngQ (a : D) (h : Hs) (Q : List D × D → Hs → Prop) : Prop := match a with | .int j => (-(2 ^ 62) ≤ j ∧ j < 2 ^ 62) ∧ Q (rngD 0 j, .non) h | _ => False
theorem rngQ_int (j : Int) : rngQ (.int j) h QI = ((-(2 ^ 62) ≤ j ∧ j < 2 ^ 62) ∧ QI (rngD 0 j, .non) h) := rfl
theorem wi_rng (a : E) : OkV XQ ((den F (.rng1 a)).i r h) QI = OkV XQ ((den F a).v r h) fun x h1 => rngQ x h1 QI := by
  show OkV XQ (((den F a).v r h).bind fun x h1 => match x with | .int j => if -(2 ^ 62) ≤ j ∧ j < 2 ^ 62 then .ok (rngD 0 j, .non) h1 else .stuck | _ => .stuck) QI = _
  rw [ok_bind]
  congr 1
  funext x h1
  cases x <;> try rfl
  rename_i j
  exact ok_dite _ _
def rng2Q (a b : D) (h : Hs) (Q : List D × D → Hs → Prop) : Prop := match a, b with | .int i, .int j => (-(2 ^ 62) ≤ i ∧ i < 2 ^ 62 ∧ -(2 ^ 62) ≤ j ∧ j < 2 ^ 62) ∧ Q (rngD i j, .non) h | _, _ => False
theorem rng2Q_int (i j : Int) : rng2Q (.int i) (.int j) h QI = ((-(2 ^ 62) ≤ i ∧ i < 2 ^ 62 ∧ -(2 ^ 62) ≤ j ∧ j < 2 ^ 62) ∧ QI (rngD i j, .non) h) := rfl
theorem wi_rng2 (a b : E) : OkV XQ ((den F (.rng2 a b)).i r h) QI = OkV XQ ((den F a).v r h) fun x h1 => OkV XQ ((den F b).v r h1) fun y h2 => rng2Q x y h2 QI := by
  show OkV XQ (((den F a).v r h).bind fun x h1 => ((den F b).v r h1).bind fun y h2 => match x, y with | .int i, .int j => if -(2 ^ 62) ≤ i ∧ i < 2 ^ 62 ∧ -(2 ^ 62) ≤ j ∧ j < 2 ^ 62 then .ok (rngD i j, .non) h2 else .stuck | _, _ => .stuck) QI = _
  simp only [ok_bind]
  congr 1
  funext x h1
  congr 1
  funext y h2
  cases x <;> cases y <;> try rfl
  rename_i i j
  exact ok_dite _ _
theorem w_lc (own : List Nat) (tg : T) (it : E) (cnd : List E) (elt : E) : OkV XQ ((den F (.lc own tg it cnd elt)).v r h) Q = OkV XQ ((den F it).i r h) fun p h1 => OkV XQ (compL (fun d h2 => match bindT tg d (wipeE r own) h2 with
        | some r2 => (tss (dens F cnd) r2 h2).bind fun b h3 => if b = true then ((den F elt).v r2 h3).bind fun y h4 => .ok (some y) h4 else .ok none h3
        | none => .stuck) (stays p.2 h1) p.1 [] h1) fun ys h2 => Q (.lst ys) h2 := by
  show OkV XQ (lcD own tg (den F it) (dens F cnd) (den F elt) r h) Q = _
  unfold lcD
  rw [ok_bind]
  congr 1
  funext p h1
  rw [ok_bind]
  rfl
/-! ### operations -/
theorem wb_add (i j : Int) : OkV XQ (binD .add (.int i) (.int j) h) Q = Q (.int (i + j)) h := rfl
theorem wb_sub (i j : Int) : OkV XQ (binD .sub (.int i) (.int j) h) Q = Q (.int (i - j)) h := rfl
theorem wb_mul (i j : Int) : OkV XQ (binD .mul (.int i) (.int j) h) Q = (bigOk i j = true ∧ Q (.int (i * j)) h) := ok_dite _ _
theorem wb_shl (i j : Int) : OkV XQ (binD .shl (.int i) (.int j) h) Q = ((0 ≤ j ∧ j ≤ 1000000 ∧ i.natAbs < 2 ^ 64) ∧ Q (.int (i * 2 ^ j.toNat)) h) := ok_dite _ _
theorem wb_fdiv (i j : Int) : OkV XQ (binD .fdiv (.int i) (.int j) h) Q = ((0 < j ∧ j.natAbs.log2 < 9000) ∧ Q (.int (i / j)) h) := ok_dite _ _
theorem wb_mod (i j : Int) : OkV XQ (binD .mod (.int i) (.int j) h) Q = (0 < j ∧ Q (.int (i % j)) h) := ok_dite _ _
theorem wb_pow (i j : Int) : OkV XQ (binD .pow (.int i) (.int j) h) Q = ((0 ≤ j ∧ j ≤ 1000000 ∧ i.natAbs < 2 ^ 64) ∧ Q (.int (i ^ j.toNat)) h) := ok_dite _ _
theorem wb_ladd (xs ys : List D) : OkV XQ (binD .add (.lst xs) (.lst ys) h) Q = (xs.length + ys.length ≤ sizeLine ∧ Q (.lst (xs ++ ys)) h) := ok_dite _ _
theorem wc_lt (i j : Int) : OkV XQ (cmpD .lt (.int i) (.int j) h) Q = Q (.bl (decide (i < j))) h := rfl
theorem wc_le (i j : Int) : OkV XQ (cmpD .le (.int i) (.int j) h) Q = Q (.bl (decide (i ≤ j))) h := rfl
theorem wc_gt (i j : Int) : OkV XQ (cmpD .gt (.int i) (.int j) h) Q = Q (.bl (decide (j < i))) h := rfl
theorem wc_ge (i j : Int) : OkV XQ (cmpD .ge (.int i) (.int j) h) Q = Q (.bl (decide (j ≤ i))) h := rfl
theorem shaped_int (i : Int) : SeqAt.shaped (.int i) = true := by rfl
theorem eqD_int (i j : Int) : eqD (.int i) (.int j) h = some (i == j) := by
  show (if SeqAt.shaped (.int i) && SeqAt.shaped (.int j) then some (PyData.eqv (.int i) (.int j)) else none) = _
  rw [shaped_int, shaped_int]; rfl
theorem eqD_bl (i j : Bool) : eqD (.bl i) (.bl j) h = some (i == j) := by cases i <;> cases j <;> rfl
theorem wc_eq_int (i j : Int) : OkV XQ (cmpD .eq (.int i) (.int j) h) Q = Q (.bl (i == j)) h := by
  show OkV XQ (match eqD (.int i) (.int j) h with | some c => .ok (.bl c) h | none => .stuck) Q = _
  rw [eqD_int]; rfl
theorem wc_ne_int (i j : Int) : OkV XQ (cmpD .ne (.int i) (.int j) h) Q = Q (.bl (!(i == j))) h := by
  show OkV XQ (match eqD (.int i) (.int j) h with | some c => .ok (.bl !c) h | none => .stuck) Q = _
  rw [eqD_int]; rfl
theorem wc_eq_bl (i j : Bool) : OkV XQ (cmpD .eq (.bl i) (.bl j) h) Q = Q (.bl (i == j)) h := by
  show OkV XQ (match eqD (.bl i) (.bl j) h with | some c => .ok (.bl c) h | none => .stuck) Q = _
  rw [eqD_bl]; rfl
theorem wc_ne_bl (i j : Bool) : OkV XQ (cmpD .ne (.bl i) (.bl j) h) Q = Q (.bl (!(i == j))) h := by
  show OkV XQ (match eqD (.bl i) (.bl j) h with | some c => .ok (.bl !c) h | none => .stuck) Q = _
  rw [eqD_bl]; rfl
theorem wc_isN_int (i : Int) : OkV XQ (cmpD .isN (.int i) .non h) Q = Q (.bl false) h := rfl
theorem wc_isN_bl (i : Bool) : OkV XQ (cmpD .isN (.bl i) .non h) Q = Q (.bl false) h := rfl
theorem wc_isN_non : OkV XQ (cmpD .isN .non .non h) Q = Q (.bl true) h := rfl
theorem wc_notN_int (i : Int) : OkV XQ (cmpD .notN (.int i) .non h) Q = Q (.bl true) h := rfl
theorem wc_notN_tup (i : List D) : OkV XQ (cmpD .notN (.tup i) .non h) Q = Q (.bl true) h := rfl
theorem wc_notN_non : OkV XQ (cmpD .notN .non .non h) Q = Q (.bl false) h := rfl
def idxQ (o : Option (List D)) (k : Int) (Q : D → Prop) : Prop := match o with
  | some ds => ∃ d, atI ds k = some d ∧ Q d
  | none => False
theorem w_idxD (a : D) (k : Int) : OkV XQ (idxD a (.int k) h) Q = idxQ (seqOf a h) k fun d => Q d h := by
  unfold idxD idxQ
  dsimp only
  cases seqOf a h with
  | none => rfl
  | some ds =>
    dsimp only
    cases atI ds k <;> simp [OkV]
theorem seq_lst (ds : List D) : seqOf (.lst ds) h = some ds := rfl
theorem seq_tup (ds : List D) : seqOf (.tup ds) h = some ds := rfl
theorem seq_frz (ds : List D) : seqOf (.frz ds) h = some ds := rfl
theorem seq_loc {n : Nat} {ds : List D} (e : h[n]? = some (.lst ds)) : seqOf (.loc n) h = some ds := by simp only [seqOf, e]
theorem seq_set {n : Nat} {ds : List D} (e : n < h.length) : seqOf (.loc n) (h.set n (.lst ds)) = some ds := seq_loc (by rw [List.getElem?_set_self e])
theorem seq_0 (ds : List D) : seqOf (.loc 0) (.lst ds :: h) = some ds := rfl
theorem seq_s (n : Nat) (o : Ob) : seqOf (.loc (n + 1)) (o :: h) = seqOf (.loc n) h := rfl
theorem atI_nat {ds : List D} {n : Nat} {d : D} (e : ds[n]? = some d) : atI ds (n : Int) = some d := by
  have hl : n < ds.length := (List.getElem?_eq_some_iff.mp e).1
  unfold atI ixN
  rw [if_pos (by omega), if_pos (by omega)]
  simpa using e
theorem idxQ_nat {ds : List D} {n : Nat} {d : D} {Q : D → Prop} (e : ds[n]? = some d) : idxQ (some ds) (n : Int) Q = Q d := by
  show (∃ d', atI ds n = some d' ∧ Q d') = Q d
  rw [atI_nat e]
  simp
theorem len_lst (ds : List D) : OkV XQ (bltD .len [.lst ds] h) Q = Q (.int ds.length) h := rfl
theorem len_tup (ds : List D) : OkV XQ (bltD .len [.tup ds] h) Q = Q (.int ds.length) h := rfl
theorem len_loc (n : Nat) : OkV XQ (bltD .len [.loc n] h) Q = ∃ ds, seqOf (.loc n) h = some ds ∧ Q (.int ds.length) h := by
  show OkV XQ (match seqOf (.loc n) h with | some ds => .ok (.int ds.length) h | none => .stuck) Q = _
  cases seqOf (.loc n) h <;> simp [OkV]
def putQ (ds : List D) (k : Int) (d : D) (Q : List D → Prop) : Prop := ∃ j, ixN ds.length k = some j ∧ Q (ds.set j d)
theorem w_put {n : Nat} {ds : List D} (k : Int) (d : D) (e : n < h.length) : OkV XQ (putD (.loc n) (.int k) d (h.set n (.lst ds))) QU = (isLoc d = false ∧ putQ ds k d fun ds' => QU () (h.set n (.lst ds'))) := by
  unfold putD putQ
  simp only [List.getElem?_set_self e, List.set_set]
  cases hd : isLoc d with
  | true => simp [OkV]
  | false =>
    simp only [Bool.not_false, if_true, true_and]
    cases ixN ds.length k <;> simp [OkV]
theorem isLoc_int (i : Int) : isLoc (.int i) = false := rfl
theorem isLoc_lst (i : List D) : isLoc (.lst i) = false := rfl
theorem isLoc_tup (i : List D) : isLoc (.tup i) = false := rfl

theorem idxQ_0 (a : D) (t : List D) (Q : D → Prop) : idxQ (some (a :: t)) 0 Q = Q a := idxQ_nat (n := 0) rfl
theorem idxQ_1 (a b : D) (t : List D) (Q : D → Prop) : idxQ (some (a :: b :: t)) 1 Q = Q b := idxQ_nat (n := 1) rfl
theorem idxQ_2 (a b c : D) (t : List D) (Q : D → Prop) : idxQ (some (a :: b :: c :: t)) 2 Q = Q c := idxQ_nat (n := 2) rfl
theorem idxQ_3 (a b c d : D) (t : List D) (Q : D → Prop) : idxQ (some (a :: b :: c :: d :: t)) 3 Q = Q d := idxQ_nat (n := 3) rfl
theorem idxQ_4 (a b c d e : D) (t : List D) (Q : D → Prop) : idxQ (some (a :: b :: c :: d :: e :: t)) 4 Q = Q e := idxQ_nat (n := 4) rfl
theorem idxQ_5 (a b c d e f : D) (t : List D) (Q : D → Prop) : idxQ (some (a :: b :: c :: d :: e :: f :: t)) 5 Q = Q f := idxQ_nat (n := 5) rfl
theorem idxQ_6 (a b c d e f g : D) (t : List D) (Q : D → Prop) : idxQ (some (a :: b :: c :: d :: e :: f :: g :: t)) 6 Q = Q g := idxQ_nat (n := 6) rfl
theorem idxQ_7 (a b c d e f g h : D) (t : List D) (Q : D → Prop) : idxQ (some (a :: b :: c :: d :: e :: f :: g :: h :: t)) 7 Q = Q h := idxQ_nat (n := 7) rfl
theorem idxQ_8 (a b c d e f g h i : D) (t : List D) (Q : D → Prop) : idxQ (some (a :: b :: c :: d :: e :: f :: g :: h :: i :: t)) 8 Q = Q i := idxQ_nat (n := 8) rfl
theorem idxQ_9 (a b c d e f g h i j : D) (t : List D) (Q : D → Prop) : idxQ (some (a :: b :: c :: d :: e :: f :: g :: h :: i :: j :: t)) 9 Q = Q j := idxQ_nat (n := 9) rfl
theorem idxQ_10 (a b c d e f g h i j k : D) (t : List D) (Q : D → Prop) : idxQ (some (a :: b :: c :: d :: e :: f :: g :: h :: i :: j :: k :: t)) 10 Q = Q k := idxQ_nat (n := 10) rfl
theorem idxQ_11 (a b c d e f g h i j k l : D) (t : List D) (Q : D → Prop) : idxQ (some (a :: b :: c :: d :: e :: f :: g :: h :: i :: j :: k :: l :: t)) 11 Q = Q l := idxQ_nat (n := 11) rfl
theorem putQ_0 (a z : D) (t : List D) (Q : List D → Prop) : putQ (a :: t) 0 z Q = Q (z :: t) := by
  unfold putQ ixN
  have e : (0 : Int) < ((a :: t).length : Nat) := by simp only [List.length_cons]; omega
  rw [if_pos (by decide), if_pos e]
  simp
theorem putQ_1 (a b z : D) (t : List D) (Q : List D → Prop) : putQ (a :: b :: t) 1 z Q = Q (a :: z :: t) := by
  unfold putQ ixN
  have e : (1 : Int) < ((a :: b :: t).length : Nat) := by simp only [List.length_cons]; omega
  rw [if_pos (by decide), if_pos e]
  simp
theorem putQ_2 (a b c z : D) (t : List D) (Q : List D → Prop) : putQ (a :: b :: c :: t) 2 z Q = Q (a :: b :: z :: t) := by
  unfold putQ ixN
  have e : (2 : Int) < ((a :: b :: c :: t).length : Nat) := by simp only [List.length_cons]; omega
  rw [if_pos (by decide), if_pos e]
  simp
theorem putQ_3 (a b c d z : D) (t : List D) (Q : List D → Prop) : putQ (a :: b :: c :: d :: t) 3 z Q = Q (a :: b :: c :: z :: t) := by
  unfold putQ ixN
  have e : (3 : Int) < ((a :: b :: c :: d :: t).length : Nat) := by simp only [List.length_cons]; omega
  rw [if_pos (by decide), if_pos e]
  simp
theorem putQ_4 (a b c d e z : D) (t : List D) (Q : List D → Prop) : putQ (a :: b :: c :: d :: e :: t) 4 z Q = Q (a :: b :: c :: d :: z :: t) := by
  unfold putQ ixN
  have e : (4 : Int) < ((a :: b :: c :: d :: e :: t).length : Nat) := by simp only [List.length_cons]; omega
  rw [if_pos (by decide), if_pos e]
  simp
theorem putQ_5 (a b c d e f z : D) (t : List D) (Q : List D → Prop) : putQ (a :: b :: c :: d :: e :: f :: t) 5 z Q = Q (a :: b :: c :: d :: e :: z :: t) := by
  unfold putQ ixN
  have e : (5 : Int) < ((a :: b :: c :: d :: e :: f :: t).length : Nat) := by simp only [List.length_cons]; omega
  rw [if_pos (by decide), if_pos e]
  simp
end
end GY

namespace GY
open PySem PySem.Spec PyProof.Rows L2
variable {XQ : D → Hs → Prop}
section
variable {F : Fns} {r : Env1} {h : Hs} {Q : Fl → Env1 → Hs → Prop} {QD : D → Hs → Prop}
/-! ### statements as equations -/
theorem okv_congr {α : Type} {o o' : Out α} (e : o = o') (Q : α → Hs → Prop) : OkV XQ o Q = OkV XQ o' Q := by rw [e]
theorem oks_congr {o o' : Os} (e : o = o') (Q : Fl → Env1 → Hs → Prop) : OkS XQ o Q = OkS XQ o' Q := by rw [e]
theorem sq_nil : OkS XQ (exSs F [] r h) Q = Q .nx r h := rfl
theorem sq_cons (s : S) (ss : List S) : OkS XQ (exSs F (s :: ss) r h) Q = OkS XQ (exS F s r h) (after1 Q fun r1 h1 => OkS XQ (exSs F ss r1 h1) Q) := by
  show OkS XQ ((exS F s r h).seq fun r1 h1 => exSs F ss r1 h1) Q = _
  cases exS F s r h with
  | stuck => rfl
  | exc x y z => rfl
  | ok f r1 h1 => cases f <;> rfl
def bindQ (t : T) (d : D) (r : Env1) (h : Hs) (K : Env1 → Prop) : Prop := match bindT t d r h with | some r1 => K r1 | none => False
def bindsQ (t : List T) (d : List D) (r : Env1) (h : Hs) (K : Env1 → Prop) : Prop := match bindTs t d r h with | some r1 => K r1 | none => False
theorem bindQ_nm (i : Nat) (d : D) (K : Env1 → Prop) : bindQ (.nm i) d r h K = K (r.set i (some d)) := rfl
theorem bindQ_tup (ts : List T) (ds : List D) (K : Env1 → Prop) : bindQ (.tp ts) (.tup ds) r h K = bindsQ ts ds r h K := rfl
theorem bindQ_lst (ts : List T) (ds : List D) (K : Env1 → Prop) : bindQ (.tp ts) (.lst ds) r h K = bindsQ ts ds r h K := rfl
theorem bindsQ_nil (K : Env1 → Prop) : bindsQ [] [] r h K = K r := rfl
theorem bindsQ_cons (t : T) (ts : List T) (d : D) (ds : List D) (K : Env1 → Prop) : bindsQ (t :: ts) (d :: ds) r h K = bindQ t d r h fun r1 => bindsQ ts ds r1 h K := by
  unfold bindsQ bindQ
  simp only [bindTs]
  cases bindT t d r h <;> rfl
theorem sq_asg (t : T) (e : E) : OkS XQ (exS F (.asg t e) r h) Q = OkV XQ ((den F e).v r h) fun d h1 => bindQ t d r h1 fun r1 => Q .nx r1 h1 := by
  show OkS XQ (((den F e).v r h).os r fun d h1 => match bindT t d r h1 with | some r1 => .ok .nx r1 h1 | none => .stuck) Q = _
  rw [ok_os]
  congr 1
  funext d h1
  unfold bindQ
  cases bindT t d r h1 <;> rfl
def setQ (is : List Nat) (ds : List D) (r : Env1) (K : Env1 → Prop) : Prop := match setAll is ds r with | some r1 => K r1 | none => False
theorem setQ_nil (K : Env1 → Prop) : setQ [] [] r K = K r := rfl
theorem setQ_cons (i : Nat) (is : List Nat) (d : D) (ds : List D) (K : Env1 → Prop) : setQ (i :: is) (d :: ds) r K = setQ is ds (r.set i (some d)) K := rfl
theorem sq_par (is : List Nat) (es : List E) : OkS XQ (exS F (.par is es) r h) Q = OkV XQ (evs (dens F es) r h) fun ds h1 => setQ is ds r fun r1 => Q .nx r1 h1 := by
  show OkS XQ ((evs (dens F es) r h).os r fun ds h1 => match setAll is ds r with | some r1 => .ok .nx r1 h1 | none => .stuck) Q = _
  rw [ok_os]
  congr 1
  funext d h1
  unfold setQ
  cases setAll is d r <;> rfl
theorem sq_put (o i e : E) : OkS XQ (exS F (.put o i e) r h) Q = OkV XQ ((den F e).v r h) fun d h1 => OkV XQ ((den F o).v r h1) fun x h2 => OkV XQ ((den F i).v r h2) fun y h3 => OkV XQ (putD x y d h3) fun _ h4 => Q .nx r h4 := by
  show OkS XQ (((den F e).v r h).os r fun d h1 => ((den F o).v r h1).os r fun x h2 => ((den F i).v r h2).os r fun y h3 => (putD x y d h3).os r fun _ h4 => .ok .nx r h4) Q = _
  simp only [ok_os]; rfl
theorem sq_setf (o : E) (f : Nat) (e : E) : OkS XQ (exS F (.setf o f e) r h) Q = OkV XQ ((den F e).v r h) fun d h1 => OkV XQ ((den F o).v r h1) fun x h2 => OkV XQ (setfD x f d h2) fun _ h3 => Q .nx r h3 := by
  show OkS XQ (((den F e).v r h).os r fun d h1 => ((den F o).v r h1).os r fun x h2 => (setfD x f d h2).os r fun _ h3 => .ok .nx r h3) Q = _
  simp only [ok_os]; rfl
theorem sq_ex (e : E) : OkS XQ (exS F (.ex e) r h) Q = OkV XQ ((den F e).v r h) fun _ h1 => Q .nx r h1 := by
  show OkS XQ (((den F e).v r h).os r fun _ h1 => .ok .nx r h1) Q = _
  rw [ok_os]; rfl
theorem sq_ret (e : E) : OkS XQ (exS F (.ret e) r h) Q = OkV XQ ((den F e).v r h) fun d h1 => Q (.rt d) r h1 := by
  show OkS XQ (((den F e).v r h).os r fun d h1 => .ok (.rt d) r h1) Q = _
  rw [ok_os]; rfl
theorem sq_retN : OkS XQ (exS F .retN r h) Q = Q (.rt .non) r h := rfl
theorem sq_pas : OkS XQ (exS F .pas r h) Q = Q .nx r h := rfl
theorem sq_brk : OkS XQ (exS F .brk r h) Q = Q .bk r h := rfl
theorem sq_cnt : OkS XQ (exS F .cnt r h) Q = Q .ct r h := rfl
theorem sq_ifs (c : E) (a b : List S) : OkS XQ (exS F (.ifs c a b) r h) Q = OkV XQ ((den F c).t r h) fun t h1 => if t = true then OkS XQ (exSs F a r h1) Q else OkS XQ (exSs F b r h1) Q := by
  show OkS XQ (((den F c).t r h).os r fun t h1 => if t = true then exSs F a r h1 else exSs F b r h1) Q = _
  rw [ok_os]
  congr 1
  funext t h1
  cases t <;> rfl
/-- the turns of a for; of a comprehension; of a while -/
def forQ (XQ : D → Hs → Prop) (F : Fns) (t : T) (b : List S) (g : Hs → Prop) (ds : List D) (r : Env1) (h : Hs) (Q : Fl → Env1 → Hs → Prop) : Prop := OkS XQ (forL (fun d r1 h2 => match bindT t d r1 h2 with | some r2 => exSs F b r2 h2 | none => .stuck) g ds r h) Q
def lcQ (F : Fns) (own : List Nat) (tg : T) (cnd : List E) (elt : E) (g : Hs → Prop) (ds : List D) (r : Env1) (h : Hs) (Q : List D → Hs → Prop) : Prop := OkV noE (compL (fun d h2 => match bindT tg d (wipeE r own) h2 with
        | some r2 => (tss (dens F cnd) r2 h2).bind fun b h3 => if b = true then ((den F elt).v r2 h3).bind fun y h4 => .ok (some y) h4 else .ok none h3
        | none => .stuck) g ds [] h) Q
def whlQ (XQ : D → Hs → Prop) (F : Fns) (c : E) (b : List S) (r : Env1) (h : Hs) (Q : Fl → Env1 → Hs → Prop) : Prop := OkS XQ (exS F (.whl c b) r h) Q
theorem sq_whl (c : E) (b : List S) : OkS XQ (exS F (.whl c b) r h) Q = whlQ XQ F c b r h Q := rfl
theorem sq_for (t : T) (it : E) (b : List S) : OkS XQ (exS F (.for_ t it b) r h) Q = OkV XQ ((den F it).i r h) fun p h1 => forQ XQ F t b (stays p.2 h1) p.1 r h1 Q := by
  show OkS XQ (((den F it).i r h).os r fun p h1 => forL (fun d r1 h2 => match bindT t d r1 h2 with | some r2 => exSs F b r2 h2 | none => .stuck) (stays p.2 h1) p.1 r h1) Q = _
  rw [ok_os]; rfl
theorem compL_ne {f : D → Hs → Out (Option D)} {g : Hs → Prop} : ∀ {ds acc : List D} {h h' : Hs} {e : D}, compL f g ds acc h ≠ .exc e h'
  | [], acc, h, h', e => by unfold compL; intro z; cases z
  | d :: ds, acc, h, h', e => by
    unfold compL
    repeat' split
    all_goals first | exact compL_ne | (intro z; cases z)
theorem compL_noE {f : D → Hs → Out (Option D)} {g : Hs → Prop} {ds acc : List D} {h : Hs} {Q : List D → Hs → Prop} : OkV XQ (compL f g ds acc h) Q = OkV noE (compL f g ds acc h) Q := by
  cases o : compL f g ds acc h with
  | exc e h' => exact absurd o compL_ne
  | _ => rfl
theorem comp2L_ne {f : D → List D → Hs → Out (List D)} {g : Hs → Prop} : ∀ {ds acc : List D} {h h' : Hs} {e : D}, comp2L f g ds acc h ≠ .exc e h'
  | [], acc, h, h', e => by unfold comp2L; intro z; cases z
  | d :: ds, acc, h, h', e => by
    unfold comp2L
    repeat' split
    all_goals first | exact comp2L_ne | (intro z; cases z)
theorem comp2L_noE {f : D → List D → Hs → Out (List D)} {g : Hs → Prop} {ds acc : List D} {h : Hs} {Q : List D → Hs → Prop} : OkV XQ (comp2L f g ds acc h) Q = OkV noE (comp2L f g ds acc h) Q := by
  cases o : comp2L f g ds acc h with
  | exc e h' => exact absurd o comp2L_ne
  | _ => rfl
theorem sq_lc (own : List Nat) (tg : T) (it : E) (cnd : List E) (elt : E) : OkV XQ ((den F (.lc own tg it cnd elt)).v r h) QD = OkV XQ ((den F it).i r h) fun p h1 => lcQ F own tg cnd elt (stays p.2 h1) p.1 r h1 fun ys h2 => QD (.lst ys) h2 := (w_lc own tg it cnd elt).trans (by
  congr 1
  funext p h1
  exact compL_noE)
def lc2Q (F : Fns) (own : List Nat) (tg : T) (cnd : List E) (vs1 : List Nat) (tg1 : T) (it1 : E) (cnd1 : List E) (elt : E) (g : Hs → Prop) (ds : List D) (r : Env1) (h : Hs) (Q : List D → Hs → Prop) : Prop :=
  OkV noE (comp2L (fun d acc h2 => match bindT tg d (wipeE r own) h2 with
        | some r2 => (tss (dens F cnd) r2 h2).bind fun b h3 => if b = true then ((den F it1).i r2 h3).bind fun p1 h4 => compL (turn1 vs1 tg1 (dens F cnd1) (den F elt) r2) (stays p1.2 h4) p1.1 acc h4 else .ok acc h3
        | none => .stuck) g ds [] h) Q
theorem sq_lc2 (own : List Nat) (tg : T) (it : E) (cnd : List E) (vs1 : List Nat) (tg1 : T) (it1 : E) (cnd1 : List E) (elt : E) : OkV XQ ((den F (.lc2 own tg it cnd vs1 tg1 it1 cnd1 elt)).v r h) QD = OkV XQ ((den F it).i r h) fun p h1 => lc2Q F own tg cnd vs1 tg1 it1 cnd1 elt (stays p.2 h1) p.1 r h1 fun ys h2 => QD (.lst ys) h2 := by
  show OkV XQ (lc2D own tg (den F it) (dens F cnd) vs1 tg1 (den F it1) (dens F cnd1) (den F elt) r h) QD = _
  unfold lc2D
  rw [ok_bind]
  congr 1
  funext p h1
  rw [ok_bind]
  exact comp2L_noE
theorem sq_aug (i : Nat) (op : Bop) (e : E) : OkS XQ (exS F (.aug i op e) r h) Q = varQ r i fun x => OkV XQ ((den F e).v r h) fun y h1 => OkV XQ (binD op x y h1) fun z h2 => Q .nx (r.set i (some z)) h2 := by
  show OkS XQ (match r[i]? with | some (some x) => ((den F e).v r h).os r fun y h1 => (binD op x y h1).os r fun z h2 => .ok .nx (r.set i (some z)) h2 | _ => .stuck) Q = _
  rw [varQ_eq]
  cases r[i]? with
  | none => rfl
  | some x =>
    cases x with
    | none => rfl
    | some x => simp only [ok_os]; rfl
/-- a for's turn -/
def turnQ (XQ : D → Hs → Prop) (F : Fns) (t : T) (b : List S) (d : D) (r : Env1) (h : Hs) (Q : Fl → Env1 → Hs → Prop) : Prop := bindQ t d r h fun r1 => OkS XQ (exSs F b r1 h) Q
/-- a for over a list: I by what is left -/
theorem ok_for_ {t : T} {b : List S} {g : Hs → Prop} (I : List D → Env1 → Hs → Prop) {ds : List D} (hi : I ds r h) (he : ∀ r h, I [] r h → Q .nx r h)
    (hs : ∀ d ds r h, I (d :: ds) r h → turnQ XQ F t b d r h fun fl r1 h1 => match fl with
      | .nx => g h1 ∧ I ds r1 h1
      | .ct => g h1 ∧ I ds r1 h1
      | .bk => Q .nx r1 h1
      | .rt v => Q (.rt v) r1 h1) : forQ XQ F t b g ds r h Q := by
  refine ok_forL I he (fun d ds r h i => ?_) hi
  have q := hs d ds r h i
  unfold turnQ bindQ at q
  cases e : bindT t d r h with
  | none => rw [e] at q; exact q.elim
  | some r1 => rw [e] at q; exact q
/-- a comprehension's turn -/
def compQ (F : Fns) (own : List Nat) (tg : T) (cnd : List E) (elt : E) (r : Env1) (d : D) (h : Hs) (Q : Option D → Hs → Prop) : Prop :=
  bindQ tg d (wipeE r own) h fun r2 => OkV noE (tss (dens F cnd) r2 h) fun b h3 => if b = true then OkV noE ((den F elt).v r2 h3) fun y h4 => Q (some y) h4 else Q none h3
theorem comp_eq {own : List Nat} {tg : T} {cnd : List E} {elt : E} {d : D} {Q : Option D → Hs → Prop} : OkV noE (match bindT tg d (wipeE r own) h with
        | some r2 => (tss (dens F cnd) r2 h).bind fun b h3 => if b = true then ((den F elt).v r2 h3).bind fun y h4 => .ok (some y) h4 else .ok none h3
        | none => .stuck) Q = compQ F own tg cnd elt r d h Q := by
  unfold compQ bindQ
  cases bindT tg d (wipeE r own) h with
  | none => rfl
  | some r2 =>
    dsimp only
    rw [ok_bind]
    congr 1
    funext b h3
    rw [ok_ite]
    simp only [ok_bind, ok_ok]
def lcA (F : Fns) (own : List Nat) (tg : T) (cnd : List E) (elt : E) (g : Hs → Prop) (ds : List D) (r : Env1) (acc : List D) (h : Hs) (Q : List D → Hs → Prop) : Prop := OkV noE (compL (turn1 own tg (dens F cnd) (den F elt) r) g ds acc h) Q
def lc2A (F : Fns) (own : List Nat) (tg : T) (cnd : List E) (vs1 : List Nat) (tg1 : T) (it1 : E) (cnd1 : List E) (elt : E) (g : Hs → Prop) (ds : List D) (r : Env1) (acc : List D) (h : Hs) (Q : List D → Hs → Prop) : Prop :=
  OkV noE (comp2L (fun d acc h2 => match bindT tg d (wipeE r own) h2 with
        | some r2 => (tss (dens F cnd) r2 h2).bind fun b h3 => if b = true then ((den F it1).i r2 h3).bind fun p1 h4 => compL (turn1 vs1 tg1 (dens F cnd1) (den F elt) r2) (stays p1.2 h4) p1.1 acc h4 else .ok acc h3
        | none => .stuck) g ds acc h) Q
theorem lc2Q_eq {own : List Nat} {tg : T} {cnd : List E} {vs1 : List Nat} {tg1 : T} {it1 : E} {cnd1 : List E} {elt : E} {g : Hs → Prop} {ds : List D} {Q : List D → Hs → Prop} : lc2Q F own tg cnd vs1 tg1 it1 cnd1 elt g ds r h Q = lc2A F own tg cnd vs1 tg1 it1 cnd1 elt g ds r [] h Q := rfl
theorem lcA_nil {own : List Nat} {tg : T} {cnd : List E} {elt : E} {g : Hs → Prop} {acc : List D} {Q : List D → Hs → Prop} : lcA F own tg cnd elt g [] r acc h Q = Q acc h := by
  unfold lcA compL; rfl
def accQ (g : Hs → Prop) (k : List D → Hs → Prop) (acc : List D) (o : Option D) (h : Hs) : Prop := match o with
  | none => g h ∧ k acc h
  | some y => g h ∧ isLoc y = false ∧ acc.length < sizeLine ∧ k (acc ++ [y]) h
theorem accQ_none {g : Hs → Prop} {k : List D → Hs → Prop} {acc : List D} : accQ g k acc none h = (g h ∧ k acc h) := rfl
theorem accQ_some {g : Hs → Prop} {k : List D → Hs → Prop} {acc : List D} {y : D} : accQ g k acc (some y) h = (g h ∧ isLoc y = false ∧ acc.length < sizeLine ∧ k (acc ++ [y]) h) := rfl
open Classical in
theorem lcA_cons {own : List Nat} {tg : T} {cnd : List E} {elt : E} {g : Hs → Prop} {d : D} {ds acc : List D} {Q : List D → Hs → Prop} : lcA F own tg cnd elt g (d :: ds) r acc h Q = compQ F own tg cnd elt r d h fun o h1 => accQ g (fun acc' h' => lcA F own tg cnd elt g ds r acc' h' Q) acc o h1 := by
  unfold lcA
  rw [← comp_eq]
  show OkV noE (compL (turn1 own tg (dens F cnd) (den F elt) r) g (d :: ds) acc h) Q = OkV noE (turn1 own tg (dens F cnd) (den F elt) r d h) _
  rw [compL]
  cases turn1 own tg (dens F cnd) (den F elt) r d h with
  | stuck => rfl
  | exc a b => rfl
  | ok o h1 =>
    cases o with
    | none =>
      dsimp only
      rw [ok_dite]; rfl
    | some y =>
      dsimp only
      rw [ok_dite, ok_dite, ok_ok, accQ_some]
      simp only [Bool.and_eq_true, Bool.not_eq_true', decide_eq_true_eq, and_assoc]
theorem lc2A_nil {own : List Nat} {tg : T} {cnd : List E} {vs1 : List Nat} {tg1 : T} {it1 : E} {cnd1 : List E} {elt : E} {g : Hs → Prop} {acc : List D} {Q : List D → Hs → Prop} : lc2A F own tg cnd vs1 tg1 it1 cnd1 elt g [] r acc h Q = Q acc h := by
  unfold lc2A comp2L; rfl
open Classical in
theorem lc2A_cons {own : List Nat} {tg : T} {cnd : List E} {vs1 : List Nat} {tg1 : T} {it1 : E} {cnd1 : List E} {elt : E} {g : Hs → Prop} {d : D} {ds acc : List D} {Q : List D → Hs → Prop} :
    lc2A F own tg cnd vs1 tg1 it1 cnd1 elt g (d :: ds) r acc h Q = bindQ tg d (wipeE r own) h fun r2 => OkV noE (tss (dens F cnd) r2 h) fun b h3 => if b = true then OkV noE ((den F it1).i r2 h3) fun p1 h4 => lcA F vs1 tg1 cnd1 elt (stays p1.2 h4) p1.1 r2 acc h4 fun acc' h5 => g h5 ∧ lc2A F own tg cnd vs1 tg1 it1 cnd1 elt g ds r acc' h5 Q
      else g h3 ∧ lc2A F own tg cnd vs1 tg1 it1 cnd1 elt g ds r acc h3 Q := by
  unfold lc2A bindQ
  rw [comp2L]
  cases bindT tg d (wipeE r own) h with
  | none => rfl
  | some r2 =>
    dsimp only
    cases tss (dens F cnd) r2 h with
    | stuck => rfl
    | exc a b => rfl
    | ok b h3 =>
      rw [ok_ok, Out.bind_ok]
      cases b with
      | false =>
        simp only [Bool.false_eq_true, if_false]
        rw [ok_dite]
      | true =>
        simp only [if_true]
        cases (den F it1).i r2 h3 with
        | stuck => rfl
        | exc a b => rfl
        | ok p1 h4 =>
          rw [ok_ok, Out.bind_ok]
          unfold lcA
          cases compL (turn1 vs1 tg1 (dens F cnd1) (den F elt) r2) (stays p1.2 h4) p1.1 acc h4 with
          | stuck => rfl
          | exc a b => rfl
          | ok acc' h5 =>
            dsimp only
            rw [ok_ok, ok_dite]
/-- [elt for tg in it if cnd]: I by what is left and what is made -/
theorem ok_lc_ {own : List Nat} {tg : T} {cnd : List E} {elt : E} {g : Hs → Prop} {Q : List D → Hs → Prop} (I : List D → List D → Hs → Prop) {ds : List D} (hi : I ds [] h) (he : ∀ acc h, I [] acc h → Q acc h)
    (hs : ∀ d ds acc h, I (d :: ds) acc h → compQ F own tg cnd elt r d h fun o h1 => match o with
      | none => g h1 ∧ I ds acc h1
      | some y => g h1 ∧ isLoc y = false ∧ acc.length < sizeLine ∧ I ds (acc ++ [y]) h1) :
    lcQ F own tg cnd elt g ds r h Q := by
  refine ok_compL I he (fun d ds acc h i => ?_) hi
  rw [comp_eq]
  exact hs d ds acc h i
/-- a pure comprehension: each item is kept as f of it, or dropped -/
theorem ok_lcp {own : List Nat} {tg : T} {cnd : List E} {elt : E} {g : Hs → Prop} {Q : List D → Hs → Prop} (f : D → Option D) {ds : List D} (hg : g h) (hz : ds.length ≤ sizeLine) (hs : ∀ d ∈ ds, compQ F own tg cnd elt r d h fun o h1 => h1 = h ∧ o = f d) (hl : ∀ d ∈ ds, ∀ y, f d = some y → isLoc y = false)
    (hQ : Q (ds.filterMap f) h) :
    lcQ F own tg cnd elt g ds r h Q := by
  refine ok_lc_ (fun es acc h' => h' = h ∧ ∃ p, ds = p ++ es ∧ acc = p.filterMap f) ⟨rfl, [], rfl, rfl⟩ ?_ ?_
  · rintro acc h' ⟨rfl, p, e, rfl⟩
    rw [List.append_nil] at e
    rw [← e]; exact hQ
  · rintro d es acc h' ⟨rfl, p, e, rfl⟩
    have m : d ∈ ds := by rw [e]; simp
    have q := hs d m
    unfold compQ bindQ at q ⊢
    cases eb : bindT tg d (wipeE r own) h' with
    | none => rw [eb] at q; exact q
    | some r2 =>
      rw [eb] at q
      refine OkV.mono q fun b h3 q => ?_
      have fin : ∀ (o : Option D) (h1 : Hs), (h1 = h' ∧ o = f d) → (match o with
        | none => g h1 ∧ h1 = h' ∧ ∃ p', ds = p' ++ es ∧ List.filterMap f p = p'.filterMap f
        | some y => g h1 ∧ isLoc y = false ∧ (p.filterMap f).length < sizeLine ∧ h1 = h' ∧ ∃ p', ds = p' ++ es ∧ List.filterMap f p ++ [y] = p'.filterMap f) := fun o h1 ⟨e1, e2⟩ => by
        subst e1
        cases o with
        | none => exact ⟨hg, rfl, p ++ [d], by simp [e], by simp [← e2]⟩
        | some y =>
          refine ⟨hg, hl d m y e2.symm, ?_, rfl, p ++ [d], by simp [e], by simp [← e2]⟩
          have := List.length_filterMap_le f p
          have : ds.length = p.length + es.length + 1 := by rw [e]; simp; omega
          omega
      cases b with
      | true => rw [if_pos rfl] at q ⊢; exact OkV.mono q fun y h4 q => fin _ _ q
      | false => exact fin _ _ q
/-- a call: the equation of its body -/
theorem call_eq {P : Nat → Option Fd} {n f : Nat} {us : List D} {kws : List (Nat × D)} {fd : Fd} (hP : P f = some fd) : OkV XQ (callN P (n + 1) f us kws h) QD = match bindD fd us kws with
    | none => False
    | some ds => OkS (fun e h' => XQ e (h'.take h.length)) (exSs (callN P n) fd.body (ds.map some ++ List.replicate (fd.ns - ds.length) none) h) fun fl _ h' => match fl with
      | .rt d => OkV XQ (finish fd.fresh h.length d h') QD
      | .nx => OkV XQ (finish fd.fresh h.length .non h') QD
      | _ => False := by
  rw [callN_succ, hP]
  dsimp only
  cases bindD fd us kws with
  | none => rfl
  | some ds =>
    dsimp only
    cases exSs (callN P n) fd.body (ds.map some ++ List.replicate (fd.ns - ds.length) none) h with
    | stuck => rfl
    | exc x y z => rfl
    | ok fl r1 h1 => cases fl <;> rfl
/-! ### the end of a call -/
theorem fin_int (fr : Bool) (L : Nat) (i : Int) : OkV XQ (finish fr L (.int i) h) QD = QD (.int i) (h.take L) := rfl
theorem fin_bl (fr : Bool) (L : Nat) (i : Bool) : OkV XQ (finish fr L (.bl i) h) QD = QD (.bl i) (h.take L) := rfl
theorem fin_non (fr : Bool) (L : Nat) : OkV XQ (finish fr L .non h) QD = QD .non (h.take L) := rfl
theorem fin_str (fr : Bool) (L : Nat) (i : Str) : OkV XQ (finish fr L (.str i) h) QD = QD (.str i) (h.take L) := rfl
theorem fin_tup (fr : Bool) (L : Nat) (i : List D) : OkV XQ (finish fr L (.tup i) h) QD = QD (.tup i) (h.take L) := rfl
theorem fin_lst (fr : Bool) (L : Nat) (i : List D) : OkV XQ (finish fr L (.lst i) h) QD = QD (.lst i) (h.take L) := rfl
theorem fin_ins (fr : Bool) (L c : Nat) (i : List (Nat × D)) : OkV XQ (finish fr L (.ins c i) h) QD = QD (.ins c i) (h.take L) := rfl
theorem fin_any {fr : Bool} {L : Nat} {d : D} (hd : isLoc d = false) : OkV XQ (finish fr L d h) QD = QD d (h.take L) := by
  cases d <;> first | rfl | cases hd
/-! ### displays -/
theorem mk_0 (c : List D → D) : mkQ c [] h QD = QD (c []) h := by unfold mkQ; simp [noLoc]
theorem mk_1 (c : List D → D) (a1 : D) : mkQ c [a1] h QD = (isLoc a1 = false ∧ QD (c [a1]) h) := by
  unfold mkQ noLoc; have : (1 : Nat) ≤ sizeLine := by decide
  simp [this]
theorem mk_cons (c : List D → D) (a : D) (l : List D) (hl : (a :: l).length ≤ sizeLine) : mkQ c (a :: l) h QD = (noLoc (a :: l) = true ∧ QD (c (a :: l)) h) := by
  unfold mkQ; simp only [hl, decide_true, Bool.and_true]
theorem noLoc_nil : noLoc [] = true := rfl
theorem noLoc_cons (a : D) (l : List D) : (noLoc (a :: l) = true) = (isLoc a = false ∧ noLoc l = true) := by unfold noLoc; simp
theorem isLoc_bl (i : Bool) : isLoc (.bl i) = false := rfl
theorem isLoc_str (i : Str) : isLoc (.str i) = false := rfl
theorem isLoc_non : isLoc .non = false := rfl
theorem isLoc_ins (c : Nat) (i : List (Nat × D)) : isLoc (.ins c i) = false := rfl
theorem isLoc_loc (i : Nat) : isLoc (.loc i) = true := rfl
theorem size_lt (n : Nat) (h : n < 1000) : n ≤ sizeLine := by rw [sizeLine_eq]; omega
/-! ### fields -/
def atQ (fs : List (Nat × D)) (f : Nat) (K : D → Prop) : Prop := match fs.lookup f with | some d => K d | none => False
theorem attr_ins (c f : Nat) (fs : List (Nat × D)) : OkV XQ (attrD (.ins c fs) f h) QD = atQ fs f fun d => QD d h := by
  unfold attrD atQ fldsOf
  dsimp only
  cases fs.lookup f <;> rfl
theorem attr_loc0 (c f : Nat) (fs : List (Nat × D)) (t : Hs) : OkV XQ (attrD (.loc 0) f (.ins c fs :: t)) QD = atQ fs f fun d => QD d (.ins c fs :: t) := by
  unfold attrD atQ fldsOf
  dsimp only [List.getElem?_cons_zero]
  cases fs.lookup f <;> rfl
theorem atQ_same (f : Nat) (d : D) (fs : List (Nat × D)) (K : D → Prop) : atQ ((f, d) :: fs) f K = K d := by unfold atQ; simp
theorem atQ_ne (f g : Nat) (d : D) (fs : List (Nat × D)) (K : D → Prop) (hne : (f == g) = false) : atQ ((g, d) :: fs) f K = atQ fs f K := by unfold atQ; simp [List.lookup_cons, hne]
theorem binF_add (F : Fns) (c : Nat) (fs gs : List (Nat × D)) : OkV XQ (binF F .add (.ins c fs) (.ins c gs) h) QD = OkV XQ (F (mid c 1) [.ins c fs, .ins c gs] [] h) QD := by simp [binF, clsOf, fldsOf]
theorem binF_sub (F : Fns) (c : Nat) (fs gs : List (Nat × D)) : OkV XQ (binF F .sub (.ins c fs) (.ins c gs) h) QD = OkV XQ (F (mid c 2) [.ins c fs, .ins c gs] [] h) QD := by simp [binF, clsOf, fldsOf]
theorem binF_mul (F : Fns) (c : Nat) (fs : List (Nat × D)) (i : Int) : OkV XQ (binF F .mul (.ins c fs) (.int i) h) QD = OkV XQ (F (mid c 3) [.ins c fs, .int i] [] h) QD := by simp [binF, clsOf, fldsOf]
theorem negF_ins (F : Fns) (c : Nat) (fs : List (Nat × D)) : OkV XQ (negF F (.ins c fs) h) QD = OkV XQ (F (mid c 4) [.ins c fs] [] h) QD := by simp [negF, clsOf, fldsOf]
theorem set_last (a b : Ob) : (h ++ [a]).set h.length b = h ++ [b] := by simp
/-- self.f = d in an __init__ -/
theorem setf_last {QU : Unit → Hs → Prop} (c f : Nat) (fs : List (Nat × D)) (d : D) : OkV XQ (setfD (.loc h.length) f d (h ++ [.ins c fs])) QU = ((!isLoc d && decide (fs.length < 1000)) = true ∧ QU () (h ++ [.ins c (putFd f d fs)])) := by
  unfold setfD
  simp only [List.getElem?_append_right (Nat.le_refl _), Nat.sub_self, List.getElem?_cons_zero, set_last]
  rw [ok_dite]; rfl
theorem putFd_nil (f : Nat) (d : D) : putFd f d [] = [(f, d)] := rfl
theorem putFd_ne (f g : Nat) (d e : D) (fs : List (Nat × D)) (hne : (g == f) = false) : putFd f d ((g, e) :: fs) = (g, e) :: putFd f d fs := by
  show (if g = f then _ else _) = _
  rw [if_neg (by simpa using hne)]
theorem demote_last (c : Nat) (fs : List (Nat × D)) : OkV XQ (demote false h.length (h ++ [.ins c fs])) QD = QD (.ins c fs) h := by
  unfold demote
  simp [OkV]
theorem attr_last (c f : Nat) (fs : List (Nat × D)) : OkV XQ (attrD (.loc h.length) f (h ++ [.ins c fs])) QD = atQ fs f fun d => QD d (h ++ [.ins c fs]) := by
  unfold attrD atQ fldsOf
  simp only [List.getElem?_append_right (Nat.le_refl _), Nat.sub_self, List.getElem?_cons_zero]
  cases fs.lookup f <;> rfl
end
end GY
namespace GY
open PySem PySem.Spec PyProof.Rows L2
theorem mul_sz : ((1 : Nat) ≤ sizeLine) = True := by simp [sizeLine_eq]
theorem look_nil {f : Nat} : List.lookup f ([] : List (Nat × D)) = none := rfl
theorem look_cons {f g : Nat} {d : D} {l : List (Nat × D)} (h : (f == g) = false) : List.lookup f ((g, d) :: l) = List.lookup f l := by rw [List.lookup_cons, h]
theorem cont_1 (c : Nat) : [c].contains c = true := by simp
theorem cont_2 (c d : Nat) : [c, d].contains d = true := by simp
theorem sm_nabs {k : Nat} {x : Int} (s : Sm k x) : Sm k (x.natAbs : Int) := by unfold Sm at *; simpa using s
theorem take_last {h : Hs} (a b : Ob) : List.take (h ++ [a]).length (h ++ [b]) = h ++ [b] := by
  rw [List.take_of_length_le]; simp
end GY
namespace GY
open PySem PySem.Spec PyProof.Rows L2
variable {XQ : D → Hs → Prop}
section
variable {F : Fns} {r : Env1} {h : Hs} {Q : Fl → Env1 → Hs → Prop} {QD : D → Hs → Prop} {QB : Bool → Hs → Prop} {QI : List D × D → Hs → Prop}
theorem sq_rse0 (c wf : Nat) (w : Str) : OkS XQ (exS F (.rse0 c wf w) r h) Q = XQ (.exc c [(wf, .str w)]) h := rfl
theorem sq_rse1 (c wf : Nat) (w : Str) (f : Nat) (e : E) : OkS XQ (exS F (.rse1 c wf w f e) r h) Q = OkV XQ ((den F e).v r h) fun d h1 => isLoc d = false ∧ XQ (.exc c [(f, d), (wf, .str w)]) h1 := by
  show OkS XQ (((den F e).v r h).os r fun d h1 => if isLoc d = false then .exc (.exc c [(f, d), (wf, .str w)]) r h1 else .stuck) Q = _
  rw [ok_os]
  congr 1
  funext d h1
  by_cases hl : isLoc d = false
  · rw [if_pos hl]; simp [hl]; rfl
  · rw [if_neg hl]; simp [hl]; exact id
def tellQ (ns cs : List Nat) (x : D) (h : Hs) (Q : D → Hs → Prop) : Prop := match tellX ns cs x with
  | some ds => mkQ .tup ds h Q
  | none => False
theorem tellQ_of {ns cs : List Nat} {x : D} {ds : List D} (e : tellX ns cs x = some ds) (q : mkQ .tup ds h QD) : tellQ ns cs x h QD := by unfold tellQ; rw [e]; exact q
theorem w_tryc (ns cs : List Nat) (e : E) : OkV XQ ((den F (.tryc ns cs e)).v r h) QD = OkV (fun x h1 => tellQ ns cs x h1 QD) ((den F e).v r h) fun d h1 => mkQ .tup [.str "told", d] h1 QD := by
  show OkV XQ (tryD ns cs ((den F e).v r h)) QD = _
  cases (den F e).v r h with
  | ok d h1 => exact ok_dite _ _
  | stuck => rfl
  | exc x h1 =>
    show OkV XQ (match tellX ns cs x with | some ds => mkTup ds h1 | none => .stuck) QD = tellQ ns cs x h1 QD
    unfold tellQ
    cases tellX ns cs x with
    | none => rfl
    | some ds => exact ok_dite _ _
def blS (x : D) (Q : Bool → Prop) : Prop := match x with | .bl b => Q b | _ => False
theorem blS_bl (b : Bool) (Q : Bool → Prop) : blS (.bl b) Q = Q b := rfl
theorem w_cmp3 (o1 o2 o3 : Cop) (a b c d : E) : OkV XQ ((den F (.cmp3 o1 o2 o3 a b c d)).v r h) QD = OkV XQ ((den F a).v r h) fun x h1 => OkV XQ ((den F b).v r h1) fun y h2 => OkV noE (cmpD o1 x y h2) fun t _ => blS t fun k =>
    if k = true then OkV XQ ((den F c).v r h2) fun w h4 => OkV noE (cmpD o2 y w h4) fun t2 _ => blS t2 fun k2 => if k2 = true then OkV XQ ((den F d).v r h4) fun u h6 => OkV XQ (cmpD o3 w u h6) QD else QD (.bl false) h4
    else QD (.bl false) h2 := by
  show OkV XQ (cmp3D o1 o2 o3 (den F a).v (den F b).v (den F c).v (den F d).v r h) QD = _
  unfold cmp3D
  rw [ok_bind]
  congr 1
  funext x h1
  rw [ok_bind]
  congr 1
  funext y h2
  cases cmpD o1 x y h2 with
  | stuck => rfl
  | exc e h3 => rfl
  | ok t h3 =>
    cases t <;> first | rfl | skip
    rename_i k
    cases k with
    | false => rfl
    | true =>
      show OkV XQ (((den F c).v r h2).bind _) QD = _
      rw [ok_bind, ok_ok, blS_bl, if_pos rfl]
      congr 1
      funext w h4
      cases cmpD o2 y w h4 with
      | stuck => rfl
      | exc e h3 => rfl
      | ok t h3 =>
        cases t <;> first | rfl | skip
        rename_i k
        cases k with
        | false => rfl
        | true =>
          show OkV XQ (((den F d).v r h4).bind _) QD = _
          rw [ok_bind, ok_ok, blS_bl, if_pos rfl]
theorem wt_cmp3 (o1 o2 o3 : Cop) (a b c d : E) : OkV XQ ((den F (.cmp3 o1 o2 o3 a b c d)).t r h) QB = OkV XQ ((den F (.cmp3 o1 o2 o3 a b c d)).v r h) fun d h1 => tstQ d h1 QB := ok_tst (den F (.cmp3 o1 o2 o3 a b c d)).v
theorem wt_tryc (ns cs : List Nat) (e : E) : OkV XQ ((den F (.tryc ns cs e)).t r h) QB = OkV XQ ((den F (.tryc ns cs e)).v r h) fun d h1 => tstQ d h1 QB := ok_tst (den F (.tryc ns cs e)).v
theorem wi_tryc (ns cs : List Nat) (e : E) : OkV XQ ((den F (.tryc ns cs e)).i r h) QI = OkV XQ ((den F (.tryc ns cs e)).v r h) fun d h1 => seqQ d h1 QI := ok_seqQ (den F (.tryc ns cs e)).v
end
end GY

namespace GY
open PySem PySem.Spec PyProof.Rows L2
variable {XQ : D → Hs → Prop}
section
variable {h : Hs} {Q : D → Hs → Prop}
theorem isT_int' (tys : List String) (i : Int) : OkV XQ (bltD (.isT tys) [.int i] h) Q = Q (.bl (isTy "int" tys)) h := rfl
theorem isT_bl' (tys : List String) (i : Bool) : OkV XQ (bltD (.isT tys) [.bl i] h) Q = Q (.bl (isTy "bool" tys)) h := rfl
theorem isT_str' (tys : List String) (i : Str) : OkV XQ (bltD (.isT tys) [.str i] h) Q = Q (.bl (isTy "str" tys)) h := rfl
theorem isT_non' (tys : List String) : OkV XQ (bltD (.isT tys) [.non] h) Q = Q (.bl (isTy "NoneType" tys)) h := rfl
theorem isT_tup' (tys : List String) (i : List D) : OkV XQ (bltD (.isT tys) [.tup i] h) Q = Q (.bl (isTy "tuple" tys)) h := rfl
theorem isT_lst' (tys : List String) (i : List D) : OkV XQ (bltD (.isT tys) [.lst i] h) Q = Q (.bl (isTy "list" tys)) h := rfl
theorem ty_1 : isTy "int" ["int"] = true := by decide
theorem ty_2 : isTy "tuple" ["tuple"] = true := by decide
theorem ty_3 : isTy "list" ["list"] = true := by decide
theorem ty_4 : isTy "bool" ["bool"] = true := by decide
theorem ty_5 : isTy "int" ["bool"] = false := by decide
theorem ty_6 : isTy "tuple" ["tuple", "list"] = true := by decide
theorem ty_7 : isTy "list" ["tuple", "list"] = true := by decide
theorem ty_8 : isTy "int" ["tuple"] = false := by decide
theorem ty_9 : isTy "list" ["tuple"] = false := by decide
theorem ty_10 : isTy "tuple" ["list"] = false := by decide
theorem ty_11 : isTy "str" ["str"] = true := by decide
theorem ty_12 : isTy "tuple" ["int"] = false := by decide
theorem ty_13 : isTy "bool" ["int"] = true := by decide
theorem ty_14 : isTy "tuple" ["list", "tuple"] = true := by decide
theorem ty_15 : isTy "list" ["list", "tuple"] = true := by decide
theorem ty_16 : isTy "NoneType" ["int"] = false := by decide
theorem ty_17 : isTy "NoneType" ["tuple"] = false := by decide
theorem cst_0 : (((0 : Nat)) : Int) = 0 := rfl
theorem cst_1 : (((1 : Nat)) : Int) = 1 := rfl
theorem cst_2 : (((2 : Nat)) : Int) = 2 := rfl
theorem cst_3 : (((3 : Nat)) : Int) = 3 := rfl
theorem cst_4 : (((4 : Nat)) : Int) = 4 := rfl
theorem cst_5 : (((5 : Nat)) : Int) = 5 := rfl
theorem cst_6 : (((6 : Nat)) : Int) = 6 := rfl
theorem abs_' (i : Int) : OkV XQ (bltD .abs_ [.int i] h) Q = Q (.int (i.natAbs : Nat)) h := rfl
end
end GY

namespace GY
open PySem PySem.Spec PyProof.Rows L2
variable {XQ : D → Hs → Prop}
section
variable {P : Nat → Option Fd} {i j n N k : Nat} {h : Hs} {ob : Ob} {Q : D → Hs → Prop}
theorem fin_plain {fr : Bool} {L : Nat} {d : D} {h : Hs} (hd : isLoc d = false) (hl : h.length ≤ L) : OkV XQ (finish fr L d h) Q = Q d h := by
  have e : finish fr L d h = .ok d h := by
    unfold finish
    split
    · cases hd
    · rw [List.take_of_length_le hl]
  rw [e]; rfl
theorem fin_cut {fr : Bool} {d : D} {h h' : Hs} (hd : isLoc d = false) : OkV XQ (finish fr h.length d (h ++ h')) Q = Q d h := by
  have e : finish fr h.length d (h ++ h') = .ok d h := by
    unfold finish
    split
    · cases hd
    · rw [List.take_left']; rfl
  rw [e]; rfl
theorem set_self (hg : h[n]? = some ob) : h.set n ob = h := by
  obtain ⟨hl, e⟩ := List.getElem?_eq_some_iff.mp hg
  rw [← e, List.set_getElem_self]
/-- the bag: what is drawn from -/
structure Bag (N : Nat) (ob : Ob) : Prop where
  ex : ∃ (cs : List Int) (a b c d : Int), ob = .lst [.lst (cs.map .int), .int a, .int b, .int c, .int d] ∧ 0 ≤ a ∧ 0 ≤ b ∧ 0 ≤ c ∧ Sm 31 c ∧ 0 ≤ d ∧ d ≤ N ∧ cs.length ≤ 64
theorem Bag.mono {M : Nat} (b : Bag N ob) (h : N ≤ M) : Bag M ob := by
  obtain ⟨cs, a, b, c, d, e, h1, h2, h3, h4, h5, h6, h7⟩ := b.ex
  exact ⟨cs, a, b, c, d, e, h1, h2, h3, h4, h5, by omega, h7⟩
def fdPull : Fd where
  npos := 2
  pdf := []
  kdf := []
  star := false
  fresh := false
  ns := 5
  body :=
   [.put (.var 0) (.con (.int 4)) (.bin .add (.idx (.var 0) (.con (.int 4))) (.con (.int 1))),
    .ifs (.band (.cmp .eq (.idx (.var 0) (.con (.int 2))) (.con (.int 0))) (.cmp .lt (.idx (.var 0) (.con (.int 1))) (.blt .len [.idx (.var 0) (.con (.int 0))])))
      [.asg (.nm 2) (.idx (.idx (.var 0) (.con (.int 0))) (.idx (.var 0) (.con (.int 1)))),
       .put (.var 0) (.con (.int 1)) (.bin .add (.idx (.var 0) (.con (.int 1))) (.con (.int 1))),
       .ifs (.cmp .ge (.var 2) (.bin .pow (.con (.int 10)) (.con (.int 18))))
         [.put (.var 0) (.con (.int 2)) (.var 2)]
         [.asg (.nm 3) (.bin .add (.bin .mul (.idx (.var 0) (.con (.int 3))) (.con (.int 40014))) (.bin .mul (.bin .mod (.var 2) (.con (.int 2147483399))) (.con (.int 69069)))),
          .put (.var 0) (.con (.int 3)) (.bin .mod (.bin .add (.var 3) (.con (.int 11))) (.con (.int 2147483399)))]]
      [],
    .ifs (.cmp .gt (.idx (.var 0) (.con (.int 2))) (.con (.int 0)))
      [.asg (.nm 4) (.bin .mod (.idx (.var 0) (.con (.int 2))) (.var 1)),
       .put (.var 0) (.con (.int 2)) (.bin .fdiv (.idx (.var 0) (.con (.int 2))) (.var 1)),
       .ret (.var 4)]
      [],
    .asg (.nm 3) (.bin .add (.bin .mul (.bin .mul (.idx (.var 0) (.con (.int 3))) (.idx (.var 0) (.con (.int 3)))) (.con (.int 7))) (.bin .mul (.idx (.var 0) (.con (.int 3))) (.con (.int 40692)))),
    .put (.var 0) (.con (.int 3)) (.bin .mod (.bin .add (.var 3) (.bin .mul (.con (.int 1013904223)) (.idx (.var 0) (.con (.int 4))))) (.con (.int 2147483399))),
    .ret (.bin .mod (.bin .fdiv (.idx (.var 0) (.con (.int 3))) (.con (.int 37))) (.var 1))]
theorem sm_mod (x : Int) : Sm 31 (x % 2147483399) ∧ 0 ≤ x % 2147483399 := by
  have h1 := Int.emod_nonneg x (show (2147483399 : Int) ≠ 0 by decide)
  have h2 := Int.emod_lt_of_pos x (show (0 : Int) < 2147483399 by decide)
  exact ⟨Sm.of 31 (by omega) (by omega), h1⟩
theorem smc {k : Nat} {x : Int} (h : decide (-(2 ^ k) < x ∧ x < 2 ^ k) = true := by decide +kernel) : Sm k x := Sm.of k (of_decide_eq_true h).1 (of_decide_eq_true h).2
theorem atI_in {ds : List D} {f : Int} (h0 : 0 ≤ f) (h1 : f < ds.length) : ∃ d, d ∈ ds ∧ atI ds f = some d := by
  obtain ⟨m, rfl⟩ := Int.eq_ofNat_of_zero_le h0
  have hm : m < ds.length := by omega
  exact ⟨ds[m], List.getElem_mem hm, atI_nat (List.getElem?_eq_getElem hm)⟩
/-- the second half of pull: the bag holds a number, or mixes -/
theorem pull_ok (hP : P i = some fdPull) (hN : N < 1000000000) {s : Int} (hg : h[n]? = some ob) (hb : Bag N ob) (hs : 0 < s) (hs2 : Sm 8999 s)
    (hQ : ∀ f ob', 0 ≤ f → f < s → Bag (N + 1) ob' → Q (.int f) (h.set n ob')) : OkV XQ (callN P (k + 1) i [.loc n, .int s] [] h) Q := by
  obtain ⟨cs, a, b, c, d, rfl, ha, hb, hc, hc2, hd, hd2, hcl⟩ := hb
  have hn : n < h.length := (List.getElem?_eq_some_iff.mp hg).1
  have hlog : s.natAbs.log2 < 9000 := log2_lt (hs2.mono (by decide)) (by decide)
  rw [← set_self hg]
  refine ok_call hP rfl ?_
  simp only [fdPull]
  refine ok_cons (ok_put ?_)
  simp only [ok_ok, ok_bind, ok_os, oks_ok, after1_nx, after1_rt, after1_bk, after1_ct, w_con, w_var, varQ_z, varQ_s, w_bin, w_neg, negQ_int, w_not, notQ_bl, w_band, andQ_bl, w_bor, orQ_bl, w_cmp, w_ite, w_tup, w_lst, w_lnew, w_idx, w_slc, w_evo_none, w_evo_some, intQ_int, w_call, w_blt, w_app, w_bitl, bitQ_int, wt_bitl, wi_bitl, wb_shl, w_nil, w_cons,
wt_con, wt_var, wt_bin, wt_neg, wt_cmp, wt_cmp2, wt_tup, wt_lst, wt_lnew, wt_idx, wt_slc, wt_call, wt_blt, wt_lc, wt_app, wi_con, wi_var, wi_bin, wi_neg, wi_cmp, wi_cmp2, wi_tup, wi_lst, wi_lnew, wi_idx, wi_slc, wi_call, wi_blt, wi_lc, wi_app, seqQ_tup, seqQ_lst, seqQ_frz, seqQ_loc, tt_not, tt_band, tt_bor, tt_ite, tstQ_bl, tstQ_non, tstQ_int, tstQ_lst, tstQ_tup, wi_rng, rngQ_int, wi_rng2, rng2Q_int, w_lc,
wF_lt, wF_le, wF_gt, wF_ge, wF_isN, wF_notN, wF_eq_int, wF_eq_bl, wF_eq_str, wF_eq_tup, wF_eq_lst, wF_eq_frz, wF_eq_non, wF_ne_int, wF_ne_bl, wF_ne_str, wF_ne_tup, wF_ne_lst, wF_ne_frz, wF_ne_non, wF_isIn_tup, wF_isIn_lst, wF_isIn_frz, wF_notIn_tup, wF_notIn_lst, wF_notIn_frz, wF_eq_ins, wF_eq_insT, wF_eq_insN, wF_eq_insI, wF_ne_ins, wF_bol_ins, blQ_bl, w_bol, wt_bol, wt_lc2, wi_lc2, wbF_int, wbF_lst, wbF_tup, wbF_str, wb_add, wb_sub, wb_mul, wb_fdiv, wb_mod, wb_pow, wb_ladd, wc_lt, wc_le, wc_gt, wc_ge, wc_eq_int, wc_ne_int, wc_eq_bl, wc_ne_bl, wc_isN_int, wc_isN_bl, wc_isN_non, wc_notN_int, wc_notN_tup, wc_notN_non, w_idxD, seq_lst, seq_tup, seq_frz, seq_0, seq_s, len_lst, len_tup, isLoc_int, isLoc_lst, isLoc_tup, ok_ite, mkQ_eq, tss_nil, tss_cons, bindT, bindTs, wipeE, List.zip_nil_left, List.zip_nil_right, List.zip_cons_cons, List.map_nil, List.map_cons, List.nil_append, List.cons_append, List.length_nil, List.length_cons, List.replicate_zero, List.replicate_succ, List.set_cons_zero, List.set_cons_succ, Nat.reduceAdd, Nat.reduceSub, Bool.false_eq_true, Bool.true_eq_false, if_true, if_false, ite_true, ite_false, idxQ_0, idxQ_1, idxQ_2, idxQ_3, idxQ_4, idxQ_5, idxQ_6, idxQ_7, idxQ_8, idxQ_9, idxQ_10, idxQ_11, putQ_0, putQ_1, putQ_2, putQ_3, putQ_4, putQ_5, seq_set hn, w_put _ _ hn]
  refine ⟨trivial, ?_⟩
  have hd3 : d + 1 ≤ (N : Int) + 1 := by omega
  -- what the end needs
  have fin : ∀ (a' b' c' : Int) (x y : Option D), 0 ≤ a' → 0 ≤ b' → 0 ≤ c' → Sm 31 c' →
      OkS noE (exSs (callN P k) [.ifs (.cmp .gt (.idx (.var 0) (.con (.int 2))) (.con (.int 0)))
      [.asg (.nm 4) (.bin .mod (.idx (.var 0) (.con (.int 2))) (.var 1)),
       .put (.var 0) (.con (.int 2)) (.bin .fdiv (.idx (.var 0) (.con (.int 2))) (.var 1)),
       .ret (.var 4)]
      [],
    .asg (.nm 3) (.bin .add (.bin .mul (.bin .mul (.idx (.var 0) (.con (.int 3))) (.idx (.var 0) (.con (.int 3)))) (.con (.int 7))) (.bin .mul (.idx (.var 0) (.con (.int 3))) (.con (.int 40692)))),
    .put (.var 0) (.con (.int 3)) (.bin .mod (.bin .add (.var 3) (.bin .mul (.con (.int 1013904223)) (.idx (.var 0) (.con (.int 4))))) (.con (.int 2147483399))),
    .ret (.bin .mod (.bin .fdiv (.idx (.var 0) (.con (.int 3))) (.con (.int 37))) (.var 1))] [some (.loc n), some (.int s), x, y, none] (h.set n (.lst [.lst (cs.map .int), .int a', .int b', .int c', .int (d + 1)])))
      fun fl _ h' => match fl with
      | .rt v => OkV XQ (finish false (h.set n (.lst [.lst (cs.map .int), .int a, .int b, .int c, .int d])).length v h') Q
      | .nx => OkV XQ (finish false (h.set n (.lst [.lst (cs.map .int), .int a, .int b, .int c, .int d])).length .non h') Q
      | _ => False := by
    intro a' b' c' x y ha' hb' hc' hc2'
    refine ok_cons (ok_if ?_)
    simp only [ok_ok, ok_bind, ok_os, oks_ok, after1_nx, after1_rt, after1_bk, after1_ct, w_con, w_var, varQ_z, varQ_s, w_bin, w_neg, negQ_int, w_not, notQ_bl, w_band, andQ_bl, w_bor, orQ_bl, w_cmp, w_ite, w_tup, w_lst, w_lnew, w_idx, w_slc, w_evo_none, w_evo_some, intQ_int, w_call, w_blt, w_app, w_bitl, bitQ_int, wt_bitl, wi_bitl, wb_shl, w_nil, w_cons,
wt_con, wt_var, wt_bin, wt_neg, wt_cmp, wt_cmp2, wt_tup, wt_lst, wt_lnew, wt_idx, wt_slc, wt_call, wt_blt, wt_lc, wt_app, wi_con, wi_var, wi_bin, wi_neg, wi_cmp, wi_cmp2, wi_tup, wi_lst, wi_lnew, wi_idx, wi_slc, wi_call, wi_blt, wi_lc, wi_app, seqQ_tup, seqQ_lst, seqQ_frz, seqQ_loc, tt_not, tt_band, tt_bor, tt_ite, tstQ_bl, tstQ_non, tstQ_int, tstQ_lst, tstQ_tup, wi_rng, rngQ_int, wi_rng2, rng2Q_int, w_lc,
wF_lt, wF_le, wF_gt, wF_ge, wF_isN, wF_notN, wF_eq_int, wF_eq_bl, wF_eq_str, wF_eq_tup, wF_eq_lst, wF_eq_frz, wF_eq_non, wF_ne_int, wF_ne_bl, wF_ne_str, wF_ne_tup, wF_ne_lst, wF_ne_frz, wF_ne_non, wF_isIn_tup, wF_isIn_lst, wF_isIn_frz, wF_notIn_tup, wF_notIn_lst, wF_notIn_frz, wF_eq_ins, wF_eq_insT, wF_eq_insN, wF_eq_insI, wF_ne_ins, wF_bol_ins, blQ_bl, w_bol, wt_bol, wt_lc2, wi_lc2, wbF_int, wbF_lst, wbF_tup, wbF_str, wb_add, wb_sub, wb_mul, wb_fdiv, wb_mod, wb_pow, wb_ladd, wc_lt, wc_le, wc_gt, wc_ge, wc_eq_int, wc_ne_int, wc_eq_bl, wc_ne_bl, wc_isN_int, wc_isN_bl, wc_isN_non, wc_notN_int, wc_notN_tup, wc_notN_non, w_idxD, seq_lst, seq_tup, seq_frz, seq_0, seq_s, len_lst, len_tup, isLoc_int, isLoc_lst, isLoc_tup, ok_ite, mkQ_eq, tss_nil, tss_cons, bindT, bindTs, wipeE, List.zip_nil_left, List.zip_nil_right, List.zip_cons_cons, List.map_nil, List.map_cons, List.nil_append, List.cons_append, List.length_nil, List.length_cons, List.replicate_zero, List.replicate_succ, List.set_cons_zero, List.set_cons_succ, Nat.reduceAdd, Nat.reduceSub, Bool.false_eq_true, Bool.true_eq_false, if_true, if_false, ite_true, ite_false, idxQ_0, idxQ_1, idxQ_2, idxQ_3, idxQ_4, idxQ_5, idxQ_6, idxQ_7, idxQ_8, idxQ_9, idxQ_10, idxQ_11, putQ_0, putQ_1, putQ_2, putQ_3, putQ_4, putQ_5, seq_set hn]
    by_cases hb0 : 0 < b'
    · rw [if_pos (by simpa using hb0)]
      refine ok_cons (ok_asg ?_)
      simp only [ok_ok, ok_bind, ok_os, oks_ok, after1_nx, after1_rt, after1_bk, after1_ct, w_con, w_var, varQ_z, varQ_s, w_bin, w_neg, negQ_int, w_not, notQ_bl, w_band, andQ_bl, w_bor, orQ_bl, w_cmp, w_ite, w_tup, w_lst, w_lnew, w_idx, w_slc, w_evo_none, w_evo_some, intQ_int, w_call, w_blt, w_app, w_bitl, bitQ_int, wt_bitl, wi_bitl, wb_shl, w_nil, w_cons,
wt_con, wt_var, wt_bin, wt_neg, wt_cmp, wt_cmp2, wt_tup, wt_lst, wt_lnew, wt_idx, wt_slc, wt_call, wt_blt, wt_lc, wt_app, wi_con, wi_var, wi_bin, wi_neg, wi_cmp, wi_cmp2, wi_tup, wi_lst, wi_lnew, wi_idx, wi_slc, wi_call, wi_blt, wi_lc, wi_app, seqQ_tup, seqQ_lst, seqQ_frz, seqQ_loc, tt_not, tt_band, tt_bor, tt_ite, tstQ_bl, tstQ_non, tstQ_int, tstQ_lst, tstQ_tup, wi_rng, rngQ_int, wi_rng2, rng2Q_int, w_lc,
wF_lt, wF_le, wF_gt, wF_ge, wF_isN, wF_notN, wF_eq_int, wF_eq_bl, wF_eq_str, wF_eq_tup, wF_eq_lst, wF_eq_frz, wF_eq_non, wF_ne_int, wF_ne_bl, wF_ne_str, wF_ne_tup, wF_ne_lst, wF_ne_frz, wF_ne_non, wF_isIn_tup, wF_isIn_lst, wF_isIn_frz, wF_notIn_tup, wF_notIn_lst, wF_notIn_frz, wF_eq_ins, wF_eq_insT, wF_eq_insN, wF_eq_insI, wF_ne_ins, wF_bol_ins, blQ_bl, w_bol, wt_bol, wt_lc2, wi_lc2, wbF_int, wbF_lst, wbF_tup, wbF_str, wb_add, wb_sub, wb_mul, wb_fdiv, wb_mod, wb_pow, wb_ladd, wc_lt, wc_le, wc_gt, wc_ge, wc_eq_int, wc_ne_int, wc_eq_bl, wc_ne_bl, wc_isN_int, wc_isN_bl, wc_isN_non, wc_notN_int, wc_notN_tup, wc_notN_non, w_idxD, seq_lst, seq_tup, seq_frz, seq_0, seq_s, len_lst, len_tup, isLoc_int, isLoc_lst, isLoc_tup, ok_ite, mkQ_eq, tss_nil, tss_cons, bindT, bindTs, wipeE, List.zip_nil_left, List.zip_nil_right, List.zip_cons_cons, List.map_nil, List.map_cons, List.nil_append, List.cons_append, List.length_nil, List.length_cons, List.replicate_zero, List.replicate_succ, List.set_cons_zero, List.set_cons_succ, Nat.reduceAdd, Nat.reduceSub, Bool.false_eq_true, Bool.true_eq_false, if_true, if_false, ite_true, ite_false, idxQ_0, idxQ_1, idxQ_2, idxQ_3, idxQ_4, idxQ_5, idxQ_6, idxQ_7, idxQ_8, idxQ_9, idxQ_10, idxQ_11, putQ_0, putQ_1, putQ_2, putQ_3, putQ_4, putQ_5, seq_set hn]
      refine ⟨hs, ?_⟩
      refine ok_cons (ok_put ?_)
      simp only [ok_ok, ok_bind, ok_os, oks_ok, after1_nx, after1_rt, after1_bk, after1_ct, w_con, w_var, varQ_z, varQ_s, w_bin, w_neg, negQ_int, w_not, notQ_bl, w_band, andQ_bl, w_bor, orQ_bl, w_cmp, w_ite, w_tup, w_lst, w_lnew, w_idx, w_slc, w_evo_none, w_evo_some, intQ_int, w_call, w_blt, w_app, w_bitl, bitQ_int, wt_bitl, wi_bitl, wb_shl, w_nil, w_cons,
wt_con, wt_var, wt_bin, wt_neg, wt_cmp, wt_cmp2, wt_tup, wt_lst, wt_lnew, wt_idx, wt_slc, wt_call, wt_blt, wt_lc, wt_app, wi_con, wi_var, wi_bin, wi_neg, wi_cmp, wi_cmp2, wi_tup, wi_lst, wi_lnew, wi_idx, wi_slc, wi_call, wi_blt, wi_lc, wi_app, seqQ_tup, seqQ_lst, seqQ_frz, seqQ_loc, tt_not, tt_band, tt_bor, tt_ite, tstQ_bl, tstQ_non, tstQ_int, tstQ_lst, tstQ_tup, wi_rng, rngQ_int, wi_rng2, rng2Q_int, w_lc,
wF_lt, wF_le, wF_gt, wF_ge, wF_isN, wF_notN, wF_eq_int, wF_eq_bl, wF_eq_str, wF_eq_tup, wF_eq_lst, wF_eq_frz, wF_eq_non, wF_ne_int, wF_ne_bl, wF_ne_str, wF_ne_tup, wF_ne_lst, wF_ne_frz, wF_ne_non, wF_isIn_tup, wF_isIn_lst, wF_isIn_frz, wF_notIn_tup, wF_notIn_lst, wF_notIn_frz, wF_eq_ins, wF_eq_insT, wF_eq_insN, wF_eq_insI, wF_ne_ins, wF_bol_ins, blQ_bl, w_bol, wt_bol, wt_lc2, wi_lc2, wbF_int, wbF_lst, wbF_tup, wbF_str, wb_add, wb_sub, wb_mul, wb_fdiv, wb_mod, wb_pow, wb_ladd, wc_lt, wc_le, wc_gt, wc_ge, wc_eq_int, wc_ne_int, wc_eq_bl, wc_ne_bl, wc_isN_int, wc_isN_bl, wc_isN_non, wc_notN_int, wc_notN_tup, wc_notN_non, w_idxD, seq_lst, seq_tup, seq_frz, seq_0, seq_s, len_lst, len_tup, isLoc_int, isLoc_lst, isLoc_tup, ok_ite, mkQ_eq, tss_nil, tss_cons, bindT, bindTs, wipeE, List.zip_nil_left, List.zip_nil_right, List.zip_cons_cons, List.map_nil, List.map_cons, List.nil_append, List.cons_append, List.length_nil, List.length_cons, List.replicate_zero, List.replicate_succ, List.set_cons_zero, List.set_cons_succ, Nat.reduceAdd, Nat.reduceSub, Bool.false_eq_true, Bool.true_eq_false, if_true, if_false, ite_true, ite_false, idxQ_0, idxQ_1, idxQ_2, idxQ_3, idxQ_4, idxQ_5, idxQ_6, idxQ_7, idxQ_8, idxQ_9, idxQ_10, idxQ_11, putQ_0, putQ_1, putQ_2, putQ_3, putQ_4, putQ_5, seq_set hn, w_put _ _ hn]
      refine ⟨⟨hs, hlog⟩, trivial, ?_⟩
      refine ok_one (ok_ret ?_)
      simp only [ok_ok, ok_bind, ok_os, oks_ok, after1_nx, after1_rt, after1_bk, after1_ct, w_con, w_var, varQ_z, varQ_s, w_bin, w_neg, negQ_int, w_not, notQ_bl, w_band, andQ_bl, w_bor, orQ_bl, w_cmp, w_ite, w_tup, w_lst, w_lnew, w_idx, w_slc, w_evo_none, w_evo_some, intQ_int, w_call, w_blt, w_app, w_bitl, bitQ_int, wt_bitl, wi_bitl, wb_shl, w_nil, w_cons,
wt_con, wt_var, wt_bin, wt_neg, wt_cmp, wt_cmp2, wt_tup, wt_lst, wt_lnew, wt_idx, wt_slc, wt_call, wt_blt, wt_lc, wt_app, wi_con, wi_var, wi_bin, wi_neg, wi_cmp, wi_cmp2, wi_tup, wi_lst, wi_lnew, wi_idx, wi_slc, wi_call, wi_blt, wi_lc, wi_app, seqQ_tup, seqQ_lst, seqQ_frz, seqQ_loc, tt_not, tt_band, tt_bor, tt_ite, tstQ_bl, tstQ_non, tstQ_int, tstQ_lst, tstQ_tup, wi_rng, rngQ_int, wi_rng2, rng2Q_int, w_lc,
wF_lt, wF_le, wF_gt, wF_ge, wF_isN, wF_notN, wF_eq_int, wF_eq_bl, wF_eq_str, wF_eq_tup, wF_eq_lst, wF_eq_frz, wF_eq_non, wF_ne_int, wF_ne_bl, wF_ne_str, wF_ne_tup, wF_ne_lst, wF_ne_frz, wF_ne_non, wF_isIn_tup, wF_isIn_lst, wF_isIn_frz, wF_notIn_tup, wF_notIn_lst, wF_notIn_frz, wF_eq_ins, wF_eq_insT, wF_eq_insN, wF_eq_insI, wF_ne_ins, wF_bol_ins, blQ_bl, w_bol, wt_bol, wt_lc2, wi_lc2, wbF_int, wbF_lst, wbF_tup, wbF_str, wb_add, wb_sub, wb_mul, wb_fdiv, wb_mod, wb_pow, wb_ladd, wc_lt, wc_le, wc_gt, wc_ge, wc_eq_int, wc_ne_int, wc_eq_bl, wc_ne_bl, wc_isN_int, wc_isN_bl, wc_isN_non, wc_notN_int, wc_notN_tup, wc_notN_non, w_idxD, seq_lst, seq_tup, seq_frz, seq_0, seq_s, len_lst, len_tup, isLoc_int, isLoc_lst, isLoc_tup, ok_ite, mkQ_eq, tss_nil, tss_cons, bindT, bindTs, wipeE, List.zip_nil_left, List.zip_nil_right, List.zip_cons_cons, List.map_nil, List.map_cons, List.nil_append, List.cons_append, List.length_nil, List.length_cons, List.replicate_zero, List.replicate_succ, List.set_cons_zero, List.set_cons_succ, Nat.reduceAdd, Nat.reduceSub, Bool.false_eq_true, Bool.true_eq_false, if_true, if_false, ite_true, ite_false, idxQ_0, idxQ_1, idxQ_2, idxQ_3, idxQ_4, idxQ_5, idxQ_6, idxQ_7, idxQ_8, idxQ_9, idxQ_10, idxQ_11, putQ_0, putQ_1, putQ_2, putQ_3, putQ_4, putQ_5]
      rw [fin_plain rfl (by simp)]
      refine hQ _ _ (Int.emod_nonneg _ (by omega)) (Int.emod_lt_of_pos _ hs) ⟨cs, a', b' / s, c', d + 1, rfl, ha', Int.ediv_nonneg hb' (by omega), hc', hc2', by omega, by omega, hcl⟩
    · rw [if_neg (by simpa using hb0)]
      simp only [ok_nil, after1_nx]
      refine ok_cons (ok_asg ?_)
      simp only [ok_ok, ok_bind, ok_os, oks_ok, after1_nx, after1_rt, after1_bk, after1_ct, w_con, w_var, varQ_z, varQ_s, w_bin, w_neg, negQ_int, w_not, notQ_bl, w_band, andQ_bl, w_bor, orQ_bl, w_cmp, w_ite, w_tup, w_lst, w_lnew, w_idx, w_slc, w_evo_none, w_evo_some, intQ_int, w_call, w_blt, w_app, w_bitl, bitQ_int, wt_bitl, wi_bitl, wb_shl, w_nil, w_cons,
wt_con, wt_var, wt_bin, wt_neg, wt_cmp, wt_cmp2, wt_tup, wt_lst, wt_lnew, wt_idx, wt_slc, wt_call, wt_blt, wt_lc, wt_app, wi_con, wi_var, wi_bin, wi_neg, wi_cmp, wi_cmp2, wi_tup, wi_lst, wi_lnew, wi_idx, wi_slc, wi_call, wi_blt, wi_lc, wi_app, seqQ_tup, seqQ_lst, seqQ_frz, seqQ_loc, tt_not, tt_band, tt_bor, tt_ite, tstQ_bl, tstQ_non, tstQ_int, tstQ_lst, tstQ_tup, wi_rng, rngQ_int, wi_rng2, rng2Q_int, w_lc,
wF_lt, wF_le, wF_gt, wF_ge, wF_isN, wF_notN, wF_eq_int, wF_eq_bl, wF_eq_str, wF_eq_tup, wF_eq_lst, wF_eq_frz, wF_eq_non, wF_ne_int, wF_ne_bl, wF_ne_str, wF_ne_tup, wF_ne_lst, wF_ne_frz, wF_ne_non, wF_isIn_tup, wF_isIn_lst, wF_isIn_frz, wF_notIn_tup, wF_notIn_lst, wF_notIn_frz, wF_eq_ins, wF_eq_insT, wF_eq_insN, wF_eq_insI, wF_ne_ins, wF_bol_ins, blQ_bl, w_bol, wt_bol, wt_lc2, wi_lc2, wbF_int, wbF_lst, wbF_tup, wbF_str, wb_add, wb_sub, wb_mul, wb_fdiv, wb_mod, wb_pow, wb_ladd, wc_lt, wc_le, wc_gt, wc_ge, wc_eq_int, wc_ne_int, wc_eq_bl, wc_ne_bl, wc_isN_int, wc_isN_bl, wc_isN_non, wc_notN_int, wc_notN_tup, wc_notN_non, w_idxD, seq_lst, seq_tup, seq_frz, seq_0, seq_s, len_lst, len_tup, isLoc_int, isLoc_lst, isLoc_tup, ok_ite, mkQ_eq, tss_nil, tss_cons, bindT, bindTs, wipeE, List.zip_nil_left, List.zip_nil_right, List.zip_cons_cons, List.map_nil, List.map_cons, List.nil_append, List.cons_append, List.length_nil, List.length_cons, List.replicate_zero, List.replicate_succ, List.set_cons_zero, List.set_cons_succ, Nat.reduceAdd, Nat.reduceSub, Bool.false_eq_true, Bool.true_eq_false, if_true, if_false, ite_true, ite_false, idxQ_0, idxQ_1, idxQ_2, idxQ_3, idxQ_4, idxQ_5, idxQ_6, idxQ_7, idxQ_8, idxQ_9, idxQ_10, idxQ_11, putQ_0, putQ_1, putQ_2, putQ_3, putQ_4, putQ_5, seq_set hn]
      refine ⟨hc2'.big hc2' (by decide) (by decide), (hc2'.mul hc2').big (smc (k := 3)) (by decide) (by decide), hc2'.big (smc (k := 20)) (by decide) (by decide), ?_⟩
      refine ok_cons (ok_put ?_)
      simp only [ok_ok, ok_bind, ok_os, oks_ok, after1_nx, after1_rt, after1_bk, after1_ct, w_con, w_var, varQ_z, varQ_s, w_bin, w_neg, negQ_int, w_not, notQ_bl, w_band, andQ_bl, w_bor, orQ_bl, w_cmp, w_ite, w_tup, w_lst, w_lnew, w_idx, w_slc, w_evo_none, w_evo_some, intQ_int, w_call, w_blt, w_app, w_bitl, bitQ_int, wt_bitl, wi_bitl, wb_shl, w_nil, w_cons,
wt_con, wt_var, wt_bin, wt_neg, wt_cmp, wt_cmp2, wt_tup, wt_lst, wt_lnew, wt_idx, wt_slc, wt_call, wt_blt, wt_lc, wt_app, wi_con, wi_var, wi_bin, wi_neg, wi_cmp, wi_cmp2, wi_tup, wi_lst, wi_lnew, wi_idx, wi_slc, wi_call, wi_blt, wi_lc, wi_app, seqQ_tup, seqQ_lst, seqQ_frz, seqQ_loc, tt_not, tt_band, tt_bor, tt_ite, tstQ_bl, tstQ_non, tstQ_int, tstQ_lst, tstQ_tup, wi_rng, rngQ_int, wi_rng2, rng2Q_int, w_lc,
wF_lt, wF_le, wF_gt, wF_ge, wF_isN, wF_notN, wF_eq_int, wF_eq_bl, wF_eq_str, wF_eq_tup, wF_eq_lst, wF_eq_frz, wF_eq_non, wF_ne_int, wF_ne_bl, wF_ne_str, wF_ne_tup, wF_ne_lst, wF_ne_frz, wF_ne_non, wF_isIn_tup, wF_isIn_lst, wF_isIn_frz, wF_notIn_tup, wF_notIn_lst, wF_notIn_frz, wF_eq_ins, wF_eq_insT, wF_eq_insN, wF_eq_insI, wF_ne_ins, wF_bol_ins, blQ_bl, w_bol, wt_bol, wt_lc2, wi_lc2, wbF_int, wbF_lst, wbF_tup, wbF_str, wb_add, wb_sub, wb_mul, wb_fdiv, wb_mod, wb_pow, wb_ladd, wc_lt, wc_le, wc_gt, wc_ge, wc_eq_int, wc_ne_int, wc_eq_bl, wc_ne_bl, wc_isN_int, wc_isN_bl, wc_isN_non, wc_notN_int, wc_notN_tup, wc_notN_non, w_idxD, seq_lst, seq_tup, seq_frz, seq_0, seq_s, len_lst, len_tup, isLoc_int, isLoc_lst, isLoc_tup, ok_ite, mkQ_eq, tss_nil, tss_cons, bindT, bindTs, wipeE, List.zip_nil_left, List.zip_nil_right, List.zip_cons_cons, List.map_nil, List.map_cons, List.nil_append, List.cons_append, List.length_nil, List.length_cons, List.replicate_zero, List.replicate_succ, List.set_cons_zero, List.set_cons_succ, Nat.reduceAdd, Nat.reduceSub, Bool.false_eq_true, Bool.true_eq_false, if_true, if_false, ite_true, ite_false, idxQ_0, idxQ_1, idxQ_2, idxQ_3, idxQ_4, idxQ_5, idxQ_6, idxQ_7, idxQ_8, idxQ_9, idxQ_10, idxQ_11, putQ_0, putQ_1, putQ_2, putQ_3, putQ_4, putQ_5, seq_set hn, w_put _ _ hn]
      have hd4 : Sm 31 (d + 1) := Sm.of 31 (by omega) (by omega)
      obtain ⟨m1, m2⟩ := sm_mod (c' * c' * 7 + c' * 40692 + 1013904223 * (d + 1))
      refine ⟨(smc (k := 30)).big hd4 (by decide) (by decide), by decide, trivial, ?_⟩
      refine ok_one (ok_ret ?_)
      simp only [ok_ok, ok_bind, ok_os, oks_ok, after1_nx, after1_rt, after1_bk, after1_ct, w_con, w_var, varQ_z, varQ_s, w_bin, w_neg, negQ_int, w_not, notQ_bl, w_band, andQ_bl, w_bor, orQ_bl, w_cmp, w_ite, w_tup, w_lst, w_lnew, w_idx, w_slc, w_evo_none, w_evo_some, intQ_int, w_call, w_blt, w_app, w_bitl, bitQ_int, wt_bitl, wi_bitl, wb_shl, w_nil, w_cons,
wt_con, wt_var, wt_bin, wt_neg, wt_cmp, wt_cmp2, wt_tup, wt_lst, wt_lnew, wt_idx, wt_slc, wt_call, wt_blt, wt_lc, wt_app, wi_con, wi_var, wi_bin, wi_neg, wi_cmp, wi_cmp2, wi_tup, wi_lst, wi_lnew, wi_idx, wi_slc, wi_call, wi_blt, wi_lc, wi_app, seqQ_tup, seqQ_lst, seqQ_frz, seqQ_loc, tt_not, tt_band, tt_bor, tt_ite, tstQ_bl, tstQ_non, tstQ_int, tstQ_lst, tstQ_tup, wi_rng, rngQ_int, wi_rng2, rng2Q_int, w_lc,
wF_lt, wF_le, wF_gt, wF_ge, wF_isN, wF_notN, wF_eq_int, wF_eq_bl, wF_eq_str, wF_eq_tup, wF_eq_lst, wF_eq_frz, wF_eq_non, wF_ne_int, wF_ne_bl, wF_ne_str, wF_ne_tup, wF_ne_lst, wF_ne_frz, wF_ne_non, wF_isIn_tup, wF_isIn_lst, wF_isIn_frz, wF_notIn_tup, wF_notIn_lst, wF_notIn_frz, wF_eq_ins, wF_eq_insT, wF_eq_insN, wF_eq_insI, wF_ne_ins, wF_bol_ins, blQ_bl, w_bol, wt_bol, wt_lc2, wi_lc2, wbF_int, wbF_lst, wbF_tup, wbF_str, wb_add, wb_sub, wb_mul, wb_fdiv, wb_mod, wb_pow, wb_ladd, wc_lt, wc_le, wc_gt, wc_ge, wc_eq_int, wc_ne_int, wc_eq_bl, wc_ne_bl, wc_isN_int, wc_isN_bl, wc_isN_non, wc_notN_int, wc_notN_tup, wc_notN_non, w_idxD, seq_lst, seq_tup, seq_frz, seq_0, seq_s, len_lst, len_tup, isLoc_int, isLoc_lst, isLoc_tup, ok_ite, mkQ_eq, tss_nil, tss_cons, bindT, bindTs, wipeE, List.zip_nil_left, List.zip_nil_right, List.zip_cons_cons, List.map_nil, List.map_cons, List.nil_append, List.cons_append, List.length_nil, List.length_cons, List.replicate_zero, List.replicate_succ, List.set_cons_zero, List.set_cons_succ, Nat.reduceAdd, Nat.reduceSub, Bool.false_eq_true, Bool.true_eq_false, if_true, if_false, ite_true, ite_false, idxQ_0, idxQ_1, idxQ_2, idxQ_3, idxQ_4, idxQ_5, idxQ_6, idxQ_7, idxQ_8, idxQ_9, idxQ_10, idxQ_11, putQ_0, putQ_1, putQ_2, putQ_3, putQ_4, putQ_5, seq_set hn]
      refine ⟨⟨by decide, by decide⟩, hs, ?_⟩
      rw [fin_plain rfl (by simp)]
      exact hQ _ _ (Int.emod_nonneg _ (by omega)) (Int.emod_lt_of_pos _ hs) ⟨cs, a', b', _, d + 1, rfl, ha', hb', m2, m1, by omega, by omega, hcl⟩
  refine ok_cons (ok_if ?_)
  simp only [ok_ok, ok_bind, ok_os, oks_ok, after1_nx, after1_rt, after1_bk, after1_ct, w_con, w_var, varQ_z, varQ_s, w_bin, w_neg, negQ_int, w_not, notQ_bl, w_band, andQ_bl, w_bor, orQ_bl, w_cmp, w_ite, w_tup, w_lst, w_lnew, w_idx, w_slc, w_evo_none, w_evo_some, intQ_int, w_call, w_blt, w_app, w_bitl, bitQ_int, wt_bitl, wi_bitl, wb_shl, w_nil, w_cons,
wt_con, wt_var, wt_bin, wt_neg, wt_cmp, wt_cmp2, wt_tup, wt_lst, wt_lnew, wt_idx, wt_slc, wt_call, wt_blt, wt_lc, wt_app, wi_con, wi_var, wi_bin, wi_neg, wi_cmp, wi_cmp2, wi_tup, wi_lst, wi_lnew, wi_idx, wi_slc, wi_call, wi_blt, wi_lc, wi_app, seqQ_tup, seqQ_lst, seqQ_frz, seqQ_loc, tt_not, tt_band, tt_bor, tt_ite, tstQ_bl, tstQ_non, tstQ_int, tstQ_lst, tstQ_tup, wi_rng, rngQ_int, wi_rng2, rng2Q_int, w_lc,
wF_lt, wF_le, wF_gt, wF_ge, wF_isN, wF_notN, wF_eq_int, wF_eq_bl, wF_eq_str, wF_eq_tup, wF_eq_lst, wF_eq_frz, wF_eq_non, wF_ne_int, wF_ne_bl, wF_ne_str, wF_ne_tup, wF_ne_lst, wF_ne_frz, wF_ne_non, wF_isIn_tup, wF_isIn_lst, wF_isIn_frz, wF_notIn_tup, wF_notIn_lst, wF_notIn_frz, wF_eq_ins, wF_eq_insT, wF_eq_insN, wF_eq_insI, wF_ne_ins, wF_bol_ins, blQ_bl, w_bol, wt_bol, wt_lc2, wi_lc2, wbF_int, wbF_lst, wbF_tup, wbF_str, wb_add, wb_sub, wb_mul, wb_fdiv, wb_mod, wb_pow, wb_ladd, wc_lt, wc_le, wc_gt, wc_ge, wc_eq_int, wc_ne_int, wc_eq_bl, wc_ne_bl, wc_isN_int, wc_isN_bl, wc_isN_non, wc_notN_int, wc_notN_tup, wc_notN_non, w_idxD, seq_lst, seq_tup, seq_frz, seq_0, seq_s, len_lst, len_tup, isLoc_int, isLoc_lst, isLoc_tup, ok_ite, mkQ_eq, tss_nil, tss_cons, bindT, bindTs, wipeE, List.zip_nil_left, List.zip_nil_right, List.zip_cons_cons, List.map_nil, List.map_cons, List.nil_append, List.cons_append, List.length_nil, List.length_cons, List.replicate_zero, List.replicate_succ, List.set_cons_zero, List.set_cons_succ, Nat.reduceAdd, Nat.reduceSub, Bool.false_eq_true, Bool.true_eq_false, if_true, if_false, ite_true, ite_false, idxQ_0, idxQ_1, idxQ_2, idxQ_3, idxQ_4, idxQ_5, idxQ_6, idxQ_7, idxQ_8, idxQ_9, idxQ_10, idxQ_11, putQ_0, putQ_1, putQ_2, putQ_3, putQ_4, putQ_5, seq_set hn]
  split
  · rename_i hb0
    split
    · rename_i hal
      have hal : a < cs.length := by simpa using hal
      refine ok_cons (ok_asg ?_)
      simp only [ok_ok, ok_bind, ok_os, oks_ok, after1_nx, after1_rt, after1_bk, after1_ct, w_con, w_var, varQ_z, varQ_s, w_bin, w_neg, negQ_int, w_not, notQ_bl, w_band, andQ_bl, w_bor, orQ_bl, w_cmp, w_ite, w_tup, w_lst, w_lnew, w_idx, w_slc, w_evo_none, w_evo_some, intQ_int, w_call, w_blt, w_app, w_bitl, bitQ_int, wt_bitl, wi_bitl, wb_shl, w_nil, w_cons,
wt_con, wt_var, wt_bin, wt_neg, wt_cmp, wt_cmp2, wt_tup, wt_lst, wt_lnew, wt_idx, wt_slc, wt_call, wt_blt, wt_lc, wt_app, wi_con, wi_var, wi_bin, wi_neg, wi_cmp, wi_cmp2, wi_tup, wi_lst, wi_lnew, wi_idx, wi_slc, wi_call, wi_blt, wi_lc, wi_app, seqQ_tup, seqQ_lst, seqQ_frz, seqQ_loc, tt_not, tt_band, tt_bor, tt_ite, tstQ_bl, tstQ_non, tstQ_int, tstQ_lst, tstQ_tup, wi_rng, rngQ_int, wi_rng2, rng2Q_int, w_lc,
wF_lt, wF_le, wF_gt, wF_ge, wF_isN, wF_notN, wF_eq_int, wF_eq_bl, wF_eq_str, wF_eq_tup, wF_eq_lst, wF_eq_frz, wF_eq_non, wF_ne_int, wF_ne_bl, wF_ne_str, wF_ne_tup, wF_ne_lst, wF_ne_frz, wF_ne_non, wF_isIn_tup, wF_isIn_lst, wF_isIn_frz, wF_notIn_tup, wF_notIn_lst, wF_notIn_frz, wF_eq_ins, wF_eq_insT, wF_eq_insN, wF_eq_insI, wF_ne_ins, wF_bol_ins, blQ_bl, w_bol, wt_bol, wt_lc2, wi_lc2, wbF_int, wbF_lst, wbF_tup, wbF_str, wb_add, wb_sub, wb_mul, wb_fdiv, wb_mod, wb_pow, wb_ladd, wc_lt, wc_le, wc_gt, wc_ge, wc_eq_int, wc_ne_int, wc_eq_bl, wc_ne_bl, wc_isN_int, wc_isN_bl, wc_isN_non, wc_notN_int, wc_notN_tup, wc_notN_non, w_idxD, seq_lst, seq_tup, seq_frz, seq_0, seq_s, len_lst, len_tup, isLoc_int, isLoc_lst, isLoc_tup, ok_ite, mkQ_eq, tss_nil, tss_cons, bindT, bindTs, wipeE, List.zip_nil_left, List.zip_nil_right, List.zip_cons_cons, List.map_nil, List.map_cons, List.nil_append, List.cons_append, List.length_nil, List.length_cons, List.replicate_zero, List.replicate_succ, List.set_cons_zero, List.set_cons_succ, Nat.reduceAdd, Nat.reduceSub, Bool.false_eq_true, Bool.true_eq_false, if_true, if_false, ite_true, ite_false, idxQ_0, idxQ_1, idxQ_2, idxQ_3, idxQ_4, idxQ_5, idxQ_6, idxQ_7, idxQ_8, idxQ_9, idxQ_10, idxQ_11, putQ_0, putQ_1, putQ_2, putQ_3, putQ_4, putQ_5, seq_set hn]
      obtain ⟨v, hv, ev⟩ := atI_in (ds := cs.map D.int) ha (by simpa using hal)
      obtain ⟨z, _, rfl⟩ := List.mem_map.mp hv
      refine ⟨_, ev, ?_⟩
      refine ok_cons (ok_put ?_)
      simp only [ok_ok, ok_bind, ok_os, oks_ok, after1_nx, after1_rt, after1_bk, after1_ct, w_con, w_var, varQ_z, varQ_s, w_bin, w_neg, negQ_int, w_not, notQ_bl, w_band, andQ_bl, w_bor, orQ_bl, w_cmp, w_ite, w_tup, w_lst, w_lnew, w_idx, w_slc, w_evo_none, w_evo_some, intQ_int, w_call, w_blt, w_app, w_bitl, bitQ_int, wt_bitl, wi_bitl, wb_shl, w_nil, w_cons,
wt_con, wt_var, wt_bin, wt_neg, wt_cmp, wt_cmp2, wt_tup, wt_lst, wt_lnew, wt_idx, wt_slc, wt_call, wt_blt, wt_lc, wt_app, wi_con, wi_var, wi_bin, wi_neg, wi_cmp, wi_cmp2, wi_tup, wi_lst, wi_lnew, wi_idx, wi_slc, wi_call, wi_blt, wi_lc, wi_app, seqQ_tup, seqQ_lst, seqQ_frz, seqQ_loc, tt_not, tt_band, tt_bor, tt_ite, tstQ_bl, tstQ_non, tstQ_int, tstQ_lst, tstQ_tup, wi_rng, rngQ_int, wi_rng2, rng2Q_int, w_lc,
wF_lt, wF_le, wF_gt, wF_ge, wF_isN, wF_notN, wF_eq_int, wF_eq_bl, wF_eq_str, wF_eq_tup, wF_eq_lst, wF_eq_frz, wF_eq_non, wF_ne_int, wF_ne_bl, wF_ne_str, wF_ne_tup, wF_ne_lst, wF_ne_frz, wF_ne_non, wF_isIn_tup, wF_isIn_lst, wF_isIn_frz, wF_notIn_tup, wF_notIn_lst, wF_notIn_frz, wF_eq_ins, wF_eq_insT, wF_eq_insN, wF_eq_insI, wF_ne_ins, wF_bol_ins, blQ_bl, w_bol, wt_bol, wt_lc2, wi_lc2, wbF_int, wbF_lst, wbF_tup, wbF_str, wb_add, wb_sub, wb_mul, wb_fdiv, wb_mod, wb_pow, wb_ladd, wc_lt, wc_le, wc_gt, wc_ge, wc_eq_int, wc_ne_int, wc_eq_bl, wc_ne_bl, wc_isN_int, wc_isN_bl, wc_isN_non, wc_notN_int, wc_notN_tup, wc_notN_non, w_idxD, seq_lst, seq_tup, seq_frz, seq_0, seq_s, len_lst, len_tup, isLoc_int, isLoc_lst, isLoc_tup, ok_ite, mkQ_eq, tss_nil, tss_cons, bindT, bindTs, wipeE, List.zip_nil_left, List.zip_nil_right, List.zip_cons_cons, List.map_nil, List.map_cons, List.nil_append, List.cons_append, List.length_nil, List.length_cons, List.replicate_zero, List.replicate_succ, List.set_cons_zero, List.set_cons_succ, Nat.reduceAdd, Nat.reduceSub, Bool.false_eq_true, Bool.true_eq_false, if_true, if_false, ite_true, ite_false, idxQ_0, idxQ_1, idxQ_2, idxQ_3, idxQ_4, idxQ_5, idxQ_6, idxQ_7, idxQ_8, idxQ_9, idxQ_10, idxQ_11, putQ_0, putQ_1, putQ_2, putQ_3, putQ_4, putQ_5, seq_set hn, w_put _ _ hn]
      refine ⟨trivial, ?_⟩
      refine ok_one (ok_if ?_)
      simp only [ok_ok, ok_bind, ok_os, oks_ok, after1_nx, after1_rt, after1_bk, after1_ct, w_con, w_var, varQ_z, varQ_s, w_bin, w_neg, negQ_int, w_not, notQ_bl, w_band, andQ_bl, w_bor, orQ_bl, w_cmp, w_ite, w_tup, w_lst, w_lnew, w_idx, w_slc, w_evo_none, w_evo_some, intQ_int, w_call, w_blt, w_app, w_bitl, bitQ_int, wt_bitl, wi_bitl, wb_shl, w_nil, w_cons,
wt_con, wt_var, wt_bin, wt_neg, wt_cmp, wt_cmp2, wt_tup, wt_lst, wt_lnew, wt_idx, wt_slc, wt_call, wt_blt, wt_lc, wt_app, wi_con, wi_var, wi_bin, wi_neg, wi_cmp, wi_cmp2, wi_tup, wi_lst, wi_lnew, wi_idx, wi_slc, wi_call, wi_blt, wi_lc, wi_app, seqQ_tup, seqQ_lst, seqQ_frz, seqQ_loc, tt_not, tt_band, tt_bor, tt_ite, tstQ_bl, tstQ_non, tstQ_int, tstQ_lst, tstQ_tup, wi_rng, rngQ_int, wi_rng2, rng2Q_int, w_lc,
wF_lt, wF_le, wF_gt, wF_ge, wF_isN, wF_notN, wF_eq_int, wF_eq_bl, wF_eq_str, wF_eq_tup, wF_eq_lst, wF_eq_frz, wF_eq_non, wF_ne_int, wF_ne_bl, wF_ne_str, wF_ne_tup, wF_ne_lst, wF_ne_frz, wF_ne_non, wF_isIn_tup, wF_isIn_lst, wF_isIn_frz, wF_notIn_tup, wF_notIn_lst, wF_notIn_frz, wF_eq_ins, wF_eq_insT, wF_eq_insN, wF_eq_insI, wF_ne_ins, wF_bol_ins, blQ_bl, w_bol, wt_bol, wt_lc2, wi_lc2, wbF_int, wbF_lst, wbF_tup, wbF_str, wb_add, wb_sub, wb_mul, wb_fdiv, wb_mod, wb_pow, wb_ladd, wc_lt, wc_le, wc_gt, wc_ge, wc_eq_int, wc_ne_int, wc_eq_bl, wc_ne_bl, wc_isN_int, wc_isN_bl, wc_isN_non, wc_notN_int, wc_notN_tup, wc_notN_non, w_idxD, seq_lst, seq_tup, seq_frz, seq_0, seq_s, len_lst, len_tup, isLoc_int, isLoc_lst, isLoc_tup, ok_ite, mkQ_eq, tss_nil, tss_cons, bindT, bindTs, wipeE, List.zip_nil_left, List.zip_nil_right, List.zip_cons_cons, List.map_nil, List.map_cons, List.nil_append, List.cons_append, List.length_nil, List.length_cons, List.replicate_zero, List.replicate_succ, List.set_cons_zero, List.set_cons_succ, Nat.reduceAdd, Nat.reduceSub, Bool.false_eq_true, Bool.true_eq_false, if_true, if_false, ite_true, ite_false, idxQ_0, idxQ_1, idxQ_2, idxQ_3, idxQ_4, idxQ_5, idxQ_6, idxQ_7, idxQ_8, idxQ_9, idxQ_10, idxQ_11, putQ_0, putQ_1, putQ_2, putQ_3, putQ_4, putQ_5, seq_set hn]
      refine ⟨⟨by decide, by decide, by decide⟩, ?_⟩
      split
      · rename_i hz
        have hz : (10 : Int) ^ (18 : Int).toNat ≤ z := by simpa using hz
        refine ok_one (ok_put ?_)
        simp only [ok_ok, ok_bind, ok_os, oks_ok, after1_nx, after1_rt, after1_bk, after1_ct, w_con, w_var, varQ_z, varQ_s, w_bin, w_neg, negQ_int, w_not, notQ_bl, w_band, andQ_bl, w_bor, orQ_bl, w_cmp, w_ite, w_tup, w_lst, w_lnew, w_idx, w_slc, w_evo_none, w_evo_some, intQ_int, w_call, w_blt, w_app, w_bitl, bitQ_int, wt_bitl, wi_bitl, wb_shl, w_nil, w_cons,
wt_con, wt_var, wt_bin, wt_neg, wt_cmp, wt_cmp2, wt_tup, wt_lst, wt_lnew, wt_idx, wt_slc, wt_call, wt_blt, wt_lc, wt_app, wi_con, wi_var, wi_bin, wi_neg, wi_cmp, wi_cmp2, wi_tup, wi_lst, wi_lnew, wi_idx, wi_slc, wi_call, wi_blt, wi_lc, wi_app, seqQ_tup, seqQ_lst, seqQ_frz, seqQ_loc, tt_not, tt_band, tt_bor, tt_ite, tstQ_bl, tstQ_non, tstQ_int, tstQ_lst, tstQ_tup, wi_rng, rngQ_int, wi_rng2, rng2Q_int, w_lc,
wF_lt, wF_le, wF_gt, wF_ge, wF_isN, wF_notN, wF_eq_int, wF_eq_bl, wF_eq_str, wF_eq_tup, wF_eq_lst, wF_eq_frz, wF_eq_non, wF_ne_int, wF_ne_bl, wF_ne_str, wF_ne_tup, wF_ne_lst, wF_ne_frz, wF_ne_non, wF_isIn_tup, wF_isIn_lst, wF_isIn_frz, wF_notIn_tup, wF_notIn_lst, wF_notIn_frz, wF_eq_ins, wF_eq_insT, wF_eq_insN, wF_eq_insI, wF_ne_ins, wF_bol_ins, blQ_bl, w_bol, wt_bol, wt_lc2, wi_lc2, wbF_int, wbF_lst, wbF_tup, wbF_str, wb_add, wb_sub, wb_mul, wb_fdiv, wb_mod, wb_pow, wb_ladd, wc_lt, wc_le, wc_gt, wc_ge, wc_eq_int, wc_ne_int, wc_eq_bl, wc_ne_bl, wc_isN_int, wc_isN_bl, wc_isN_non, wc_notN_int, wc_notN_tup, wc_notN_non, w_idxD, seq_lst, seq_tup, seq_frz, seq_0, seq_s, len_lst, len_tup, isLoc_int, isLoc_lst, isLoc_tup, ok_ite, mkQ_eq, tss_nil, tss_cons, bindT, bindTs, wipeE, List.zip_nil_left, List.zip_nil_right, List.zip_cons_cons, List.map_nil, List.map_cons, List.nil_append, List.cons_append, List.length_nil, List.length_cons, List.replicate_zero, List.replicate_succ, List.set_cons_zero, List.set_cons_succ, Nat.reduceAdd, Nat.reduceSub, Bool.false_eq_true, Bool.true_eq_false, if_true, if_false, ite_true, ite_false, idxQ_0, idxQ_1, idxQ_2, idxQ_3, idxQ_4, idxQ_5, idxQ_6, idxQ_7, idxQ_8, idxQ_9, idxQ_10, idxQ_11, putQ_0, putQ_1, putQ_2, putQ_3, putQ_4, putQ_5, seq_set hn, w_put _ _ hn]
        refine ⟨trivial, ?_⟩
        exact (fin _ _ _ _ _ (by omega) (Int.le_trans (by decide) hz) hc hc2).ofNo
      · refine ok_cons (ok_asg ?_)
        simp only [ok_ok, ok_bind, ok_os, oks_ok, after1_nx, after1_rt, after1_bk, after1_ct, w_con, w_var, varQ_z, varQ_s, w_bin, w_neg, negQ_int, w_not, notQ_bl, w_band, andQ_bl, w_bor, orQ_bl, w_cmp, w_ite, w_tup, w_lst, w_lnew, w_idx, w_slc, w_evo_none, w_evo_some, intQ_int, w_call, w_blt, w_app, w_bitl, bitQ_int, wt_bitl, wi_bitl, wb_shl, w_nil, w_cons,
wt_con, wt_var, wt_bin, wt_neg, wt_cmp, wt_cmp2, wt_tup, wt_lst, wt_lnew, wt_idx, wt_slc, wt_call, wt_blt, wt_lc, wt_app, wi_con, wi_var, wi_bin, wi_neg, wi_cmp, wi_cmp2, wi_tup, wi_lst, wi_lnew, wi_idx, wi_slc, wi_call, wi_blt, wi_lc, wi_app, seqQ_tup, seqQ_lst, seqQ_frz, seqQ_loc, tt_not, tt_band, tt_bor, tt_ite, tstQ_bl, tstQ_non, tstQ_int, tstQ_lst, tstQ_tup, wi_rng, rngQ_int, wi_rng2, rng2Q_int, w_lc,
wF_lt, wF_le, wF_gt, wF_ge, wF_isN, wF_notN, wF_eq_int, wF_eq_bl, wF_eq_str, wF_eq_tup, wF_eq_lst, wF_eq_frz, wF_eq_non, wF_ne_int, wF_ne_bl, wF_ne_str, wF_ne_tup, wF_ne_lst, wF_ne_frz, wF_ne_non, wF_isIn_tup, wF_isIn_lst, wF_isIn_frz, wF_notIn_tup, wF_notIn_lst, wF_notIn_frz, wF_eq_ins, wF_eq_insT, wF_eq_insN, wF_eq_insI, wF_ne_ins, wF_bol_ins, blQ_bl, w_bol, wt_bol, wt_lc2, wi_lc2, wbF_int, wbF_lst, wbF_tup, wbF_str, wb_add, wb_sub, wb_mul, wb_fdiv, wb_mod, wb_pow, wb_ladd, wc_lt, wc_le, wc_gt, wc_ge, wc_eq_int, wc_ne_int, wc_eq_bl, wc_ne_bl, wc_isN_int, wc_isN_bl, wc_isN_non, wc_notN_int, wc_notN_tup, wc_notN_non, w_idxD, seq_lst, seq_tup, seq_frz, seq_0, seq_s, len_lst, len_tup, isLoc_int, isLoc_lst, isLoc_tup, ok_ite, mkQ_eq, tss_nil, tss_cons, bindT, bindTs, wipeE, List.zip_nil_left, List.zip_nil_right, List.zip_cons_cons, List.map_nil, List.map_cons, List.nil_append, List.cons_append, List.length_nil, List.length_cons, List.replicate_zero, List.replicate_succ, List.set_cons_zero, List.set_cons_succ, Nat.reduceAdd, Nat.reduceSub, Bool.false_eq_true, Bool.true_eq_false, if_true, if_false, ite_true, ite_false, idxQ_0, idxQ_1, idxQ_2, idxQ_3, idxQ_4, idxQ_5, idxQ_6, idxQ_7, idxQ_8, idxQ_9, idxQ_10, idxQ_11, putQ_0, putQ_1, putQ_2, putQ_3, putQ_4, putQ_5, seq_set hn]
        obtain ⟨m1, m2⟩ := sm_mod z
        refine ⟨hc2.big (smc (k := 20)) (by decide) (by decide), by decide, m1.big (smc (k := 20)) (by decide) (by decide), ?_⟩
        refine ok_one (ok_put ?_)
        simp only [ok_ok, ok_bind, ok_os, oks_ok, after1_nx, after1_rt, after1_bk, after1_ct, w_con, w_var, varQ_z, varQ_s, w_bin, w_neg, negQ_int, w_not, notQ_bl, w_band, andQ_bl, w_bor, orQ_bl, w_cmp, w_ite, w_tup, w_lst, w_lnew, w_idx, w_slc, w_evo_none, w_evo_some, intQ_int, w_call, w_blt, w_app, w_bitl, bitQ_int, wt_bitl, wi_bitl, wb_shl, w_nil, w_cons,
wt_con, wt_var, wt_bin, wt_neg, wt_cmp, wt_cmp2, wt_tup, wt_lst, wt_lnew, wt_idx, wt_slc, wt_call, wt_blt, wt_lc, wt_app, wi_con, wi_var, wi_bin, wi_neg, wi_cmp, wi_cmp2, wi_tup, wi_lst, wi_lnew, wi_idx, wi_slc, wi_call, wi_blt, wi_lc, wi_app, seqQ_tup, seqQ_lst, seqQ_frz, seqQ_loc, tt_not, tt_band, tt_bor, tt_ite, tstQ_bl, tstQ_non, tstQ_int, tstQ_lst, tstQ_tup, wi_rng, rngQ_int, wi_rng2, rng2Q_int, w_lc,
wF_lt, wF_le, wF_gt, wF_ge, wF_isN, wF_notN, wF_eq_int, wF_eq_bl, wF_eq_str, wF_eq_tup, wF_eq_lst, wF_eq_frz, wF_eq_non, wF_ne_int, wF_ne_bl, wF_ne_str, wF_ne_tup, wF_ne_lst, wF_ne_frz, wF_ne_non, wF_isIn_tup, wF_isIn_lst, wF_isIn_frz, wF_notIn_tup, wF_notIn_lst, wF_notIn_frz, wF_eq_ins, wF_eq_insT, wF_eq_insN, wF_eq_insI, wF_ne_ins, wF_bol_ins, blQ_bl, w_bol, wt_bol, wt_lc2, wi_lc2, wbF_int, wbF_lst, wbF_tup, wbF_str, wb_add, wb_sub, wb_mul, wb_fdiv, wb_mod, wb_pow, wb_ladd, wc_lt, wc_le, wc_gt, wc_ge, wc_eq_int, wc_ne_int, wc_eq_bl, wc_ne_bl, wc_isN_int, wc_isN_bl, wc_isN_non, wc_notN_int, wc_notN_tup, wc_notN_non, w_idxD, seq_lst, seq_tup, seq_frz, seq_0, seq_s, len_lst, len_tup, isLoc_int, isLoc_lst, isLoc_tup, ok_ite, mkQ_eq, tss_nil, tss_cons, bindT, bindTs, wipeE, List.zip_nil_left, List.zip_nil_right, List.zip_cons_cons, List.map_nil, List.map_cons, List.nil_append, List.cons_append, List.length_nil, List.length_cons, List.replicate_zero, List.replicate_succ, List.set_cons_zero, List.set_cons_succ, Nat.reduceAdd, Nat.reduceSub, Bool.false_eq_true, Bool.true_eq_false, if_true, if_false, ite_true, ite_false, idxQ_0, idxQ_1, idxQ_2, idxQ_3, idxQ_4, idxQ_5, idxQ_6, idxQ_7, idxQ_8, idxQ_9, idxQ_10, idxQ_11, putQ_0, putQ_1, putQ_2, putQ_3, putQ_4, putQ_5, seq_set hn, w_put _ _ hn]
        obtain ⟨m3, m4⟩ := sm_mod (c * 40014 + z % 2147483399 * 69069 + 11)
        refine ⟨by decide, trivial, ?_⟩
        exact (fin _ _ _ _ _ (by omega) hb m4 m3).ofNo
    · simp only [ok_nil, after1_nx]
      exact (fin _ _ _ _ _ ha hb hc hc2).ofNo
  · first | (simp only [ok_ok, ok_bind, ok_os, oks_ok, after1_nx, after1_rt, after1_bk, after1_ct, w_con, w_var, varQ_z, varQ_s, w_bin, w_neg, negQ_int, w_not, notQ_bl, w_band, andQ_bl, w_bor, orQ_bl, w_cmp, w_ite, w_tup, w_lst, w_lnew, w_idx, w_slc, w_evo_none, w_evo_some, intQ_int, w_call, w_blt, w_app, w_bitl, bitQ_int, wt_bitl, wi_bitl, wb_shl, w_nil, w_cons,
wt_con, wt_var, wt_bin, wt_neg, wt_cmp, wt_cmp2, wt_tup, wt_lst, wt_lnew, wt_idx, wt_slc, wt_call, wt_blt, wt_lc, wt_app, wi_con, wi_var, wi_bin, wi_neg, wi_cmp, wi_cmp2, wi_tup, wi_lst, wi_lnew, wi_idx, wi_slc, wi_call, wi_blt, wi_lc, wi_app, seqQ_tup, seqQ_lst, seqQ_frz, seqQ_loc, tt_not, tt_band, tt_bor, tt_ite, tstQ_bl, tstQ_non, tstQ_int, tstQ_lst, tstQ_tup, wi_rng, rngQ_int, wi_rng2, rng2Q_int, w_lc,
wF_lt, wF_le, wF_gt, wF_ge, wF_isN, wF_notN, wF_eq_int, wF_eq_bl, wF_eq_str, wF_eq_tup, wF_eq_lst, wF_eq_frz, wF_eq_non, wF_ne_int, wF_ne_bl, wF_ne_str, wF_ne_tup, wF_ne_lst, wF_ne_frz, wF_ne_non, wF_isIn_tup, wF_isIn_lst, wF_isIn_frz, wF_notIn_tup, wF_notIn_lst, wF_notIn_frz, wF_eq_ins, wF_eq_insT, wF_eq_insN, wF_eq_insI, wF_ne_ins, wF_bol_ins, blQ_bl, w_bol, wt_bol, wt_lc2, wi_lc2, wbF_int, wbF_lst, wbF_tup, wbF_str, wb_add, wb_sub, wb_mul, wb_fdiv, wb_mod, wb_pow, wb_ladd, wc_lt, wc_le, wc_gt, wc_ge, wc_eq_int, wc_ne_int, wc_eq_bl, wc_ne_bl, wc_isN_int, wc_isN_bl, wc_isN_non, wc_notN_int, wc_notN_tup, wc_notN_non, w_idxD, seq_lst, seq_tup, seq_frz, seq_0, seq_s, len_lst, len_tup, isLoc_int, isLoc_lst, isLoc_tup, ok_ite, mkQ_eq, tss_nil, tss_cons, bindT, bindTs, wipeE, List.zip_nil_left, List.zip_nil_right, List.zip_cons_cons, List.map_nil, List.map_cons, List.nil_append, List.cons_append, List.length_nil, List.length_cons, List.replicate_zero, List.replicate_succ, List.set_cons_zero, List.set_cons_succ, Nat.reduceAdd, Nat.reduceSub, Bool.false_eq_true, Bool.true_eq_false, if_true, if_false, ite_true, ite_false, idxQ_0, idxQ_1, idxQ_2, idxQ_3, idxQ_4, idxQ_5, idxQ_6, idxQ_7, idxQ_8, idxQ_9, idxQ_10, idxQ_11, putQ_0, putQ_1, putQ_2, putQ_3, putQ_4, putQ_5, ok_nil]) | skip
    exact (fin _ _ _ _ _ ha hb hc hc2).ofNo
end
end GY

namespace GY
open PySem PySem.Spec PyProof.Rows L2
variable {XQ : D → Hs → Prop}
section
variable {P : Nat → Option Fd} {i j m n N k : Nat} {h : Hs} {ob : Ob} {Q : D → Hs → Prop}
theorem noLoc_mem {ds : List D} {d : D} (nl : noLoc ds = true) (m : d ∈ ds) : isLoc d = false := by
  unfold noLoc at nl
  have := List.all_eq_true.mp nl d m
  simpa using this
def fdOf (j : Nat) : Fd where
  npos := 2
  pdf := []
  kdf := []
  star := false
  fresh := false
  ns := 2
  body :=
   [.ret (.idx (.var 1) (.call j [.var 0, .blt .len [.var 1]] [] []))]
theorem of_ok (hP : P i = some (fdOf j)) (hJ : P j = some fdPull) (hN : N < 1000000000) {x : D} {ds : List D} (hg : h[n]? = some ob) (hb : Bag N ob) (hx : x = .lst ds ∨ x = .tup ds) (h0 : ds ≠ []) (h1 : ds.length < 100000) (nl : noLoc ds = true)
    (hQ : ∀ d ob', d ∈ ds → Bag (N + 1) ob' → Q d (h.set n ob')) : OkV XQ (callN P (k + 2) i [.loc n, x] [] h) Q := by
  refine ok_call hP rfl ?_
  simp only [fdOf]
  have hl : 0 < (ds.length : Int) := by
    have := List.length_pos_iff.mpr h0
    omega
  have sm : Sm 8999 (ds.length : Int) := Sm.mono (j := 17) (Sm.of 17 (by omega) (by omega)) (by decide)
  have fin : ∀ f ob', 0 ≤ f → f < (ds.length : Int) → Bag (N + 1) ob' → ∃ d, atI ds f = some d ∧ OkV XQ (finish false h.length d (h.set n ob')) Q := fun f ob' f0 f1 b' => by
    obtain ⟨d, md, ed⟩ := atI_in f0 f1
    exact ⟨d, ed, by rw [fin_plain (noLoc_mem nl md) (by simp)]; exact hQ d ob' md b'⟩
  refine ok_one (ok_ret ?_)
  rcases hx with rfl | rfl
  · simp only [ok_ok, ok_bind, ok_os, oks_ok, after1_nx, after1_rt, after1_bk, after1_ct, w_con, w_var, varQ_z, varQ_s, w_bin, w_neg, negQ_int, w_not, notQ_bl, w_band, andQ_bl, w_bor, orQ_bl, w_cmp, w_ite, w_tup, w_lst, w_lnew, w_idx, w_slc, w_evo_none, w_evo_some, intQ_int, w_call, w_blt, w_app, w_bitl, bitQ_int, wt_bitl, wi_bitl, wb_shl, w_nil, w_cons,
wt_con, wt_var, wt_bin, wt_neg, wt_cmp, wt_cmp2, wt_tup, wt_lst, wt_lnew, wt_idx, wt_slc, wt_call, wt_blt, wt_lc, wt_app, wi_con, wi_var, wi_bin, wi_neg, wi_cmp, wi_cmp2, wi_tup, wi_lst, wi_lnew, wi_idx, wi_slc, wi_call, wi_blt, wi_lc, wi_app, seqQ_tup, seqQ_lst, seqQ_frz, seqQ_loc, tt_not, tt_band, tt_bor, tt_ite, tstQ_bl, tstQ_non, tstQ_int, tstQ_lst, tstQ_tup, wi_rng, rngQ_int, wi_rng2, rng2Q_int, w_lc,
wF_lt, wF_le, wF_gt, wF_ge, wF_isN, wF_notN, wF_eq_int, wF_eq_bl, wF_eq_str, wF_eq_tup, wF_eq_lst, wF_eq_frz, wF_eq_non, wF_ne_int, wF_ne_bl, wF_ne_str, wF_ne_tup, wF_ne_lst, wF_ne_frz, wF_ne_non, wF_isIn_tup, wF_isIn_lst, wF_isIn_frz, wF_notIn_tup, wF_notIn_lst, wF_notIn_frz, wF_eq_ins, wF_eq_insT, wF_eq_insN, wF_eq_insI, wF_ne_ins, wF_bol_ins, blQ_bl, w_bol, wt_bol, wt_lc2, wi_lc2, wbF_int, wbF_lst, wbF_tup, wbF_str, wb_add, wb_sub, wb_mul, wb_fdiv, wb_mod, wb_pow, wb_ladd, wc_lt, wc_le, wc_gt, wc_ge, wc_eq_int, wc_ne_int, wc_eq_bl, wc_ne_bl, wc_isN_int, wc_isN_bl, wc_isN_non, wc_notN_int, wc_notN_tup, wc_notN_non, w_idxD, seq_lst, seq_tup, seq_frz, seq_0, seq_s, len_lst, len_tup, isLoc_int, isLoc_lst, isLoc_tup, ok_ite, mkQ_eq, tss_nil, tss_cons, bindT, bindTs, wipeE, List.zip_nil_left, List.zip_nil_right, List.zip_cons_cons, List.map_nil, List.map_cons, List.nil_append, List.cons_append, List.length_nil, List.length_cons, List.replicate_zero, List.replicate_succ, List.set_cons_zero, List.set_cons_succ, Nat.reduceAdd, Nat.reduceSub, Bool.false_eq_true, Bool.true_eq_false, if_true, if_false, ite_true, ite_false, idxQ_0, idxQ_1, idxQ_2, idxQ_3, idxQ_4, idxQ_5, idxQ_6, idxQ_7, idxQ_8, idxQ_9, idxQ_10, idxQ_11, putQ_0, putQ_1, putQ_2, putQ_3, putQ_4, putQ_5]
    refine pull_ok hJ hN hg hb hl sm fun f ob' f0 f1 b' => ?_
    simp only [ok_ok, ok_bind, ok_os, oks_ok, after1_nx, after1_rt, after1_bk, after1_ct, w_con, w_var, varQ_z, varQ_s, w_bin, w_neg, negQ_int, w_not, notQ_bl, w_band, andQ_bl, w_bor, orQ_bl, w_cmp, w_ite, w_tup, w_lst, w_lnew, w_idx, w_slc, w_evo_none, w_evo_some, intQ_int, w_call, w_blt, w_app, w_bitl, bitQ_int, wt_bitl, wi_bitl, wb_shl, w_nil, w_cons,
wt_con, wt_var, wt_bin, wt_neg, wt_cmp, wt_cmp2, wt_tup, wt_lst, wt_lnew, wt_idx, wt_slc, wt_call, wt_blt, wt_lc, wt_app, wi_con, wi_var, wi_bin, wi_neg, wi_cmp, wi_cmp2, wi_tup, wi_lst, wi_lnew, wi_idx, wi_slc, wi_call, wi_blt, wi_lc, wi_app, seqQ_tup, seqQ_lst, seqQ_frz, seqQ_loc, tt_not, tt_band, tt_bor, tt_ite, tstQ_bl, tstQ_non, tstQ_int, tstQ_lst, tstQ_tup, wi_rng, rngQ_int, wi_rng2, rng2Q_int, w_lc,
wF_lt, wF_le, wF_gt, wF_ge, wF_isN, wF_notN, wF_eq_int, wF_eq_bl, wF_eq_str, wF_eq_tup, wF_eq_lst, wF_eq_frz, wF_eq_non, wF_ne_int, wF_ne_bl, wF_ne_str, wF_ne_tup, wF_ne_lst, wF_ne_frz, wF_ne_non, wF_isIn_tup, wF_isIn_lst, wF_isIn_frz, wF_notIn_tup, wF_notIn_lst, wF_notIn_frz, wF_eq_ins, wF_eq_insT, wF_eq_insN, wF_eq_insI, wF_ne_ins, wF_bol_ins, blQ_bl, w_bol, wt_bol, wt_lc2, wi_lc2, wbF_int, wbF_lst, wbF_tup, wbF_str, wb_add, wb_sub, wb_mul, wb_fdiv, wb_mod, wb_pow, wb_ladd, wc_lt, wc_le, wc_gt, wc_ge, wc_eq_int, wc_ne_int, wc_eq_bl, wc_ne_bl, wc_isN_int, wc_isN_bl, wc_isN_non, wc_notN_int, wc_notN_tup, wc_notN_non, w_idxD, seq_lst, seq_tup, seq_frz, seq_0, seq_s, len_lst, len_tup, isLoc_int, isLoc_lst, isLoc_tup, ok_ite, mkQ_eq, tss_nil, tss_cons, bindT, bindTs, wipeE, List.zip_nil_left, List.zip_nil_right, List.zip_cons_cons, List.map_nil, List.map_cons, List.nil_append, List.cons_append, List.length_nil, List.length_cons, List.replicate_zero, List.replicate_succ, List.set_cons_zero, List.set_cons_succ, Nat.reduceAdd, Nat.reduceSub, Bool.false_eq_true, Bool.true_eq_false, if_true, if_false, ite_true, ite_false, idxQ_0, idxQ_1, idxQ_2, idxQ_3, idxQ_4, idxQ_5, idxQ_6, idxQ_7, idxQ_8, idxQ_9, idxQ_10, idxQ_11, putQ_0, putQ_1, putQ_2, putQ_3, putQ_4, putQ_5]
    exact fin f ob' f0 f1 b'
  · simp only [ok_ok, ok_bind, ok_os, oks_ok, after1_nx, after1_rt, after1_bk, after1_ct, w_con, w_var, varQ_z, varQ_s, w_bin, w_neg, negQ_int, w_not, notQ_bl, w_band, andQ_bl, w_bor, orQ_bl, w_cmp, w_ite, w_tup, w_lst, w_lnew, w_idx, w_slc, w_evo_none, w_evo_some, intQ_int, w_call, w_blt, w_app, w_bitl, bitQ_int, wt_bitl, wi_bitl, wb_shl, w_nil, w_cons,
wt_con, wt_var, wt_bin, wt_neg, wt_cmp, wt_cmp2, wt_tup, wt_lst, wt_lnew, wt_idx, wt_slc, wt_call, wt_blt, wt_lc, wt_app, wi_con, wi_var, wi_bin, wi_neg, wi_cmp, wi_cmp2, wi_tup, wi_lst, wi_lnew, wi_idx, wi_slc, wi_call, wi_blt, wi_lc, wi_app, seqQ_tup, seqQ_lst, seqQ_frz, seqQ_loc, tt_not, tt_band, tt_bor, tt_ite, tstQ_bl, tstQ_non, tstQ_int, tstQ_lst, tstQ_tup, wi_rng, rngQ_int, wi_rng2, rng2Q_int, w_lc,
wF_lt, wF_le, wF_gt, wF_ge, wF_isN, wF_notN, wF_eq_int, wF_eq_bl, wF_eq_str, wF_eq_tup, wF_eq_lst, wF_eq_frz, wF_eq_non, wF_ne_int, wF_ne_bl, wF_ne_str, wF_ne_tup, wF_ne_lst, wF_ne_frz, wF_ne_non, wF_isIn_tup, wF_isIn_lst, wF_isIn_frz, wF_notIn_tup, wF_notIn_lst, wF_notIn_frz, wF_eq_ins, wF_eq_insT, wF_eq_insN, wF_eq_insI, wF_ne_ins, wF_bol_ins, blQ_bl, w_bol, wt_bol, wt_lc2, wi_lc2, wbF_int, wbF_lst, wbF_tup, wbF_str, wb_add, wb_sub, wb_mul, wb_fdiv, wb_mod, wb_pow, wb_ladd, wc_lt, wc_le, wc_gt, wc_ge, wc_eq_int, wc_ne_int, wc_eq_bl, wc_ne_bl, wc_isN_int, wc_isN_bl, wc_isN_non, wc_notN_int, wc_notN_tup, wc_notN_non, w_idxD, seq_lst, seq_tup, seq_frz, seq_0, seq_s, len_lst, len_tup, isLoc_int, isLoc_lst, isLoc_tup, ok_ite, mkQ_eq, tss_nil, tss_cons, bindT, bindTs, wipeE, List.zip_nil_left, List.zip_nil_right, List.zip_cons_cons, List.map_nil, List.map_cons, List.nil_append, List.cons_append, List.length_nil, List.length_cons, List.replicate_zero, List.replicate_succ, List.set_cons_zero, List.set_cons_succ, Nat.reduceAdd, Nat.reduceSub, Bool.false_eq_true, Bool.true_eq_false, if_true, if_false, ite_true, ite_false, idxQ_0, idxQ_1, idxQ_2, idxQ_3, idxQ_4, idxQ_5, idxQ_6, idxQ_7, idxQ_8, idxQ_9, idxQ_10, idxQ_11, putQ_0, putQ_1, putQ_2, putQ_3, putQ_4, putQ_5]
    refine pull_ok hJ hN hg hb hl sm fun f ob' f0 f1 b' => ?_
    simp only [ok_ok, ok_bind, ok_os, oks_ok, after1_nx, after1_rt, after1_bk, after1_ct, w_con, w_var, varQ_z, varQ_s, w_bin, w_neg, negQ_int, w_not, notQ_bl, w_band, andQ_bl, w_bor, orQ_bl, w_cmp, w_ite, w_tup, w_lst, w_lnew, w_idx, w_slc, w_evo_none, w_evo_some, intQ_int, w_call, w_blt, w_app, w_bitl, bitQ_int, wt_bitl, wi_bitl, wb_shl, w_nil, w_cons,
wt_con, wt_var, wt_bin, wt_neg, wt_cmp, wt_cmp2, wt_tup, wt_lst, wt_lnew, wt_idx, wt_slc, wt_call, wt_blt, wt_lc, wt_app, wi_con, wi_var, wi_bin, wi_neg, wi_cmp, wi_cmp2, wi_tup, wi_lst, wi_lnew, wi_idx, wi_slc, wi_call, wi_blt, wi_lc, wi_app, seqQ_tup, seqQ_lst, seqQ_frz, seqQ_loc, tt_not, tt_band, tt_bor, tt_ite, tstQ_bl, tstQ_non, tstQ_int, tstQ_lst, tstQ_tup, wi_rng, rngQ_int, wi_rng2, rng2Q_int, w_lc,
wF_lt, wF_le, wF_gt, wF_ge, wF_isN, wF_notN, wF_eq_int, wF_eq_bl, wF_eq_str, wF_eq_tup, wF_eq_lst, wF_eq_frz, wF_eq_non, wF_ne_int, wF_ne_bl, wF_ne_str, wF_ne_tup, wF_ne_lst, wF_ne_frz, wF_ne_non, wF_isIn_tup, wF_isIn_lst, wF_isIn_frz, wF_notIn_tup, wF_notIn_lst, wF_notIn_frz, wF_eq_ins, wF_eq_insT, wF_eq_insN, wF_eq_insI, wF_ne_ins, wF_bol_ins, blQ_bl, w_bol, wt_bol, wt_lc2, wi_lc2, wbF_int, wbF_lst, wbF_tup, wbF_str, wb_add, wb_sub, wb_mul, wb_fdiv, wb_mod, wb_pow, wb_ladd, wc_lt, wc_le, wc_gt, wc_ge, wc_eq_int, wc_ne_int, wc_eq_bl, wc_ne_bl, wc_isN_int, wc_isN_bl, wc_isN_non, wc_notN_int, wc_notN_tup, wc_notN_non, w_idxD, seq_lst, seq_tup, seq_frz, seq_0, seq_s, len_lst, len_tup, isLoc_int, isLoc_lst, isLoc_tup, ok_ite, mkQ_eq, tss_nil, tss_cons, bindT, bindTs, wipeE, List.zip_nil_left, List.zip_nil_right, List.zip_cons_cons, List.map_nil, List.map_cons, List.nil_append, List.cons_append, List.length_nil, List.length_cons, List.replicate_zero, List.replicate_succ, List.set_cons_zero, List.set_cons_succ, Nat.reduceAdd, Nat.reduceSub, Bool.false_eq_true, Bool.true_eq_false, if_true, if_false, ite_true, ite_false, idxQ_0, idxQ_1, idxQ_2, idxQ_3, idxQ_4, idxQ_5, idxQ_6, idxQ_7, idxQ_8, idxQ_9, idxQ_10, idxQ_11, putQ_0, putQ_1, putQ_2, putQ_3, putQ_4, putQ_5]
    exact fin f ob' f0 f1 b'
def fdRoots : Fd where
  npos := 0
  pdf := []
  kdf := []
  star := false
  fresh := false
  ns := 1
  body :=
   [.ret (.lc [0] (.nm 0) (.rng2 (.con (.int 2)) (.con (.int 100))) [.cmp .notIn (.var 0) (.tup [.con (.int 4), .con (.int 9), .con (.int 16), .con (.int 25), .con (.int 36), .con (.int 49), .con (.int 64), .con (.int 81)])] (.var 0))]
/-- a number from 2 to 99, no square -/
def nsq (z : Int) : Bool := !(([4, 9, 16, 25, 36, 49, 64, 81] : List Int).any fun y => y == z)
def Rt (z : Int) : Prop := 2 ≤ z ∧ z < 100 ∧ nsq z = true
def isRoot (d : D) : Prop := ∃ z : Int, d = .int z ∧ Rt z
theorem nsq_of {z : Int} (e : ([PyData.int 4, .int 9, .int 16, .int 25, .int 36, .int 49, .int 64, .int 81].any fun y => PyData.eqv y (.int z)) = false) : nsq z = true := by
  have e2 : (([4, 9, 16, 25, 36, 49, 64, 81] : List Int).any fun y => y == z) = false := e
  unfold nsq
  rw [e2]; rfl
theorem notIn_int (x : Int) (ds : List D) (ys : List PyData) (e : toPys ds = some ys) (s : SeqAt.shaped (.list ys) = true) : OkV XQ (cmpD .notIn (.int x) (.tup ds) h) Q = Q (.bl (!(ys.any fun z => PyData.eqv z (.int x)))) h := by
  have e1 : inD (.int x) (.tup ds) h = some (ys.any fun z => PyData.eqv z (.int x)) := by
    unfold inD
    simp only [toPy, seqOf, e, shaped_int, s, Bool.and_self, if_true]
  show OkV XQ (match inD (.int x) (.tup ds) h with | some c => .ok (.bl !c) h | none => .stuck) Q = _
  rw [e1]; rfl
theorem rngD_mem {lo hi : Int} {d : D} (m : d ∈ rngD lo hi) : ∃ z : Int, d = .int z ∧ lo ≤ z ∧ z < hi := by
  unfold rngD at m
  obtain ⟨q, hq, rfl⟩ := List.mem_map.mp m
  have := List.mem_range.mp hq
  exact ⟨lo + q, rfl, by omega, by omega⟩
theorem roots_ok (hP : P i = some fdRoots) (hQ : ∀ ds : List D, ds ≠ [] → ds.length ≤ 98 → (∀ d ∈ ds, isRoot d) → Q (.lst ds) h) : OkV XQ (callN P (k + 1) i [] [] h) Q := by
  refine ok_call hP rfl ?_
  simp only [fdRoots]
  refine ok_one (ok_ret ?_)
  simp only [ok_ok, ok_bind, ok_os, oks_ok, after1_nx, after1_rt, after1_bk, after1_ct, w_con, w_var, varQ_z, varQ_s, w_bin, w_neg, negQ_int, w_not, notQ_bl, w_band, andQ_bl, w_bor, orQ_bl, w_cmp, w_ite, w_tup, w_lst, w_lnew, w_idx, w_slc, w_evo_none, w_evo_some, intQ_int, w_call, w_blt, w_app, w_bitl, bitQ_int, wt_bitl, wi_bitl, wb_shl, w_nil, w_cons,
wt_con, wt_var, wt_bin, wt_neg, wt_cmp, wt_cmp2, wt_tup, wt_lst, wt_lnew, wt_idx, wt_slc, wt_call, wt_blt, wt_lc, wt_app, wi_con, wi_var, wi_bin, wi_neg, wi_cmp, wi_cmp2, wi_tup, wi_lst, wi_lnew, wi_idx, wi_slc, wi_call, wi_blt, wi_lc, wi_app, seqQ_tup, seqQ_lst, seqQ_frz, seqQ_loc, tt_not, tt_band, tt_bor, tt_ite, tstQ_bl, tstQ_non, tstQ_int, tstQ_lst, tstQ_tup, wi_rng, rngQ_int, wi_rng2, rng2Q_int, w_lc,
wF_lt, wF_le, wF_gt, wF_ge, wF_isN, wF_notN, wF_eq_int, wF_eq_bl, wF_eq_str, wF_eq_tup, wF_eq_lst, wF_eq_frz, wF_eq_non, wF_ne_int, wF_ne_bl, wF_ne_str, wF_ne_tup, wF_ne_lst, wF_ne_frz, wF_ne_non, wF_isIn_tup, wF_isIn_lst, wF_isIn_frz, wF_notIn_tup, wF_notIn_lst, wF_notIn_frz, wF_eq_ins, wF_eq_insT, wF_eq_insN, wF_eq_insI, wF_ne_ins, wF_bol_ins, blQ_bl, w_bol, wt_bol, wt_lc2, wi_lc2, wbF_int, wbF_lst, wbF_tup, wbF_str, wb_add, wb_sub, wb_mul, wb_fdiv, wb_mod, wb_pow, wb_ladd, wc_lt, wc_le, wc_gt, wc_ge, wc_eq_int, wc_ne_int, wc_eq_bl, wc_ne_bl, wc_isN_int, wc_isN_bl, wc_isN_non, wc_notN_int, wc_notN_tup, wc_notN_non, w_idxD, seq_lst, seq_tup, seq_frz, seq_0, seq_s, len_lst, len_tup, isLoc_int, isLoc_lst, isLoc_tup, ok_ite, mkQ_eq, tss_nil, tss_cons, bindT, bindTs, wipeE, List.zip_nil_left, List.zip_nil_right, List.zip_cons_cons, List.map_nil, List.map_cons, List.nil_append, List.cons_append, List.length_nil, List.length_cons, List.replicate_zero, List.replicate_succ, List.set_cons_zero, List.set_cons_succ, Nat.reduceAdd, Nat.reduceSub, Bool.false_eq_true, Bool.true_eq_false, if_true, if_false, ite_true, ite_false, idxQ_0, idxQ_1, idxQ_2, idxQ_3, idxQ_4, idxQ_5, idxQ_6, idxQ_7, idxQ_8, idxQ_9, idxQ_10, idxQ_11, putQ_0, putQ_1, putQ_2, putQ_3, putQ_4, putQ_5]
  refine ⟨by decide, ?_⟩
  refine ok_compL (fun ds acc h' => h' = h ∧ acc.length + ds.length ≤ 98 ∧ (∀ d ∈ ds, d ∈ rngD 2 100) ∧ (∀ d ∈ acc, isRoot d) ∧ (acc ≠ [] ∨ ∃ t, ds = .int 2 :: t)) ?_ ?_ ?_
  · rintro acc h' ⟨rfl, hl, _, ha, hc⟩
    rw [fin_plain rfl (Nat.le_refl _)]
    rcases hc with hc | ⟨t, hc⟩
    · exact hQ acc hc (by simpa using hl) ha
    · cases hc
  · rintro d ds acc h' ⟨rfl, hl, hd, ha, hc⟩
    obtain ⟨z, rfl, z1, z2⟩ := rngD_mem (hd _ (List.mem_cons_self ..))
    simp only [ok_ok, ok_bind, ok_os, oks_ok, after1_nx, after1_rt, after1_bk, after1_ct, w_con, w_var, varQ_z, varQ_s, w_bin, w_neg, negQ_int, w_not, notQ_bl, w_band, andQ_bl, w_bor, orQ_bl, w_cmp, w_ite, w_tup, w_lst, w_lnew, w_idx, w_slc, w_evo_none, w_evo_some, intQ_int, w_call, w_blt, w_app, w_bitl, bitQ_int, wt_bitl, wi_bitl, wb_shl, w_nil, w_cons,
wt_con, wt_var, wt_bin, wt_neg, wt_cmp, wt_cmp2, wt_tup, wt_lst, wt_lnew, wt_idx, wt_slc, wt_call, wt_blt, wt_lc, wt_app, wi_con, wi_var, wi_bin, wi_neg, wi_cmp, wi_cmp2, wi_tup, wi_lst, wi_lnew, wi_idx, wi_slc, wi_call, wi_blt, wi_lc, wi_app, seqQ_tup, seqQ_lst, seqQ_frz, seqQ_loc, tt_not, tt_band, tt_bor, tt_ite, tstQ_bl, tstQ_non, tstQ_int, tstQ_lst, tstQ_tup, wi_rng, rngQ_int, wi_rng2, rng2Q_int, w_lc,
wF_lt, wF_le, wF_gt, wF_ge, wF_isN, wF_notN, wF_eq_int, wF_eq_bl, wF_eq_str, wF_eq_tup, wF_eq_lst, wF_eq_frz, wF_eq_non, wF_ne_int, wF_ne_bl, wF_ne_str, wF_ne_tup, wF_ne_lst, wF_ne_frz, wF_ne_non, wF_isIn_tup, wF_isIn_lst, wF_isIn_frz, wF_notIn_tup, wF_notIn_lst, wF_notIn_frz, wF_eq_ins, wF_eq_insT, wF_eq_insN, wF_eq_insI, wF_ne_ins, wF_bol_ins, blQ_bl, w_bol, wt_bol, wt_lc2, wi_lc2, wbF_int, wbF_lst, wbF_tup, wbF_str, wb_add, wb_sub, wb_mul, wb_fdiv, wb_mod, wb_pow, wb_ladd, wc_lt, wc_le, wc_gt, wc_ge, wc_eq_int, wc_ne_int, wc_eq_bl, wc_ne_bl, wc_isN_int, wc_isN_bl, wc_isN_non, wc_notN_int, wc_notN_tup, wc_notN_non, w_idxD, seq_lst, seq_tup, seq_frz, seq_0, seq_s, len_lst, len_tup, isLoc_int, isLoc_lst, isLoc_tup, ok_ite, mkQ_eq, tss_nil, tss_cons, bindT, bindTs, wipeE, List.zip_nil_left, List.zip_nil_right, List.zip_cons_cons, List.map_nil, List.map_cons, List.nil_append, List.cons_append, List.length_nil, List.length_cons, List.replicate_zero, List.replicate_succ, List.set_cons_zero, List.set_cons_succ, Nat.reduceAdd, Nat.reduceSub, Bool.false_eq_true, Bool.true_eq_false, if_true, if_false, ite_true, ite_false, idxQ_0, idxQ_1, idxQ_2, idxQ_3, idxQ_4, idxQ_5, idxQ_6, idxQ_7, idxQ_8, idxQ_9, idxQ_10, idxQ_11, putQ_0, putQ_1, putQ_2, putQ_3, putQ_4, putQ_5]
    refine ⟨by decide, ?_⟩
    rw [notIn_int z _ [.int 4, .int 9, .int 16, .int 25, .int 36, .int 49, .int 64, .int 81] (by rfl) (by decide +kernel)]
    simp only [ok_ok, ok_bind, ok_os, oks_ok, after1_nx, after1_rt, after1_bk, after1_ct, w_con, w_var, varQ_z, varQ_s, w_bin, w_neg, negQ_int, w_not, notQ_bl, w_band, andQ_bl, w_bor, orQ_bl, w_cmp, w_ite, w_tup, w_lst, w_lnew, w_idx, w_slc, w_evo_none, w_evo_some, intQ_int, w_call, w_blt, w_app, w_bitl, bitQ_int, wt_bitl, wi_bitl, wb_shl, w_nil, w_cons,
wt_con, wt_var, wt_bin, wt_neg, wt_cmp, wt_cmp2, wt_tup, wt_lst, wt_lnew, wt_idx, wt_slc, wt_call, wt_blt, wt_lc, wt_app, wi_con, wi_var, wi_bin, wi_neg, wi_cmp, wi_cmp2, wi_tup, wi_lst, wi_lnew, wi_idx, wi_slc, wi_call, wi_blt, wi_lc, wi_app, seqQ_tup, seqQ_lst, seqQ_frz, seqQ_loc, tt_not, tt_band, tt_bor, tt_ite, tstQ_bl, tstQ_non, tstQ_int, tstQ_lst, tstQ_tup, wi_rng, rngQ_int, wi_rng2, rng2Q_int, w_lc,
wF_lt, wF_le, wF_gt, wF_ge, wF_isN, wF_notN, wF_eq_int, wF_eq_bl, wF_eq_str, wF_eq_tup, wF_eq_lst, wF_eq_frz, wF_eq_non, wF_ne_int, wF_ne_bl, wF_ne_str, wF_ne_tup, wF_ne_lst, wF_ne_frz, wF_ne_non, wF_isIn_tup, wF_isIn_lst, wF_isIn_frz, wF_notIn_tup, wF_notIn_lst, wF_notIn_frz, wF_eq_ins, wF_eq_insT, wF_eq_insN, wF_eq_insI, wF_ne_ins, wF_bol_ins, blQ_bl, w_bol, wt_bol, wt_lc2, wi_lc2, wbF_int, wbF_lst, wbF_tup, wbF_str, wb_add, wb_sub, wb_mul, wb_fdiv, wb_mod, wb_pow, wb_ladd, wc_lt, wc_le, wc_gt, wc_ge, wc_eq_int, wc_ne_int, wc_eq_bl, wc_ne_bl, wc_isN_int, wc_isN_bl, wc_isN_non, wc_notN_int, wc_notN_tup, wc_notN_non, w_idxD, seq_lst, seq_tup, seq_frz, seq_0, seq_s, len_lst, len_tup, isLoc_int, isLoc_lst, isLoc_tup, ok_ite, mkQ_eq, tss_nil, tss_cons, bindT, bindTs, wipeE, List.zip_nil_left, List.zip_nil_right, List.zip_cons_cons, List.map_nil, List.map_cons, List.nil_append, List.cons_append, List.length_nil, List.length_cons, List.replicate_zero, List.replicate_succ, List.set_cons_zero, List.set_cons_succ, Nat.reduceAdd, Nat.reduceSub, Bool.false_eq_true, Bool.true_eq_false, if_true, if_false, ite_true, ite_false, idxQ_0, idxQ_1, idxQ_2, idxQ_3, idxQ_4, idxQ_5, idxQ_6, idxQ_7, idxQ_8, idxQ_9, idxQ_10, idxQ_11, putQ_0, putQ_1, putQ_2, putQ_3, putQ_4, putQ_5]
    have hl : acc.length + ds.length + 1 ≤ 98 := by simp at hl; omega
    cases e : ([PyData.int 4, .int 9, .int 16, .int 25, .int 36, .int 49, .int 64, .int 81].any fun y => PyData.eqv y (.int z)) with
    | true =>
      simp only [ok_ok, ok_bind, ok_os, oks_ok, after1_nx, after1_rt, after1_bk, after1_ct, w_con, w_var, varQ_z, varQ_s, w_bin, w_neg, negQ_int, w_not, notQ_bl, w_band, andQ_bl, w_bor, orQ_bl, w_cmp, w_ite, w_tup, w_lst, w_lnew, w_idx, w_slc, w_evo_none, w_evo_some, intQ_int, w_call, w_blt, w_app, w_bitl, bitQ_int, wt_bitl, wi_bitl, wb_shl, w_nil, w_cons,
wt_con, wt_var, wt_bin, wt_neg, wt_cmp, wt_cmp2, wt_tup, wt_lst, wt_lnew, wt_idx, wt_slc, wt_call, wt_blt, wt_lc, wt_app, wi_con, wi_var, wi_bin, wi_neg, wi_cmp, wi_cmp2, wi_tup, wi_lst, wi_lnew, wi_idx, wi_slc, wi_call, wi_blt, wi_lc, wi_app, seqQ_tup, seqQ_lst, seqQ_frz, seqQ_loc, tt_not, tt_band, tt_bor, tt_ite, tstQ_bl, tstQ_non, tstQ_int, tstQ_lst, tstQ_tup, wi_rng, rngQ_int, wi_rng2, rng2Q_int, w_lc,
wF_lt, wF_le, wF_gt, wF_ge, wF_isN, wF_notN, wF_eq_int, wF_eq_bl, wF_eq_str, wF_eq_tup, wF_eq_lst, wF_eq_frz, wF_eq_non, wF_ne_int, wF_ne_bl, wF_ne_str, wF_ne_tup, wF_ne_lst, wF_ne_frz, wF_ne_non, wF_isIn_tup, wF_isIn_lst, wF_isIn_frz, wF_notIn_tup, wF_notIn_lst, wF_notIn_frz, wF_eq_ins, wF_eq_insT, wF_eq_insN, wF_eq_insI, wF_ne_ins, wF_bol_ins, blQ_bl, w_bol, wt_bol, wt_lc2, wi_lc2, wbF_int, wbF_lst, wbF_tup, wbF_str, wb_add, wb_sub, wb_mul, wb_fdiv, wb_mod, wb_pow, wb_ladd, wc_lt, wc_le, wc_gt, wc_ge, wc_eq_int, wc_ne_int, wc_eq_bl, wc_ne_bl, wc_isN_int, wc_isN_bl, wc_isN_non, wc_notN_int, wc_notN_tup, wc_notN_non, w_idxD, seq_lst, seq_tup, seq_frz, seq_0, seq_s, len_lst, len_tup, isLoc_int, isLoc_lst, isLoc_tup, ok_ite, mkQ_eq, tss_nil, tss_cons, bindT, bindTs, wipeE, List.zip_nil_left, List.zip_nil_right, List.zip_cons_cons, List.map_nil, List.map_cons, List.nil_append, List.cons_append, List.length_nil, List.length_cons, List.replicate_zero, List.replicate_succ, List.set_cons_zero, List.set_cons_succ, Nat.reduceAdd, Nat.reduceSub, Bool.false_eq_true, Bool.true_eq_false, if_true, if_false, ite_true, ite_false, idxQ_0, idxQ_1, idxQ_2, idxQ_3, idxQ_4, idxQ_5, idxQ_6, idxQ_7, idxQ_8, idxQ_9, idxQ_10, idxQ_11, putQ_0, putQ_1, putQ_2, putQ_3, putQ_4, putQ_5, Bool.not_true]
      refine ⟨trivial, trivial, by omega, fun x m => hd x (List.mem_cons_of_mem _ m), ha, ?_⟩
      rcases hc with hc | ⟨t, hc⟩
      · exact .inl hc
      · cases hc
        exact absurd e (by decide +kernel)
    | false =>
      simp only [ok_ok, ok_bind, ok_os, oks_ok, after1_nx, after1_rt, after1_bk, after1_ct, w_con, w_var, varQ_z, varQ_s, w_bin, w_neg, negQ_int, w_not, notQ_bl, w_band, andQ_bl, w_bor, orQ_bl, w_cmp, w_ite, w_tup, w_lst, w_lnew, w_idx, w_slc, w_evo_none, w_evo_some, intQ_int, w_call, w_blt, w_app, w_bitl, bitQ_int, wt_bitl, wi_bitl, wb_shl, w_nil, w_cons,
wt_con, wt_var, wt_bin, wt_neg, wt_cmp, wt_cmp2, wt_tup, wt_lst, wt_lnew, wt_idx, wt_slc, wt_call, wt_blt, wt_lc, wt_app, wi_con, wi_var, wi_bin, wi_neg, wi_cmp, wi_cmp2, wi_tup, wi_lst, wi_lnew, wi_idx, wi_slc, wi_call, wi_blt, wi_lc, wi_app, seqQ_tup, seqQ_lst, seqQ_frz, seqQ_loc, tt_not, tt_band, tt_bor, tt_ite, tstQ_bl, tstQ_non, tstQ_int, tstQ_lst, tstQ_tup, wi_rng, rngQ_int, wi_rng2, rng2Q_int, w_lc,
wF_lt, wF_le, wF_gt, wF_ge, wF_isN, wF_notN, wF_eq_int, wF_eq_bl, wF_eq_str, wF_eq_tup, wF_eq_lst, wF_eq_frz, wF_eq_non, wF_ne_int, wF_ne_bl, wF_ne_str, wF_ne_tup, wF_ne_lst, wF_ne_frz, wF_ne_non, wF_isIn_tup, wF_isIn_lst, wF_isIn_frz, wF_notIn_tup, wF_notIn_lst, wF_notIn_frz, wF_eq_ins, wF_eq_insT, wF_eq_insN, wF_eq_insI, wF_ne_ins, wF_bol_ins, blQ_bl, w_bol, wt_bol, wt_lc2, wi_lc2, wbF_int, wbF_lst, wbF_tup, wbF_str, wb_add, wb_sub, wb_mul, wb_fdiv, wb_mod, wb_pow, wb_ladd, wc_lt, wc_le, wc_gt, wc_ge, wc_eq_int, wc_ne_int, wc_eq_bl, wc_ne_bl, wc_isN_int, wc_isN_bl, wc_isN_non, wc_notN_int, wc_notN_tup, wc_notN_non, w_idxD, seq_lst, seq_tup, seq_frz, seq_0, seq_s, len_lst, len_tup, isLoc_int, isLoc_lst, isLoc_tup, ok_ite, mkQ_eq, tss_nil, tss_cons, bindT, bindTs, wipeE, List.zip_nil_left, List.zip_nil_right, List.zip_cons_cons, List.map_nil, List.map_cons, List.nil_append, List.cons_append, List.length_nil, List.length_cons, List.replicate_zero, List.replicate_succ, List.set_cons_zero, List.set_cons_succ, Nat.reduceAdd, Nat.reduceSub, Bool.false_eq_true, Bool.true_eq_false, if_true, if_false, ite_true, ite_false, idxQ_0, idxQ_1, idxQ_2, idxQ_3, idxQ_4, idxQ_5, idxQ_6, idxQ_7, idxQ_8, idxQ_9, idxQ_10, idxQ_11, putQ_0, putQ_1, putQ_2, putQ_3, putQ_4, putQ_5, Bool.not_false]
      refine ⟨trivial, trivial, by show acc.length < 2 ^ 24; omega, trivial, by simp; omega, fun x m => hd x (List.mem_cons_of_mem _ m), fun x m => ?_, .inl (by simp)⟩
      rcases List.mem_append.mp m with m | m
      · exact ha x m
      · have : x = .int z := by simpa using m
        subst this
        exact ⟨z, rfl, z1, z2, nsq_of e⟩
  · exact ⟨rfl, by decide, fun d m => m, fun d m => (nomatch m), .inr ⟨_, rfl⟩⟩

/-! ### numbers and pairs that are drawn -/
def fdARoot (o r : Nat) : Fd where
  npos := 1
  pdf := []
  kdf := []
  star := false
  fresh := false
  ns := 1
  body :=
   [.ret (.call o [.var 0, .lst [.con (.int 2), .con (.int 3), .con (.int 5), .con (.int 99), .call o [.var 0, .call r [] [] []] [] [], .call o [.var 0, .call r [] [] []] [] []]] [] [])]
theorem setset {a b : Ob} : (h.set n a).set n b = h.set n b := List.set_set ..
theorem get_set {a : Ob} (hg : h[n]? = some ob) : (h.set n a)[n]? = some a := List.getElem?_set_self (List.getElem?_eq_some_iff.mp hg).1
theorem isRoot.noLoc {ds : List D} (hd : ∀ d ∈ ds, isRoot d) : noLoc ds = true := by
  unfold GY.noLoc
  exact List.all_eq_true.mpr fun d m => by obtain ⟨z, rfl, _⟩ := hd d m; rfl
theorem aroot_ok {o r p : Nat} (hP : P i = some (fdARoot o r)) (hO : P o = some (fdOf p)) (hp : P p = some fdPull) (hR : P r = some fdRoots) (hN : N < 100000000) (hg : h[n]? = some ob) (hb : Bag N ob)
    (hQ : ∀ z ob', Rt z → Bag (N + 3) ob' → Q (.int z) (h.set n ob')) : OkV XQ (callN P (k + 3) i [.loc n] [] h) Q := by
  refine ok_call hP rfl ?_
  simp only [fdARoot]
  refine ok_one (ok_ret ?_)
  simp only [ok_ok, ok_bind, ok_os, oks_ok, after1_nx, after1_rt, after1_bk, after1_ct, w_con, w_var, varQ_z, varQ_s, w_bin, w_neg, negQ_int, w_not, notQ_bl, w_band, andQ_bl, w_bor, orQ_bl, w_cmp, w_ite, w_tup, w_lst, w_lnew, w_idx, w_slc, w_evo_none, w_evo_some, intQ_int, w_call, w_blt, w_app, w_bitl, bitQ_int, wt_bitl, wi_bitl, wb_shl, w_nil, w_cons,
wt_con, wt_var, wt_bin, wt_neg, wt_cmp, wt_cmp2, wt_tup, wt_lst, wt_lnew, wt_idx, wt_slc, wt_call, wt_blt, wt_lc, wt_app, wi_con, wi_var, wi_bin, wi_neg, wi_cmp, wi_cmp2, wi_tup, wi_lst, wi_lnew, wi_idx, wi_slc, wi_call, wi_blt, wi_lc, wi_app, seqQ_tup, seqQ_lst, seqQ_frz, seqQ_loc, tt_not, tt_band, tt_bor, tt_ite, tstQ_bl, tstQ_non, tstQ_int, tstQ_lst, tstQ_tup, wi_rng, rngQ_int, wi_rng2, rng2Q_int, w_lc,
wF_lt, wF_le, wF_gt, wF_ge, wF_isN, wF_notN, wF_eq_int, wF_eq_bl, wF_eq_str, wF_eq_tup, wF_eq_lst, wF_eq_frz, wF_eq_non, wF_ne_int, wF_ne_bl, wF_ne_str, wF_ne_tup, wF_ne_lst, wF_ne_frz, wF_ne_non, wF_isIn_tup, wF_isIn_lst, wF_isIn_frz, wF_notIn_tup, wF_notIn_lst, wF_notIn_frz, wF_eq_ins, wF_eq_insT, wF_eq_insN, wF_eq_insI, wF_ne_ins, wF_bol_ins, blQ_bl, w_bol, wt_bol, wt_lc2, wi_lc2, wbF_int, wbF_lst, wbF_tup, wbF_str, wb_add, wb_sub, wb_mul, wb_fdiv, wb_mod, wb_pow, wb_ladd, wc_lt, wc_le, wc_gt, wc_ge, wc_eq_int, wc_ne_int, wc_eq_bl, wc_ne_bl, wc_isN_int, wc_isN_bl, wc_isN_non, wc_notN_int, wc_notN_tup, wc_notN_non, w_idxD, seq_lst, seq_tup, seq_frz, seq_0, seq_s, len_lst, len_tup, isLoc_int, isLoc_lst, isLoc_tup, ok_ite, mkQ_eq, tss_nil, tss_cons, bindT, bindTs, wipeE, List.zip_nil_left, List.zip_nil_right, List.zip_cons_cons, List.map_nil, List.map_cons, List.nil_append, List.cons_append, List.length_nil, List.length_cons, List.replicate_zero, List.replicate_succ, List.set_cons_zero, List.set_cons_succ, Nat.reduceAdd, Nat.reduceSub, Bool.false_eq_true, Bool.true_eq_false, if_true, if_false, ite_true, ite_false, idxQ_0, idxQ_1, idxQ_2, idxQ_3, idxQ_4, idxQ_5, idxQ_6, idxQ_7, idxQ_8, idxQ_9, idxQ_10, idxQ_11, putQ_0, putQ_1, putQ_2, putQ_3, putQ_4, putQ_5]
  refine roots_ok hR fun ds h0 h1 h2 => ?_
  refine of_ok hO hp (by omega) hg hb (.inl rfl) h0 (by omega) (isRoot.noLoc h2) fun d ob1 m1 b1 => ?_
  obtain ⟨z1, rfl, a1⟩ := h2 d m1
  refine roots_ok hR fun ds' h0' h1' h2' => ?_
  refine of_ok hO hp (by omega) (get_set hg) b1 (.inl rfl) h0' (by omega) (isRoot.noLoc h2') fun d' ob2 m2 b2 => ?_
  obtain ⟨z2, rfl, a3⟩ := h2' d' m2
  refine ⟨by rfl, ?_⟩
  rw [setset]
  refine of_ok hO hp (by omega) (get_set hg) b2 (.inl rfl) (by simp) (by simp) (by rfl) fun d ob3 m3 b3 => ?_
  have hd : isRoot d := by
    simp only [List.mem_cons, List.not_mem_nil, or_false] at m3
    rcases m3 with rfl | rfl | rfl | rfl | rfl | rfl
    · exact ⟨_, rfl, by decide, by decide, by decide⟩
    · exact ⟨_, rfl, by decide, by decide, by decide⟩
    · exact ⟨_, rfl, by decide, by decide, by decide⟩
    · exact ⟨_, rfl, by decide, by decide, by decide⟩
    · exact ⟨_, rfl, a1⟩
    · exact ⟨_, rfl, a3⟩
  obtain ⟨z, rfl, z1⟩ := hd
  rw [setset, fin_plain rfl (by simp)]
  exact hQ z ob3 z1 b3
def fdAnyPair (o p : Nat) : Fd where
  npos := 1
  pdf := []
  kdf := []
  star := false
  fresh := false
  ns := 2
  body :=
   [.asg (.nm 1) (.call o [.var 0, .lst [.con (.int 2), .con (.int 5), .con (.int 9), .con (.int 30), .bin .pow (.con (.int 10)) (.con (.int 6))]] [] []),
    .ret (.tup [.bin .sub (.call p [.var 0, .bin .add (.bin .mul (.con (.int 2)) (.var 1)) (.con (.int 1))] [] []) (.var 1), .bin .sub (.call p [.var 0, .bin .add (.bin .mul (.con (.int 2)) (.var 1)) (.con (.int 1))] [] []) (.var 1)])]
theorem anypair_ok {o p : Nat} (hP : P i = some (fdAnyPair o p)) (hO : P o = some (fdOf p)) (hp : P p = some fdPull) (hN : N < 100000000) (hg : h[n]? = some ob) (hb : Bag N ob)
    (hQ : ∀ x y ob', -1000000 ≤ x → x ≤ 1000000 → -1000000 ≤ y → y ≤ 1000000 → Bag (N + 3) ob' → Q (.tup [.int x, .int y]) (h.set n ob')) : OkV XQ (callN P (k + 3) i [.loc n] [] h) Q := by
  refine ok_call hP rfl ?_
  simp only [fdAnyPair]
  refine ok_cons (ok_asg ?_)
  simp only [ok_ok, ok_bind, ok_os, oks_ok, after1_nx, after1_rt, after1_bk, after1_ct, w_con, w_var, varQ_z, varQ_s, w_bin, w_neg, negQ_int, w_not, notQ_bl, w_band, andQ_bl, w_bor, orQ_bl, w_cmp, w_ite, w_tup, w_lst, w_lnew, w_idx, w_slc, w_evo_none, w_evo_some, intQ_int, w_call, w_blt, w_app, w_bitl, bitQ_int, wt_bitl, wi_bitl, wb_shl, w_nil, w_cons,
wt_con, wt_var, wt_bin, wt_neg, wt_cmp, wt_cmp2, wt_tup, wt_lst, wt_lnew, wt_idx, wt_slc, wt_call, wt_blt, wt_lc, wt_app, wi_con, wi_var, wi_bin, wi_neg, wi_cmp, wi_cmp2, wi_tup, wi_lst, wi_lnew, wi_idx, wi_slc, wi_call, wi_blt, wi_lc, wi_app, seqQ_tup, seqQ_lst, seqQ_frz, seqQ_loc, tt_not, tt_band, tt_bor, tt_ite, tstQ_bl, tstQ_non, tstQ_int, tstQ_lst, tstQ_tup, wi_rng, rngQ_int, wi_rng2, rng2Q_int, w_lc,
wF_lt, wF_le, wF_gt, wF_ge, wF_isN, wF_notN, wF_eq_int, wF_eq_bl, wF_eq_str, wF_eq_tup, wF_eq_lst, wF_eq_frz, wF_eq_non, wF_ne_int, wF_ne_bl, wF_ne_str, wF_ne_tup, wF_ne_lst, wF_ne_frz, wF_ne_non, wF_isIn_tup, wF_isIn_lst, wF_isIn_frz, wF_notIn_tup, wF_notIn_lst, wF_notIn_frz, wF_eq_ins, wF_eq_insT, wF_eq_insN, wF_eq_insI, wF_ne_ins, wF_bol_ins, blQ_bl, w_bol, wt_bol, wt_lc2, wi_lc2, wbF_int, wbF_lst, wbF_tup, wbF_str, wb_add, wb_sub, wb_mul, wb_fdiv, wb_mod, wb_pow, wb_ladd, wc_lt, wc_le, wc_gt, wc_ge, wc_eq_int, wc_ne_int, wc_eq_bl, wc_ne_bl, wc_isN_int, wc_isN_bl, wc_isN_non, wc_notN_int, wc_notN_tup, wc_notN_non, w_idxD, seq_lst, seq_tup, seq_frz, seq_0, seq_s, len_lst, len_tup, isLoc_int, isLoc_lst, isLoc_tup, ok_ite, mkQ_eq, tss_nil, tss_cons, bindT, bindTs, wipeE, List.zip_nil_left, List.zip_nil_right, List.zip_cons_cons, List.map_nil, List.map_cons, List.nil_append, List.cons_append, List.length_nil, List.length_cons, List.replicate_zero, List.replicate_succ, List.set_cons_zero, List.set_cons_succ, Nat.reduceAdd, Nat.reduceSub, Bool.false_eq_true, Bool.true_eq_false, if_true, if_false, ite_true, ite_false, idxQ_0, idxQ_1, idxQ_2, idxQ_3, idxQ_4, idxQ_5, idxQ_6, idxQ_7, idxQ_8, idxQ_9, idxQ_10, idxQ_11, putQ_0, putQ_1, putQ_2, putQ_3, putQ_4, putQ_5]
  refine ⟨⟨by decide, by decide, by decide⟩, by rfl, ?_⟩
  refine of_ok hO hp (by omega) hg hb (.inl rfl) (by simp) (by simp) (by rfl) fun d ob1 m1 b1 => ?_
  obtain ⟨s, rfl, s1, s2⟩ : ∃ s : Int, d = .int s ∧ 2 ≤ s ∧ s ≤ 1000000 := by
    simp only [List.mem_cons, List.not_mem_nil, or_false] at m1
    rcases m1 with rfl | rfl | rfl | rfl | rfl <;> exact ⟨_, rfl, by decide, by decide⟩
  refine ok_one (ok_ret ?_)
  simp only [ok_ok, ok_bind, ok_os, oks_ok, after1_nx, after1_rt, after1_bk, after1_ct, w_con, w_var, varQ_z, varQ_s, w_bin, w_neg, negQ_int, w_not, notQ_bl, w_band, andQ_bl, w_bor, orQ_bl, w_cmp, w_ite, w_tup, w_lst, w_lnew, w_idx, w_slc, w_evo_none, w_evo_some, intQ_int, w_call, w_blt, w_app, w_bitl, bitQ_int, wt_bitl, wi_bitl, wb_shl, w_nil, w_cons,
wt_con, wt_var, wt_bin, wt_neg, wt_cmp, wt_cmp2, wt_tup, wt_lst, wt_lnew, wt_idx, wt_slc, wt_call, wt_blt, wt_lc, wt_app, wi_con, wi_var, wi_bin, wi_neg, wi_cmp, wi_cmp2, wi_tup, wi_lst, wi_lnew, wi_idx, wi_slc, wi_call, wi_blt, wi_lc, wi_app, seqQ_tup, seqQ_lst, seqQ_frz, seqQ_loc, tt_not, tt_band, tt_bor, tt_ite, tstQ_bl, tstQ_non, tstQ_int, tstQ_lst, tstQ_tup, wi_rng, rngQ_int, wi_rng2, rng2Q_int, w_lc,
wF_lt, wF_le, wF_gt, wF_ge, wF_isN, wF_notN, wF_eq_int, wF_eq_bl, wF_eq_str, wF_eq_tup, wF_eq_lst, wF_eq_frz, wF_eq_non, wF_ne_int, wF_ne_bl, wF_ne_str, wF_ne_tup, wF_ne_lst, wF_ne_frz, wF_ne_non, wF_isIn_tup, wF_isIn_lst, wF_isIn_frz, wF_notIn_tup, wF_notIn_lst, wF_notIn_frz, wF_eq_ins, wF_eq_insT, wF_eq_insN, wF_eq_insI, wF_ne_ins, wF_bol_ins, blQ_bl, w_bol, wt_bol, wt_lc2, wi_lc2, wbF_int, wbF_lst, wbF_tup, wbF_str, wb_add, wb_sub, wb_mul, wb_fdiv, wb_mod, wb_pow, wb_ladd, wc_lt, wc_le, wc_gt, wc_ge, wc_eq_int, wc_ne_int, wc_eq_bl, wc_ne_bl, wc_isN_int, wc_isN_bl, wc_isN_non, wc_notN_int, wc_notN_tup, wc_notN_non, w_idxD, seq_lst, seq_tup, seq_frz, seq_0, seq_s, len_lst, len_tup, isLoc_int, isLoc_lst, isLoc_tup, ok_ite, mkQ_eq, tss_nil, tss_cons, bindT, bindTs, wipeE, List.zip_nil_left, List.zip_nil_right, List.zip_cons_cons, List.map_nil, List.map_cons, List.nil_append, List.cons_append, List.length_nil, List.length_cons, List.replicate_zero, List.replicate_succ, List.set_cons_zero, List.set_cons_succ, Nat.reduceAdd, Nat.reduceSub, Bool.false_eq_true, Bool.true_eq_false, if_true, if_false, ite_true, ite_false, idxQ_0, idxQ_1, idxQ_2, idxQ_3, idxQ_4, idxQ_5, idxQ_6, idxQ_7, idxQ_8, idxQ_9, idxQ_10, idxQ_11, putQ_0, putQ_1, putQ_2, putQ_3, putQ_4, putQ_5]
  have sm : Sm 8999 (2 * s + 1) := Sm.mono (j := 22) (Sm.of 22 (by omega) (by omega)) (by decide)
  refine ⟨(smc (k := 2)).big (Sm.of (k := 21) (x := s) (by omega) (by omega)) (by decide) (by decide), ?_⟩
  refine pull_ok hp (by omega) (get_set hg) b1 (by omega) sm fun x ob2 x1 x2 b2 => ?_
  simp only [ok_ok, ok_bind, ok_os, oks_ok, after1_nx, after1_rt, after1_bk, after1_ct, w_con, w_var, varQ_z, varQ_s, w_bin, w_neg, negQ_int, w_not, notQ_bl, w_band, andQ_bl, w_bor, orQ_bl, w_cmp, w_ite, w_tup, w_lst, w_lnew, w_idx, w_slc, w_evo_none, w_evo_some, intQ_int, w_call, w_blt, w_app, w_bitl, bitQ_int, wt_bitl, wi_bitl, wb_shl, w_nil, w_cons,
wt_con, wt_var, wt_bin, wt_neg, wt_cmp, wt_cmp2, wt_tup, wt_lst, wt_lnew, wt_idx, wt_slc, wt_call, wt_blt, wt_lc, wt_app, wi_con, wi_var, wi_bin, wi_neg, wi_cmp, wi_cmp2, wi_tup, wi_lst, wi_lnew, wi_idx, wi_slc, wi_call, wi_blt, wi_lc, wi_app, seqQ_tup, seqQ_lst, seqQ_frz, seqQ_loc, tt_not, tt_band, tt_bor, tt_ite, tstQ_bl, tstQ_non, tstQ_int, tstQ_lst, tstQ_tup, wi_rng, rngQ_int, wi_rng2, rng2Q_int, w_lc,
wF_lt, wF_le, wF_gt, wF_ge, wF_isN, wF_notN, wF_eq_int, wF_eq_bl, wF_eq_str, wF_eq_tup, wF_eq_lst, wF_eq_frz, wF_eq_non, wF_ne_int, wF_ne_bl, wF_ne_str, wF_ne_tup, wF_ne_lst, wF_ne_frz, wF_ne_non, wF_isIn_tup, wF_isIn_lst, wF_isIn_frz, wF_notIn_tup, wF_notIn_lst, wF_notIn_frz, wF_eq_ins, wF_eq_insT, wF_eq_insN, wF_eq_insI, wF_ne_ins, wF_bol_ins, blQ_bl, w_bol, wt_bol, wt_lc2, wi_lc2, wbF_int, wbF_lst, wbF_tup, wbF_str, wb_add, wb_sub, wb_mul, wb_fdiv, wb_mod, wb_pow, wb_ladd, wc_lt, wc_le, wc_gt, wc_ge, wc_eq_int, wc_ne_int, wc_eq_bl, wc_ne_bl, wc_isN_int, wc_isN_bl, wc_isN_non, wc_notN_int, wc_notN_tup, wc_notN_non, w_idxD, seq_lst, seq_tup, seq_frz, seq_0, seq_s, len_lst, len_tup, isLoc_int, isLoc_lst, isLoc_tup, ok_ite, mkQ_eq, tss_nil, tss_cons, bindT, bindTs, wipeE, List.zip_nil_left, List.zip_nil_right, List.zip_cons_cons, List.map_nil, List.map_cons, List.nil_append, List.cons_append, List.length_nil, List.length_cons, List.replicate_zero, List.replicate_succ, List.set_cons_zero, List.set_cons_succ, Nat.reduceAdd, Nat.reduceSub, Bool.false_eq_true, Bool.true_eq_false, if_true, if_false, ite_true, ite_false, idxQ_0, idxQ_1, idxQ_2, idxQ_3, idxQ_4, idxQ_5, idxQ_6, idxQ_7, idxQ_8, idxQ_9, idxQ_10, idxQ_11, putQ_0, putQ_1, putQ_2, putQ_3, putQ_4, putQ_5]
  refine ⟨(smc (k := 2)).big (Sm.of (k := 21) (x := s) (by omega) (by omega)) (by decide) (by decide), ?_⟩
  refine pull_ok hp (by omega) (get_set (get_set hg)) b2 (by omega) sm fun y ob3 y1 y2 b3 => ?_
  simp only [ok_ok, ok_bind, ok_os, oks_ok, after1_nx, after1_rt, after1_bk, after1_ct, w_con, w_var, varQ_z, varQ_s, w_bin, w_neg, negQ_int, w_not, notQ_bl, w_band, andQ_bl, w_bor, orQ_bl, w_cmp, w_ite, w_tup, w_lst, w_lnew, w_idx, w_slc, w_evo_none, w_evo_some, intQ_int, w_call, w_blt, w_app, w_bitl, bitQ_int, wt_bitl, wi_bitl, wb_shl, w_nil, w_cons,
wt_con, wt_var, wt_bin, wt_neg, wt_cmp, wt_cmp2, wt_tup, wt_lst, wt_lnew, wt_idx, wt_slc, wt_call, wt_blt, wt_lc, wt_app, wi_con, wi_var, wi_bin, wi_neg, wi_cmp, wi_cmp2, wi_tup, wi_lst, wi_lnew, wi_idx, wi_slc, wi_call, wi_blt, wi_lc, wi_app, seqQ_tup, seqQ_lst, seqQ_frz, seqQ_loc, tt_not, tt_band, tt_bor, tt_ite, tstQ_bl, tstQ_non, tstQ_int, tstQ_lst, tstQ_tup, wi_rng, rngQ_int, wi_rng2, rng2Q_int, w_lc,
wF_lt, wF_le, wF_gt, wF_ge, wF_isN, wF_notN, wF_eq_int, wF_eq_bl, wF_eq_str, wF_eq_tup, wF_eq_lst, wF_eq_frz, wF_eq_non, wF_ne_int, wF_ne_bl, wF_ne_str, wF_ne_tup, wF_ne_lst, wF_ne_frz, wF_ne_non, wF_isIn_tup, wF_isIn_lst, wF_isIn_frz, wF_notIn_tup, wF_notIn_lst, wF_notIn_frz, wF_eq_ins, wF_eq_insT, wF_eq_insN, wF_eq_insI, wF_ne_ins, wF_bol_ins, blQ_bl, w_bol, wt_bol, wt_lc2, wi_lc2, wbF_int, wbF_lst, wbF_tup, wbF_str, wb_add, wb_sub, wb_mul, wb_fdiv, wb_mod, wb_pow, wb_ladd, wc_lt, wc_le, wc_gt, wc_ge, wc_eq_int, wc_ne_int, wc_eq_bl, wc_ne_bl, wc_isN_int, wc_isN_bl, wc_isN_non, wc_notN_int, wc_notN_tup, wc_notN_non, w_idxD, seq_lst, seq_tup, seq_frz, seq_0, seq_s, len_lst, len_tup, isLoc_int, isLoc_lst, isLoc_tup, ok_ite, mkQ_eq, tss_nil, tss_cons, bindT, bindTs, wipeE, List.zip_nil_left, List.zip_nil_right, List.zip_cons_cons, List.map_nil, List.map_cons, List.nil_append, List.cons_append, List.length_nil, List.length_cons, List.replicate_zero, List.replicate_succ, List.set_cons_zero, List.set_cons_succ, Nat.reduceAdd, Nat.reduceSub, Bool.false_eq_true, Bool.true_eq_false, if_true, if_false, ite_true, ite_false, idxQ_0, idxQ_1, idxQ_2, idxQ_3, idxQ_4, idxQ_5, idxQ_6, idxQ_7, idxQ_8, idxQ_9, idxQ_10, idxQ_11, putQ_0, putQ_1, putQ_2, putQ_3, putQ_4, putQ_5]
  refine ⟨by rfl, ?_⟩
  rw [setset, setset, fin_plain rfl (by simp)]
  exact hQ _ _ ob3 (by omega) (by omega) (by omega) (by omega) b3
def fdANumber (o p : Nat) : Fd where
  npos := 1
  pdf := []
  kdf := []
  star := false
  fresh := false
  ns := 2
  body :=
   [.asg (.nm 1) (.call o [.var 0, .lst [.con (.int 3), .con (.int 7), .con (.int 13), .con (.int 60), .con (.int 1000), .bin .pow (.con (.int 10)) (.con (.int 9)), .bin .pow (.con (.int 10)) (.con (.int 18))]] [] []),
    .ret (.bin .sub (.call p [.var 0, .bin .add (.bin .mul (.con (.int 2)) (.var 1)) (.con (.int 1))] [] []) (.var 1))]
theorem anumber_ok {o p : Nat} (hP : P i = some (fdANumber o p)) (hO : P o = some (fdOf p)) (hp : P p = some fdPull) (hN : N < 100000000) (hg : h[n]? = some ob) (hb : Bag N ob)
    (hQ : ∀ x ob', -1000000000000000000 ≤ x → x ≤ 1000000000000000000 → Bag (N + 2) ob' → Q (.int x) (h.set n ob')) : OkV XQ (callN P (k + 3) i [.loc n] [] h) Q := by
  refine ok_call hP rfl ?_
  simp only [fdANumber]
  refine ok_cons (ok_asg ?_)
  simp only [ok_ok, ok_bind, ok_os, oks_ok, after1_nx, after1_rt, after1_bk, after1_ct, w_con, w_var, varQ_z, varQ_s, w_bin, w_neg, negQ_int, w_not, notQ_bl, w_band, andQ_bl, w_bor, orQ_bl, w_cmp, w_ite, w_tup, w_lst, w_lnew, w_idx, w_slc, w_evo_none, w_evo_some, intQ_int, w_call, w_blt, w_app, w_bitl, bitQ_int, wt_bitl, wi_bitl, wb_shl, w_nil, w_cons,
wt_con, wt_var, wt_bin, wt_neg, wt_cmp, wt_cmp2, wt_tup, wt_lst, wt_lnew, wt_idx, wt_slc, wt_call, wt_blt, wt_lc, wt_app, wi_con, wi_var, wi_bin, wi_neg, wi_cmp, wi_cmp2, wi_tup, wi_lst, wi_lnew, wi_idx, wi_slc, wi_call, wi_blt, wi_lc, wi_app, seqQ_tup, seqQ_lst, seqQ_frz, seqQ_loc, tt_not, tt_band, tt_bor, tt_ite, tstQ_bl, tstQ_non, tstQ_int, tstQ_lst, tstQ_tup, wi_rng, rngQ_int, wi_rng2, rng2Q_int, w_lc,
wF_lt, wF_le, wF_gt, wF_ge, wF_isN, wF_notN, wF_eq_int, wF_eq_bl, wF_eq_str, wF_eq_tup, wF_eq_lst, wF_eq_frz, wF_eq_non, wF_ne_int, wF_ne_bl, wF_ne_str, wF_ne_tup, wF_ne_lst, wF_ne_frz, wF_ne_non, wF_isIn_tup, wF_isIn_lst, wF_isIn_frz, wF_notIn_tup, wF_notIn_lst, wF_notIn_frz, wF_eq_ins, wF_eq_insT, wF_eq_insN, wF_eq_insI, wF_ne_ins, wF_bol_ins, blQ_bl, w_bol, wt_bol, wt_lc2, wi_lc2, wbF_int, wbF_lst, wbF_tup, wbF_str, wb_add, wb_sub, wb_mul, wb_fdiv, wb_mod, wb_pow, wb_ladd, wc_lt, wc_le, wc_gt, wc_ge, wc_eq_int, wc_ne_int, wc_eq_bl, wc_ne_bl, wc_isN_int, wc_isN_bl, wc_isN_non, wc_notN_int, wc_notN_tup, wc_notN_non, w_idxD, seq_lst, seq_tup, seq_frz, seq_0, seq_s, len_lst, len_tup, isLoc_int, isLoc_lst, isLoc_tup, ok_ite, mkQ_eq, tss_nil, tss_cons, bindT, bindTs, wipeE, List.zip_nil_left, List.zip_nil_right, List.zip_cons_cons, List.map_nil, List.map_cons, List.nil_append, List.cons_append, List.length_nil, List.length_cons, List.replicate_zero, List.replicate_succ, List.set_cons_zero, List.set_cons_succ, Nat.reduceAdd, Nat.reduceSub, Bool.false_eq_true, Bool.true_eq_false, if_true, if_false, ite_true, ite_false, idxQ_0, idxQ_1, idxQ_2, idxQ_3, idxQ_4, idxQ_5, idxQ_6, idxQ_7, idxQ_8, idxQ_9, idxQ_10, idxQ_11, putQ_0, putQ_1, putQ_2, putQ_3, putQ_4, putQ_5]
  refine ⟨⟨by decide, by decide, by decide⟩, ⟨by decide, by decide, by decide⟩, by rfl, ?_⟩
  refine of_ok hO hp (by omega) hg hb (.inl rfl) (by simp) (by simp) (by rfl) fun d ob1 m1 b1 => ?_
  obtain ⟨s, rfl, s1, s2⟩ : ∃ s : Int, d = .int s ∧ 2 ≤ s ∧ s ≤ 1000000000000000000 := by
    simp only [List.mem_cons, List.not_mem_nil, or_false] at m1
    rcases m1 with rfl | rfl | rfl | rfl | rfl | rfl | rfl <;> exact ⟨_, rfl, by decide, by decide⟩
  refine ok_one (ok_ret ?_)
  simp only [ok_ok, ok_bind, ok_os, oks_ok, after1_nx, after1_rt, after1_bk, after1_ct, w_con, w_var, varQ_z, varQ_s, w_bin, w_neg, negQ_int, w_not, notQ_bl, w_band, andQ_bl, w_bor, orQ_bl, w_cmp, w_ite, w_tup, w_lst, w_lnew, w_idx, w_slc, w_evo_none, w_evo_some, intQ_int, w_call, w_blt, w_app, w_bitl, bitQ_int, wt_bitl, wi_bitl, wb_shl, w_nil, w_cons,
wt_con, wt_var, wt_bin, wt_neg, wt_cmp, wt_cmp2, wt_tup, wt_lst, wt_lnew, wt_idx, wt_slc, wt_call, wt_blt, wt_lc, wt_app, wi_con, wi_var, wi_bin, wi_neg, wi_cmp, wi_cmp2, wi_tup, wi_lst, wi_lnew, wi_idx, wi_slc, wi_call, wi_blt, wi_lc, wi_app, seqQ_tup, seqQ_lst, seqQ_frz, seqQ_loc, tt_not, tt_band, tt_bor, tt_ite, tstQ_bl, tstQ_non, tstQ_int, tstQ_lst, tstQ_tup, wi_rng, rngQ_int, wi_rng2, rng2Q_int, w_lc,
wF_lt, wF_le, wF_gt, wF_ge, wF_isN, wF_notN, wF_eq_int, wF_eq_bl, wF_eq_str, wF_eq_tup, wF_eq_lst, wF_eq_frz, wF_eq_non, wF_ne_int, wF_ne_bl, wF_ne_str, wF_ne_tup, wF_ne_lst, wF_ne_frz, wF_ne_non, wF_isIn_tup, wF_isIn_lst, wF_isIn_frz, wF_notIn_tup, wF_notIn_lst, wF_notIn_frz, wF_eq_ins, wF_eq_insT, wF_eq_insN, wF_eq_insI, wF_ne_ins, wF_bol_ins, blQ_bl, w_bol, wt_bol, wt_lc2, wi_lc2, wbF_int, wbF_lst, wbF_tup, wbF_str, wb_add, wb_sub, wb_mul, wb_fdiv, wb_mod, wb_pow, wb_ladd, wc_lt, wc_le, wc_gt, wc_ge, wc_eq_int, wc_ne_int, wc_eq_bl, wc_ne_bl, wc_isN_int, wc_isN_bl, wc_isN_non, wc_notN_int, wc_notN_tup, wc_notN_non, w_idxD, seq_lst, seq_tup, seq_frz, seq_0, seq_s, len_lst, len_tup, isLoc_int, isLoc_lst, isLoc_tup, ok_ite, mkQ_eq, tss_nil, tss_cons, bindT, bindTs, wipeE, List.zip_nil_left, List.zip_nil_right, List.zip_cons_cons, List.map_nil, List.map_cons, List.nil_append, List.cons_append, List.length_nil, List.length_cons, List.replicate_zero, List.replicate_succ, List.set_cons_zero, List.set_cons_succ, Nat.reduceAdd, Nat.reduceSub, Bool.false_eq_true, Bool.true_eq_false, if_true, if_false, ite_true, ite_false, idxQ_0, idxQ_1, idxQ_2, idxQ_3, idxQ_4, idxQ_5, idxQ_6, idxQ_7, idxQ_8, idxQ_9, idxQ_10, idxQ_11, putQ_0, putQ_1, putQ_2, putQ_3, putQ_4, putQ_5]
  have sm : Sm 8999 (2 * s + 1) := Sm.mono (j := 62) (Sm.of 62 (by omega) (by omega)) (by decide)
  refine ⟨(smc (k := 2)).big (Sm.of (k := 61) (x := s) (by omega) (by omega)) (by decide) (by decide), ?_⟩
  refine pull_ok hp (by omega) (get_set hg) b1 (by omega) sm fun x ob2 x1 x2 b2 => ?_
  simp only [ok_ok, ok_bind, ok_os, oks_ok, after1_nx, after1_rt, after1_bk, after1_ct, w_con, w_var, varQ_z, varQ_s, w_bin, w_neg, negQ_int, w_not, notQ_bl, w_band, andQ_bl, w_bor, orQ_bl, w_cmp, w_ite, w_tup, w_lst, w_lnew, w_idx, w_slc, w_evo_none, w_evo_some, intQ_int, w_call, w_blt, w_app, w_bitl, bitQ_int, wt_bitl, wi_bitl, wb_shl, w_nil, w_cons,
wt_con, wt_var, wt_bin, wt_neg, wt_cmp, wt_cmp2, wt_tup, wt_lst, wt_lnew, wt_idx, wt_slc, wt_call, wt_blt, wt_lc, wt_app, wi_con, wi_var, wi_bin, wi_neg, wi_cmp, wi_cmp2, wi_tup, wi_lst, wi_lnew, wi_idx, wi_slc, wi_call, wi_blt, wi_lc, wi_app, seqQ_tup, seqQ_lst, seqQ_frz, seqQ_loc, tt_not, tt_band, tt_bor, tt_ite, tstQ_bl, tstQ_non, tstQ_int, tstQ_lst, tstQ_tup, wi_rng, rngQ_int, wi_rng2, rng2Q_int, w_lc,
wF_lt, wF_le, wF_gt, wF_ge, wF_isN, wF_notN, wF_eq_int, wF_eq_bl, wF_eq_str, wF_eq_tup, wF_eq_lst, wF_eq_frz, wF_eq_non, wF_ne_int, wF_ne_bl, wF_ne_str, wF_ne_tup, wF_ne_lst, wF_ne_frz, wF_ne_non, wF_isIn_tup, wF_isIn_lst, wF_isIn_frz, wF_notIn_tup, wF_notIn_lst, wF_notIn_frz, wF_eq_ins, wF_eq_insT, wF_eq_insN, wF_eq_insI, wF_ne_ins, wF_bol_ins, blQ_bl, w_bol, wt_bol, wt_lc2, wi_lc2, wbF_int, wbF_lst, wbF_tup, wbF_str, wb_add, wb_sub, wb_mul, wb_fdiv, wb_mod, wb_pow, wb_ladd, wc_lt, wc_le, wc_gt, wc_ge, wc_eq_int, wc_ne_int, wc_eq_bl, wc_ne_bl, wc_isN_int, wc_isN_bl, wc_isN_non, wc_notN_int, wc_notN_tup, wc_notN_non, w_idxD, seq_lst, seq_tup, seq_frz, seq_0, seq_s, len_lst, len_tup, isLoc_int, isLoc_lst, isLoc_tup, ok_ite, mkQ_eq, tss_nil, tss_cons, bindT, bindTs, wipeE, List.zip_nil_left, List.zip_nil_right, List.zip_cons_cons, List.map_nil, List.map_cons, List.nil_append, List.cons_append, List.length_nil, List.length_cons, List.replicate_zero, List.replicate_succ, List.set_cons_zero, List.set_cons_succ, Nat.reduceAdd, Nat.reduceSub, Bool.false_eq_true, Bool.true_eq_false, if_true, if_false, ite_true, ite_false, idxQ_0, idxQ_1, idxQ_2, idxQ_3, idxQ_4, idxQ_5, idxQ_6, idxQ_7, idxQ_8, idxQ_9, idxQ_10, idxQ_11, putQ_0, putQ_1, putQ_2, putQ_3, putQ_4, putQ_5]
  rw [setset, fin_plain rfl (by simp)]
  exact hQ _ ob2 (by omega) (by omega) b2
end
end GY

namespace GY
open PySem PySem.Spec PyProof.Rows L2
variable {XQ : D → Hs → Prop}
section
variable {P : Nat → Option Fd} {i j m n N k : Nat} {h : Hs} {ob : Ob} {Q : D → Hs → Prop}
/-! ### alike data -/
/-- d and e are alike, of a depth -/
inductive Lk (h : Hs) : Nat → D → D → Prop
  | int (n : Nat) (i : Int) : Lk h n (.int i) (.int i)
  | bl (n : Nat) (b : Bool) : Lk h n (.bl b) (.bl b)
  | non (n : Nat) : Lk h n .non .non
  | tup {n : Nat} {x y : D} {xs ys : List D} : tyName x h = some "tuple" → tyName y h = some "tuple" → seqOf x h = some xs → seqOf y h = some ys → xs.length ≤ 10000000 → xs.length = ys.length → (∀ (j : Nat) (a b : D), xs[j]? = some a → ys[j]? = some b → Lk h n a b) → Lk h (n + 1) x y
  | lst {n : Nat} {x y : D} {xs ys : List D} : tyName x h = some "list" → tyName y h = some "list" → seqOf x h = some xs → seqOf y h = some ys → xs.length ≤ 10000000 → xs.length = ys.length → (∀ (j : Nat) (a b : D), xs[j]? = some a → ys[j]? = some b → Lk h n a b) → Lk h (n + 1) x y
def fdLike (i : Nat) : Fd where
  npos := 2
  pdf := []
  kdf := []
  star := false
  fresh := false
  ns := 3
  body :=
   [.ifs (.blt (.isT ["tuple", "list"]) [.var 1])
      [.ifs (.bor (.cmp .ne (.blt (.isT ["tuple"]) [.var 0]) (.blt (.isT ["tuple"]) [.var 1])) (.cmp .ne (.blt (.isT ["list"]) [.var 0]) (.blt (.isT ["list"]) [.var 1])))
         [.ret (.con (.bl false))]
         [],
       .ret (.band (.cmp .eq (.blt .len [.var 0]) (.blt .len [.var 1])) (.blt .all_ [.lc [2] (.nm 2) (.rng1 (.blt .len [.var 1])) [] (.call i [.idx (.var 0) (.var 2), .idx (.var 1) (.var 2)] [] [])]))]
      [],
    .ifs (.bor (.cmp .isN (.var 1) (.con .non)) (.cmp .isN (.var 0) (.con .non)))
      [.ret (.band (.cmp .isN (.var 1) (.con .non)) (.cmp .isN (.var 0) (.con .non)))]
      [],
    .ret (.band (.cmp .eq (.blt (.isT ["bool"]) [.var 0]) (.blt (.isT ["bool"]) [.var 1])) (.cmp .eq (.var 0) (.var 1)))]
theorem isT_of {tys : List String} {d : D} {t : String} (e : tyName d h = some t) : OkV XQ (bltD (.isT tys) [d] h) Q = Q (.bl (isTy t tys)) h := by
  show OkV XQ (match tyName d h with | some t => .ok (.bl (isTy t tys)) h | none => .stuck) Q = _
  rw [e]; rfl
theorem isT_int {tys : List String} (x : Int) : OkV XQ (bltD (.isT tys) [.int x] h) Q = Q (.bl (isTy "int" tys)) h := rfl
theorem isT_bl {tys : List String} (x : Bool) : OkV XQ (bltD (.isT tys) [.bl x] h) Q = Q (.bl (isTy "bool" tys)) h := rfl
theorem isT_non {tys : List String} : OkV XQ (bltD (.isT tys) [.non] h) Q = Q (.bl (isTy "NoneType" tys)) h := rfl
theorem isT_tup {tys : List String} (x : List D) : OkV XQ (bltD (.isT tys) [.tup x] h) Q = Q (.bl (isTy "tuple" tys)) h := rfl
theorem isT_lst {tys : List String} (x : List D) : OkV XQ (bltD (.isT tys) [.lst x] h) Q = Q (.bl (isTy "list" tys)) h := rfl
theorem len_seq {d : D} {ds : List D} (e : seqOf d h = some ds) : OkV XQ (bltD .len [d] h) Q = Q (.int ds.length) h := by
  have e2 : lenD d h = .ok (.int ds.length) h := by
    unfold lenD
    cases d <;> first | (simp only [e]; done) | (cases e; done) | simp [e]
  show OkV XQ (lenD d h) Q = _
  rw [e2]; rfl
theorem bools_rep : ∀ n : Nat, bools? (List.replicate n (.bl true)) = some (List.replicate n true)
  | 0 => rfl
  | n + 1 => by rw [List.replicate_succ, bools?, bools_rep n]; rfl
theorem all_rep (n : Nat) : OkV XQ (bltD .all_ [.lst (List.replicate n (.bl true))] h) Q = Q (.bl true) h := by
  show OkV XQ (match (lstOf (.lst (List.replicate n (.bl true))) h).bind bools? with | some bs => .ok (.bl (bs.all id)) h | none => .stuck) Q = _
  have e : (lstOf (.lst (List.replicate n (.bl true))) h).bind bools? = some (List.replicate n true) := bools_rep n
  rw [e]
  show Q (.bl ((List.replicate n true).all id)) h = _
  congr 2
  induction n with
  | zero => rfl
  | succ n ih => rw [List.replicate_succ, List.all_cons, ih (by exact bools_rep n)]; rfl
theorem rng_drop {n t : Nat} {d : D} {ds : List D} (e : d :: ds = (rngD 0 n).drop t) : t < n ∧ d = .int t ∧ ds = (rngD 0 n).drop (t + 1) := by
  have hl : (rngD 0 n).length = n := by simp [rngD]
  have ht : t < n := Classical.byContradiction fun z => by
    rw [List.drop_eq_nil_of_le (by omega)] at e; cases e
  rw [List.drop_eq_getElem_cons (by omega)] at e
  injection e with e1 e2
  refine ⟨ht, ?_, e2⟩
  rw [e1]
  simp [rngD]
theorem like_ok (hP : P i = some (fdLike i)) : ∀ {m : Nat} {XQ : D → Hs → Prop} {x y : D} {k : Nat} {Q : D → Hs → Prop}, Lk h m x y → Q (.bl true) h → OkV XQ (callN P (k + m + 1) i [x, y] [] h) Q := by
  have seq : ∀ {XQ : D → Hs → Prop} {m : Nat} {x y : D} {k : Nat} {Q : D → Hs → Prop} {t : String} {xs ys : List D}, (∀ {XQ : D → Hs → Prop} {a b : D} {Q : D → Hs → Prop}, Lk h m a b → Q (.bl true) h → OkV XQ (callN P (k + m + 1) i [a, b] [] h) Q) → (t = "tuple" ∨ t = "list") → tyName x h = some t → tyName y h = some t → seqOf x h = some xs → seqOf y h = some ys → xs.length ≤ 10000000 → xs.length = ys.length →
      (∀ (j : Nat) (a b : D), xs[j]? = some a → ys[j]? = some b → Lk h m a b) → Q (.bl true) h → OkV XQ (callN P (k + (m + 1) + 1) i [x, y] [] h) Q := by
    intro XQ m x y k Q t xs ys ih ht tx ty sx sy hz hl hlk q
    refine ok_call hP rfl ?_
    simp only [fdLike]
    refine ok_cons (ok_if ?_)
    simp only [ok_ok, ok_bind, ok_os, oks_ok, after1_nx, after1_rt, after1_bk, after1_ct, w_con, w_var, varQ_z, varQ_s, w_bin, w_neg, negQ_int, w_not, notQ_bl, w_band, andQ_bl, w_bor, orQ_bl, w_cmp, w_ite, w_tup, w_lst, w_lnew, w_idx, w_slc, w_evo_none, w_evo_some, intQ_int, w_call, w_blt, w_app, w_bitl, bitQ_int, wt_bitl, wi_bitl, wb_shl, w_nil, w_cons,
wt_con, wt_var, wt_bin, wt_neg, wt_cmp, wt_cmp2, wt_tup, wt_lst, wt_lnew, wt_idx, wt_slc, wt_call, wt_blt, wt_lc, wt_app, wi_con, wi_var, wi_bin, wi_neg, wi_cmp, wi_cmp2, wi_tup, wi_lst, wi_lnew, wi_idx, wi_slc, wi_call, wi_blt, wi_lc, wi_app, seqQ_tup, seqQ_lst, seqQ_frz, seqQ_loc, tt_not, tt_band, tt_bor, tt_ite, tstQ_bl, tstQ_non, tstQ_int, tstQ_lst, tstQ_tup, wi_rng, rngQ_int, wi_rng2, rng2Q_int, w_lc,
wF_lt, wF_le, wF_gt, wF_ge, wF_isN, wF_notN, wF_eq_int, wF_eq_bl, wF_eq_str, wF_eq_tup, wF_eq_lst, wF_eq_frz, wF_eq_non, wF_ne_int, wF_ne_bl, wF_ne_str, wF_ne_tup, wF_ne_lst, wF_ne_frz, wF_ne_non, wF_isIn_tup, wF_isIn_lst, wF_isIn_frz, wF_notIn_tup, wF_notIn_lst, wF_notIn_frz, wF_eq_ins, wF_eq_insT, wF_eq_insN, wF_eq_insI, wF_ne_ins, wF_bol_ins, blQ_bl, w_bol, wt_bol, wt_lc2, wi_lc2, wbF_int, wbF_lst, wbF_tup, wbF_str, wb_add, wb_sub, wb_mul, wb_fdiv, wb_mod, wb_pow, wb_ladd, wc_lt, wc_le, wc_gt, wc_ge, wc_eq_int, wc_ne_int, wc_eq_bl, wc_ne_bl, wc_isN_int, wc_isN_bl, wc_isN_non, wc_notN_int, wc_notN_tup, wc_notN_non, w_idxD, seq_lst, seq_tup, seq_frz, seq_0, seq_s, len_lst, len_tup, isLoc_int, isLoc_lst, isLoc_tup, ok_ite, mkQ_eq, tss_nil, tss_cons, bindT, bindTs, wipeE, List.zip_nil_left, List.zip_nil_right, List.zip_cons_cons, List.map_nil, List.map_cons, List.nil_append, List.cons_append, List.length_nil, List.length_cons, List.replicate_zero, List.replicate_succ, List.set_cons_zero, List.set_cons_succ, Nat.reduceAdd, Nat.reduceSub, Bool.false_eq_true, Bool.true_eq_false, if_true, if_false, ite_true, ite_false, idxQ_0, idxQ_1, idxQ_2, idxQ_3, idxQ_4, idxQ_5, idxQ_6, idxQ_7, idxQ_8, idxQ_9, idxQ_10, idxQ_11, putQ_0, putQ_1, putQ_2, putQ_3, putQ_4, putQ_5, isT_of ty]
    have e1 : isTy t ["tuple", "list"] = true := by rcases ht with rfl | rfl <;> decide
    rw [e1, if_pos rfl]
    refine ok_cons (ok_if ?_)
    have e2 : isTy t ["tuple"] = isTy t ["tuple"] := rfl
    simp only [ok_ok, ok_bind, ok_os, oks_ok, after1_nx, after1_rt, after1_bk, after1_ct, w_con, w_var, varQ_z, varQ_s, w_bin, w_neg, negQ_int, w_not, notQ_bl, w_band, andQ_bl, w_bor, orQ_bl, w_cmp, w_ite, w_tup, w_lst, w_lnew, w_idx, w_slc, w_evo_none, w_evo_some, intQ_int, w_call, w_blt, w_app, w_bitl, bitQ_int, wt_bitl, wi_bitl, wb_shl, w_nil, w_cons,
wt_con, wt_var, wt_bin, wt_neg, wt_cmp, wt_cmp2, wt_tup, wt_lst, wt_lnew, wt_idx, wt_slc, wt_call, wt_blt, wt_lc, wt_app, wi_con, wi_var, wi_bin, wi_neg, wi_cmp, wi_cmp2, wi_tup, wi_lst, wi_lnew, wi_idx, wi_slc, wi_call, wi_blt, wi_lc, wi_app, seqQ_tup, seqQ_lst, seqQ_frz, seqQ_loc, tt_not, tt_band, tt_bor, tt_ite, tstQ_bl, tstQ_non, tstQ_int, tstQ_lst, tstQ_tup, wi_rng, rngQ_int, wi_rng2, rng2Q_int, w_lc,
wF_lt, wF_le, wF_gt, wF_ge, wF_isN, wF_notN, wF_eq_int, wF_eq_bl, wF_eq_str, wF_eq_tup, wF_eq_lst, wF_eq_frz, wF_eq_non, wF_ne_int, wF_ne_bl, wF_ne_str, wF_ne_tup, wF_ne_lst, wF_ne_frz, wF_ne_non, wF_isIn_tup, wF_isIn_lst, wF_isIn_frz, wF_notIn_tup, wF_notIn_lst, wF_notIn_frz, wF_eq_ins, wF_eq_insT, wF_eq_insN, wF_eq_insI, wF_ne_ins, wF_bol_ins, blQ_bl, w_bol, wt_bol, wt_lc2, wi_lc2, wbF_int, wbF_lst, wbF_tup, wbF_str, wb_add, wb_sub, wb_mul, wb_fdiv, wb_mod, wb_pow, wb_ladd, wc_lt, wc_le, wc_gt, wc_ge, wc_eq_int, wc_ne_int, wc_eq_bl, wc_ne_bl, wc_isN_int, wc_isN_bl, wc_isN_non, wc_notN_int, wc_notN_tup, wc_notN_non, w_idxD, seq_lst, seq_tup, seq_frz, seq_0, seq_s, len_lst, len_tup, isLoc_int, isLoc_lst, isLoc_tup, ok_ite, mkQ_eq, tss_nil, tss_cons, bindT, bindTs, wipeE, List.zip_nil_left, List.zip_nil_right, List.zip_cons_cons, List.map_nil, List.map_cons, List.nil_append, List.cons_append, List.length_nil, List.length_cons, List.replicate_zero, List.replicate_succ, List.set_cons_zero, List.set_cons_succ, Nat.reduceAdd, Nat.reduceSub, Bool.false_eq_true, Bool.true_eq_false, if_true, if_false, ite_true, ite_false, idxQ_0, idxQ_1, idxQ_2, idxQ_3, idxQ_4, idxQ_5, idxQ_6, idxQ_7, idxQ_8, idxQ_9, idxQ_10, idxQ_11, putQ_0, putQ_1, putQ_2, putQ_3, putQ_4, putQ_5, isT_of ty, isT_of tx, beq_self_eq_true, Bool.not_true, ok_nil]
    refine ok_one (ok_ret ?_)
    simp only [ok_ok, ok_bind, ok_os, oks_ok, after1_nx, after1_rt, after1_bk, after1_ct, w_con, w_var, varQ_z, varQ_s, w_bin, w_neg, negQ_int, w_not, notQ_bl, w_band, andQ_bl, w_bor, orQ_bl, w_cmp, w_ite, w_tup, w_lst, w_lnew, w_idx, w_slc, w_evo_none, w_evo_some, intQ_int, w_call, w_blt, w_app, w_bitl, bitQ_int, wt_bitl, wi_bitl, wb_shl, w_nil, w_cons,
wt_con, wt_var, wt_bin, wt_neg, wt_cmp, wt_cmp2, wt_tup, wt_lst, wt_lnew, wt_idx, wt_slc, wt_call, wt_blt, wt_lc, wt_app, wi_con, wi_var, wi_bin, wi_neg, wi_cmp, wi_cmp2, wi_tup, wi_lst, wi_lnew, wi_idx, wi_slc, wi_call, wi_blt, wi_lc, wi_app, seqQ_tup, seqQ_lst, seqQ_frz, seqQ_loc, tt_not, tt_band, tt_bor, tt_ite, tstQ_bl, tstQ_non, tstQ_int, tstQ_lst, tstQ_tup, wi_rng, rngQ_int, wi_rng2, rng2Q_int, w_lc,
wF_lt, wF_le, wF_gt, wF_ge, wF_isN, wF_notN, wF_eq_int, wF_eq_bl, wF_eq_str, wF_eq_tup, wF_eq_lst, wF_eq_frz, wF_eq_non, wF_ne_int, wF_ne_bl, wF_ne_str, wF_ne_tup, wF_ne_lst, wF_ne_frz, wF_ne_non, wF_isIn_tup, wF_isIn_lst, wF_isIn_frz, wF_notIn_tup, wF_notIn_lst, wF_notIn_frz, wF_eq_ins, wF_eq_insT, wF_eq_insN, wF_eq_insI, wF_ne_ins, wF_bol_ins, blQ_bl, w_bol, wt_bol, wt_lc2, wi_lc2, wbF_int, wbF_lst, wbF_tup, wbF_str, wb_add, wb_sub, wb_mul, wb_fdiv, wb_mod, wb_pow, wb_ladd, wc_lt, wc_le, wc_gt, wc_ge, wc_eq_int, wc_ne_int, wc_eq_bl, wc_ne_bl, wc_isN_int, wc_isN_bl, wc_isN_non, wc_notN_int, wc_notN_tup, wc_notN_non, w_idxD, seq_lst, seq_tup, seq_frz, seq_0, seq_s, len_lst, len_tup, isLoc_int, isLoc_lst, isLoc_tup, ok_ite, mkQ_eq, tss_nil, tss_cons, bindT, bindTs, wipeE, List.zip_nil_left, List.zip_nil_right, List.zip_cons_cons, List.map_nil, List.map_cons, List.nil_append, List.cons_append, List.length_nil, List.length_cons, List.replicate_zero, List.replicate_succ, List.set_cons_zero, List.set_cons_succ, Nat.reduceAdd, Nat.reduceSub, Bool.false_eq_true, Bool.true_eq_false, if_true, if_false, ite_true, ite_false, idxQ_0, idxQ_1, idxQ_2, idxQ_3, idxQ_4, idxQ_5, idxQ_6, idxQ_7, idxQ_8, idxQ_9, idxQ_10, idxQ_11, putQ_0, putQ_1, putQ_2, putQ_3, putQ_4, putQ_5, len_seq sx, len_seq sy, hl, beq_self_eq_true]
    refine ⟨⟨by omega, by omega⟩, ?_⟩
    refine ok_compL (fun ds acc h' => h' = h ∧ ∃ t, t ≤ ys.length ∧ ds = (rngD 0 (ys.length : Int)).drop t ∧ acc = List.replicate t (.bl true)) ?_ ?_ ⟨rfl, 0, by omega, rfl, rfl⟩
    · rintro acc h' ⟨rfl, t, ht, e, rfl⟩
      have : ys.length ≤ t := by
        have z : (rngD 0 (ys.length : Int)).length = ys.length := by simp [rngD]
        have := congrArg List.length e
        simp only [List.length_nil, List.length_drop, z] at this
        omega
      have et : t = ys.length := by omega
      subst et
      simp only [all_rep]
      rw [fin_plain rfl (Nat.le_refl _)]
      exact q
    · rintro d ds acc h' ⟨rfl, t, ht, e, rfl⟩
      obtain ⟨lt, rfl, rfl⟩ := rng_drop e
      simp only [ok_ok, ok_bind, ok_os, oks_ok, after1_nx, after1_rt, after1_bk, after1_ct, w_con, w_var, varQ_z, varQ_s, w_bin, w_neg, negQ_int, w_not, notQ_bl, w_band, andQ_bl, w_bor, orQ_bl, w_cmp, w_ite, w_tup, w_lst, w_lnew, w_idx, w_slc, w_evo_none, w_evo_some, intQ_int, w_call, w_blt, w_app, w_bitl, bitQ_int, wt_bitl, wi_bitl, wb_shl, w_nil, w_cons,
wt_con, wt_var, wt_bin, wt_neg, wt_cmp, wt_cmp2, wt_tup, wt_lst, wt_lnew, wt_idx, wt_slc, wt_call, wt_blt, wt_lc, wt_app, wi_con, wi_var, wi_bin, wi_neg, wi_cmp, wi_cmp2, wi_tup, wi_lst, wi_lnew, wi_idx, wi_slc, wi_call, wi_blt, wi_lc, wi_app, seqQ_tup, seqQ_lst, seqQ_frz, seqQ_loc, tt_not, tt_band, tt_bor, tt_ite, tstQ_bl, tstQ_non, tstQ_int, tstQ_lst, tstQ_tup, wi_rng, rngQ_int, wi_rng2, rng2Q_int, w_lc,
wF_lt, wF_le, wF_gt, wF_ge, wF_isN, wF_notN, wF_eq_int, wF_eq_bl, wF_eq_str, wF_eq_tup, wF_eq_lst, wF_eq_frz, wF_eq_non, wF_ne_int, wF_ne_bl, wF_ne_str, wF_ne_tup, wF_ne_lst, wF_ne_frz, wF_ne_non, wF_isIn_tup, wF_isIn_lst, wF_isIn_frz, wF_notIn_tup, wF_notIn_lst, wF_notIn_frz, wF_eq_ins, wF_eq_insT, wF_eq_insN, wF_eq_insI, wF_ne_ins, wF_bol_ins, blQ_bl, w_bol, wt_bol, wt_lc2, wi_lc2, wbF_int, wbF_lst, wbF_tup, wbF_str, wb_add, wb_sub, wb_mul, wb_fdiv, wb_mod, wb_pow, wb_ladd, wc_lt, wc_le, wc_gt, wc_ge, wc_eq_int, wc_ne_int, wc_eq_bl, wc_ne_bl, wc_isN_int, wc_isN_bl, wc_isN_non, wc_notN_int, wc_notN_tup, wc_notN_non, w_idxD, seq_lst, seq_tup, seq_frz, seq_0, seq_s, len_lst, len_tup, isLoc_int, isLoc_lst, isLoc_tup, ok_ite, mkQ_eq, tss_nil, tss_cons, bindT, bindTs, wipeE, List.zip_nil_left, List.zip_nil_right, List.zip_cons_cons, List.map_nil, List.map_cons, List.nil_append, List.cons_append, List.length_nil, List.length_cons, List.replicate_zero, List.replicate_succ, List.set_cons_zero, List.set_cons_succ, Nat.reduceAdd, Nat.reduceSub, Bool.false_eq_true, Bool.true_eq_false, if_true, if_false, ite_true, ite_false, idxQ_0, idxQ_1, idxQ_2, idxQ_3, idxQ_4, idxQ_5, idxQ_6, idxQ_7, idxQ_8, idxQ_9, idxQ_10, idxQ_11, putQ_0, putQ_1, putQ_2, putQ_3, putQ_4, putQ_5, sx, sy]
      have gx : xs[t]? = some xs[t] := List.getElem?_eq_getElem (by omega)
      have gy : ys[t]? = some ys[t] := List.getElem?_eq_getElem (by omega)
      rw [idxQ_nat gx, idxQ_nat gy]
      refine ih (hlk t _ _ gx gy) ?_
      refine ⟨trivial, rfl, by rw [List.length_replicate]; show t < 2 ^ 24; omega, rfl, t + 1, by omega, rfl, ?_⟩
      rw [List.replicate_succ']
  intro m
  induction m with
  | zero =>
    intro XQ x y k Q l q
    refine ok_call hP rfl ?_
    simp only [fdLike]
    cases l with
    | int =>
      refine ok_cons (ok_if ?_)
      simp only [ok_ok, ok_bind, ok_os, oks_ok, after1_nx, after1_rt, after1_bk, after1_ct, w_con, w_var, varQ_z, varQ_s, w_bin, w_neg, negQ_int, w_not, notQ_bl, w_band, andQ_bl, w_bor, orQ_bl, w_cmp, w_ite, w_tup, w_lst, w_lnew, w_idx, w_slc, w_evo_none, w_evo_some, intQ_int, w_call, w_blt, w_app, w_bitl, bitQ_int, wt_bitl, wi_bitl, wb_shl, w_nil, w_cons,
wt_con, wt_var, wt_bin, wt_neg, wt_cmp, wt_cmp2, wt_tup, wt_lst, wt_lnew, wt_idx, wt_slc, wt_call, wt_blt, wt_lc, wt_app, wi_con, wi_var, wi_bin, wi_neg, wi_cmp, wi_cmp2, wi_tup, wi_lst, wi_lnew, wi_idx, wi_slc, wi_call, wi_blt, wi_lc, wi_app, seqQ_tup, seqQ_lst, seqQ_frz, seqQ_loc, tt_not, tt_band, tt_bor, tt_ite, tstQ_bl, tstQ_non, tstQ_int, tstQ_lst, tstQ_tup, wi_rng, rngQ_int, wi_rng2, rng2Q_int, w_lc,
wF_lt, wF_le, wF_gt, wF_ge, wF_isN, wF_notN, wF_eq_int, wF_eq_bl, wF_eq_str, wF_eq_tup, wF_eq_lst, wF_eq_frz, wF_eq_non, wF_ne_int, wF_ne_bl, wF_ne_str, wF_ne_tup, wF_ne_lst, wF_ne_frz, wF_ne_non, wF_isIn_tup, wF_isIn_lst, wF_isIn_frz, wF_notIn_tup, wF_notIn_lst, wF_notIn_frz, wF_eq_ins, wF_eq_insT, wF_eq_insN, wF_eq_insI, wF_ne_ins, wF_bol_ins, blQ_bl, w_bol, wt_bol, wt_lc2, wi_lc2, wbF_int, wbF_lst, wbF_tup, wbF_str, wb_add, wb_sub, wb_mul, wb_fdiv, wb_mod, wb_pow, wb_ladd, wc_lt, wc_le, wc_gt, wc_ge, wc_eq_int, wc_ne_int, wc_eq_bl, wc_ne_bl, wc_isN_int, wc_isN_bl, wc_isN_non, wc_notN_int, wc_notN_tup, wc_notN_non, w_idxD, seq_lst, seq_tup, seq_frz, seq_0, seq_s, len_lst, len_tup, isLoc_int, isLoc_lst, isLoc_tup, ok_ite, mkQ_eq, tss_nil, tss_cons, bindT, bindTs, wipeE, List.zip_nil_left, List.zip_nil_right, List.zip_cons_cons, List.map_nil, List.map_cons, List.nil_append, List.cons_append, List.length_nil, List.length_cons, List.replicate_zero, List.replicate_succ, List.set_cons_zero, List.set_cons_succ, Nat.reduceAdd, Nat.reduceSub, Bool.false_eq_true, Bool.true_eq_false, if_true, if_false, ite_true, ite_false, idxQ_0, idxQ_1, idxQ_2, idxQ_3, idxQ_4, idxQ_5, idxQ_6, idxQ_7, idxQ_8, idxQ_9, idxQ_10, idxQ_11, putQ_0, putQ_1, putQ_2, putQ_3, putQ_4, putQ_5, isT_int, show isTy "int" ["tuple", "list"] = false from by decide, ok_nil]
      refine ok_cons (ok_if ?_)
      simp only [ok_ok, ok_bind, ok_os, oks_ok, after1_nx, after1_rt, after1_bk, after1_ct, w_con, w_var, varQ_z, varQ_s, w_bin, w_neg, negQ_int, w_not, notQ_bl, w_band, andQ_bl, w_bor, orQ_bl, w_cmp, w_ite, w_tup, w_lst, w_lnew, w_idx, w_slc, w_evo_none, w_evo_some, intQ_int, w_call, w_blt, w_app, w_bitl, bitQ_int, wt_bitl, wi_bitl, wb_shl, w_nil, w_cons,
wt_con, wt_var, wt_bin, wt_neg, wt_cmp, wt_cmp2, wt_tup, wt_lst, wt_lnew, wt_idx, wt_slc, wt_call, wt_blt, wt_lc, wt_app, wi_con, wi_var, wi_bin, wi_neg, wi_cmp, wi_cmp2, wi_tup, wi_lst, wi_lnew, wi_idx, wi_slc, wi_call, wi_blt, wi_lc, wi_app, seqQ_tup, seqQ_lst, seqQ_frz, seqQ_loc, tt_not, tt_band, tt_bor, tt_ite, tstQ_bl, tstQ_non, tstQ_int, tstQ_lst, tstQ_tup, wi_rng, rngQ_int, wi_rng2, rng2Q_int, w_lc,
wF_lt, wF_le, wF_gt, wF_ge, wF_isN, wF_notN, wF_eq_int, wF_eq_bl, wF_eq_str, wF_eq_tup, wF_eq_lst, wF_eq_frz, wF_eq_non, wF_ne_int, wF_ne_bl, wF_ne_str, wF_ne_tup, wF_ne_lst, wF_ne_frz, wF_ne_non, wF_isIn_tup, wF_isIn_lst, wF_isIn_frz, wF_notIn_tup, wF_notIn_lst, wF_notIn_frz, wF_eq_ins, wF_eq_insT, wF_eq_insN, wF_eq_insI, wF_ne_ins, wF_bol_ins, blQ_bl, w_bol, wt_bol, wt_lc2, wi_lc2, wbF_int, wbF_lst, wbF_tup, wbF_str, wb_add, wb_sub, wb_mul, wb_fdiv, wb_mod, wb_pow, wb_ladd, wc_lt, wc_le, wc_gt, wc_ge, wc_eq_int, wc_ne_int, wc_eq_bl, wc_ne_bl, wc_isN_int, wc_isN_bl, wc_isN_non, wc_notN_int, wc_notN_tup, wc_notN_non, w_idxD, seq_lst, seq_tup, seq_frz, seq_0, seq_s, len_lst, len_tup, isLoc_int, isLoc_lst, isLoc_tup, ok_ite, mkQ_eq, tss_nil, tss_cons, bindT, bindTs, wipeE, List.zip_nil_left, List.zip_nil_right, List.zip_cons_cons, List.map_nil, List.map_cons, List.nil_append, List.cons_append, List.length_nil, List.length_cons, List.replicate_zero, List.replicate_succ, List.set_cons_zero, List.set_cons_succ, Nat.reduceAdd, Nat.reduceSub, Bool.false_eq_true, Bool.true_eq_false, if_true, if_false, ite_true, ite_false, idxQ_0, idxQ_1, idxQ_2, idxQ_3, idxQ_4, idxQ_5, idxQ_6, idxQ_7, idxQ_8, idxQ_9, idxQ_10, idxQ_11, putQ_0, putQ_1, putQ_2, putQ_3, putQ_4, putQ_5, ok_nil]
      refine ok_one (ok_ret ?_)
      simp only [ok_ok, ok_bind, ok_os, oks_ok, after1_nx, after1_rt, after1_bk, after1_ct, w_con, w_var, varQ_z, varQ_s, w_bin, w_neg, negQ_int, w_not, notQ_bl, w_band, andQ_bl, w_bor, orQ_bl, w_cmp, w_ite, w_tup, w_lst, w_lnew, w_idx, w_slc, w_evo_none, w_evo_some, intQ_int, w_call, w_blt, w_app, w_bitl, bitQ_int, wt_bitl, wi_bitl, wb_shl, w_nil, w_cons,
wt_con, wt_var, wt_bin, wt_neg, wt_cmp, wt_cmp2, wt_tup, wt_lst, wt_lnew, wt_idx, wt_slc, wt_call, wt_blt, wt_lc, wt_app, wi_con, wi_var, wi_bin, wi_neg, wi_cmp, wi_cmp2, wi_tup, wi_lst, wi_lnew, wi_idx, wi_slc, wi_call, wi_blt, wi_lc, wi_app, seqQ_tup, seqQ_lst, seqQ_frz, seqQ_loc, tt_not, tt_band, tt_bor, tt_ite, tstQ_bl, tstQ_non, tstQ_int, tstQ_lst, tstQ_tup, wi_rng, rngQ_int, wi_rng2, rng2Q_int, w_lc,
wF_lt, wF_le, wF_gt, wF_ge, wF_isN, wF_notN, wF_eq_int, wF_eq_bl, wF_eq_str, wF_eq_tup, wF_eq_lst, wF_eq_frz, wF_eq_non, wF_ne_int, wF_ne_bl, wF_ne_str, wF_ne_tup, wF_ne_lst, wF_ne_frz, wF_ne_non, wF_isIn_tup, wF_isIn_lst, wF_isIn_frz, wF_notIn_tup, wF_notIn_lst, wF_notIn_frz, wF_eq_ins, wF_eq_insT, wF_eq_insN, wF_eq_insI, wF_ne_ins, wF_bol_ins, blQ_bl, w_bol, wt_bol, wt_lc2, wi_lc2, wbF_int, wbF_lst, wbF_tup, wbF_str, wb_add, wb_sub, wb_mul, wb_fdiv, wb_mod, wb_pow, wb_ladd, wc_lt, wc_le, wc_gt, wc_ge, wc_eq_int, wc_ne_int, wc_eq_bl, wc_ne_bl, wc_isN_int, wc_isN_bl, wc_isN_non, wc_notN_int, wc_notN_tup, wc_notN_non, w_idxD, seq_lst, seq_tup, seq_frz, seq_0, seq_s, len_lst, len_tup, isLoc_int, isLoc_lst, isLoc_tup, ok_ite, mkQ_eq, tss_nil, tss_cons, bindT, bindTs, wipeE, List.zip_nil_left, List.zip_nil_right, List.zip_cons_cons, List.map_nil, List.map_cons, List.nil_append, List.cons_append, List.length_nil, List.length_cons, List.replicate_zero, List.replicate_succ, List.set_cons_zero, List.set_cons_succ, Nat.reduceAdd, Nat.reduceSub, Bool.false_eq_true, Bool.true_eq_false, if_true, if_false, ite_true, ite_false, idxQ_0, idxQ_1, idxQ_2, idxQ_3, idxQ_4, idxQ_5, idxQ_6, idxQ_7, idxQ_8, idxQ_9, idxQ_10, idxQ_11, putQ_0, putQ_1, putQ_2, putQ_3, putQ_4, putQ_5, isT_int, beq_self_eq_true]
      rw [fin_plain rfl (Nat.le_refl _)]
      exact q
    | bl =>
      refine ok_cons (ok_if ?_)
      simp only [ok_ok, ok_bind, ok_os, oks_ok, after1_nx, after1_rt, after1_bk, after1_ct, w_con, w_var, varQ_z, varQ_s, w_bin, w_neg, negQ_int, w_not, notQ_bl, w_band, andQ_bl, w_bor, orQ_bl, w_cmp, w_ite, w_tup, w_lst, w_lnew, w_idx, w_slc, w_evo_none, w_evo_some, intQ_int, w_call, w_blt, w_app, w_bitl, bitQ_int, wt_bitl, wi_bitl, wb_shl, w_nil, w_cons,
wt_con, wt_var, wt_bin, wt_neg, wt_cmp, wt_cmp2, wt_tup, wt_lst, wt_lnew, wt_idx, wt_slc, wt_call, wt_blt, wt_lc, wt_app, wi_con, wi_var, wi_bin, wi_neg, wi_cmp, wi_cmp2, wi_tup, wi_lst, wi_lnew, wi_idx, wi_slc, wi_call, wi_blt, wi_lc, wi_app, seqQ_tup, seqQ_lst, seqQ_frz, seqQ_loc, tt_not, tt_band, tt_bor, tt_ite, tstQ_bl, tstQ_non, tstQ_int, tstQ_lst, tstQ_tup, wi_rng, rngQ_int, wi_rng2, rng2Q_int, w_lc,
wF_lt, wF_le, wF_gt, wF_ge, wF_isN, wF_notN, wF_eq_int, wF_eq_bl, wF_eq_str, wF_eq_tup, wF_eq_lst, wF_eq_frz, wF_eq_non, wF_ne_int, wF_ne_bl, wF_ne_str, wF_ne_tup, wF_ne_lst, wF_ne_frz, wF_ne_non, wF_isIn_tup, wF_isIn_lst, wF_isIn_frz, wF_notIn_tup, wF_notIn_lst, wF_notIn_frz, wF_eq_ins, wF_eq_insT, wF_eq_insN, wF_eq_insI, wF_ne_ins, wF_bol_ins, blQ_bl, w_bol, wt_bol, wt_lc2, wi_lc2, wbF_int, wbF_lst, wbF_tup, wbF_str, wb_add, wb_sub, wb_mul, wb_fdiv, wb_mod, wb_pow, wb_ladd, wc_lt, wc_le, wc_gt, wc_ge, wc_eq_int, wc_ne_int, wc_eq_bl, wc_ne_bl, wc_isN_int, wc_isN_bl, wc_isN_non, wc_notN_int, wc_notN_tup, wc_notN_non, w_idxD, seq_lst, seq_tup, seq_frz, seq_0, seq_s, len_lst, len_tup, isLoc_int, isLoc_lst, isLoc_tup, ok_ite, mkQ_eq, tss_nil, tss_cons, bindT, bindTs, wipeE, List.zip_nil_left, List.zip_nil_right, List.zip_cons_cons, List.map_nil, List.map_cons, List.nil_append, List.cons_append, List.length_nil, List.length_cons, List.replicate_zero, List.replicate_succ, List.set_cons_zero, List.set_cons_succ, Nat.reduceAdd, Nat.reduceSub, Bool.false_eq_true, Bool.true_eq_false, if_true, if_false, ite_true, ite_false, idxQ_0, idxQ_1, idxQ_2, idxQ_3, idxQ_4, idxQ_5, idxQ_6, idxQ_7, idxQ_8, idxQ_9, idxQ_10, idxQ_11, putQ_0, putQ_1, putQ_2, putQ_3, putQ_4, putQ_5, isT_bl, show isTy "bool" ["tuple", "list"] = false from by decide, ok_nil]
      refine ok_cons (ok_if ?_)
      simp only [ok_ok, ok_bind, ok_os, oks_ok, after1_nx, after1_rt, after1_bk, after1_ct, w_con, w_var, varQ_z, varQ_s, w_bin, w_neg, negQ_int, w_not, notQ_bl, w_band, andQ_bl, w_bor, orQ_bl, w_cmp, w_ite, w_tup, w_lst, w_lnew, w_idx, w_slc, w_evo_none, w_evo_some, intQ_int, w_call, w_blt, w_app, w_bitl, bitQ_int, wt_bitl, wi_bitl, wb_shl, w_nil, w_cons,
wt_con, wt_var, wt_bin, wt_neg, wt_cmp, wt_cmp2, wt_tup, wt_lst, wt_lnew, wt_idx, wt_slc, wt_call, wt_blt, wt_lc, wt_app, wi_con, wi_var, wi_bin, wi_neg, wi_cmp, wi_cmp2, wi_tup, wi_lst, wi_lnew, wi_idx, wi_slc, wi_call, wi_blt, wi_lc, wi_app, seqQ_tup, seqQ_lst, seqQ_frz, seqQ_loc, tt_not, tt_band, tt_bor, tt_ite, tstQ_bl, tstQ_non, tstQ_int, tstQ_lst, tstQ_tup, wi_rng, rngQ_int, wi_rng2, rng2Q_int, w_lc,
wF_lt, wF_le, wF_gt, wF_ge, wF_isN, wF_notN, wF_eq_int, wF_eq_bl, wF_eq_str, wF_eq_tup, wF_eq_lst, wF_eq_frz, wF_eq_non, wF_ne_int, wF_ne_bl, wF_ne_str, wF_ne_tup, wF_ne_lst, wF_ne_frz, wF_ne_non, wF_isIn_tup, wF_isIn_lst, wF_isIn_frz, wF_notIn_tup, wF_notIn_lst, wF_notIn_frz, wF_eq_ins, wF_eq_insT, wF_eq_insN, wF_eq_insI, wF_ne_ins, wF_bol_ins, blQ_bl, w_bol, wt_bol, wt_lc2, wi_lc2, wbF_int, wbF_lst, wbF_tup, wbF_str, wb_add, wb_sub, wb_mul, wb_fdiv, wb_mod, wb_pow, wb_ladd, wc_lt, wc_le, wc_gt, wc_ge, wc_eq_int, wc_ne_int, wc_eq_bl, wc_ne_bl, wc_isN_int, wc_isN_bl, wc_isN_non, wc_notN_int, wc_notN_tup, wc_notN_non, w_idxD, seq_lst, seq_tup, seq_frz, seq_0, seq_s, len_lst, len_tup, isLoc_int, isLoc_lst, isLoc_tup, ok_ite, mkQ_eq, tss_nil, tss_cons, bindT, bindTs, wipeE, List.zip_nil_left, List.zip_nil_right, List.zip_cons_cons, List.map_nil, List.map_cons, List.nil_append, List.cons_append, List.length_nil, List.length_cons, List.replicate_zero, List.replicate_succ, List.set_cons_zero, List.set_cons_succ, Nat.reduceAdd, Nat.reduceSub, Bool.false_eq_true, Bool.true_eq_false, if_true, if_false, ite_true, ite_false, idxQ_0, idxQ_1, idxQ_2, idxQ_3, idxQ_4, idxQ_5, idxQ_6, idxQ_7, idxQ_8, idxQ_9, idxQ_10, idxQ_11, putQ_0, putQ_1, putQ_2, putQ_3, putQ_4, putQ_5, ok_nil]
      refine ok_one (ok_ret ?_)
      simp only [ok_ok, ok_bind, ok_os, oks_ok, after1_nx, after1_rt, after1_bk, after1_ct, w_con, w_var, varQ_z, varQ_s, w_bin, w_neg, negQ_int, w_not, notQ_bl, w_band, andQ_bl, w_bor, orQ_bl, w_cmp, w_ite, w_tup, w_lst, w_lnew, w_idx, w_slc, w_evo_none, w_evo_some, intQ_int, w_call, w_blt, w_app, w_bitl, bitQ_int, wt_bitl, wi_bitl, wb_shl, w_nil, w_cons,
wt_con, wt_var, wt_bin, wt_neg, wt_cmp, wt_cmp2, wt_tup, wt_lst, wt_lnew, wt_idx, wt_slc, wt_call, wt_blt, wt_lc, wt_app, wi_con, wi_var, wi_bin, wi_neg, wi_cmp, wi_cmp2, wi_tup, wi_lst, wi_lnew, wi_idx, wi_slc, wi_call, wi_blt, wi_lc, wi_app, seqQ_tup, seqQ_lst, seqQ_frz, seqQ_loc, tt_not, tt_band, tt_bor, tt_ite, tstQ_bl, tstQ_non, tstQ_int, tstQ_lst, tstQ_tup, wi_rng, rngQ_int, wi_rng2, rng2Q_int, w_lc,
wF_lt, wF_le, wF_gt, wF_ge, wF_isN, wF_notN, wF_eq_int, wF_eq_bl, wF_eq_str, wF_eq_tup, wF_eq_lst, wF_eq_frz, wF_eq_non, wF_ne_int, wF_ne_bl, wF_ne_str, wF_ne_tup, wF_ne_lst, wF_ne_frz, wF_ne_non, wF_isIn_tup, wF_isIn_lst, wF_isIn_frz, wF_notIn_tup, wF_notIn_lst, wF_notIn_frz, wF_eq_ins, wF_eq_insT, wF_eq_insN, wF_eq_insI, wF_ne_ins, wF_bol_ins, blQ_bl, w_bol, wt_bol, wt_lc2, wi_lc2, wbF_int, wbF_lst, wbF_tup, wbF_str, wb_add, wb_sub, wb_mul, wb_fdiv, wb_mod, wb_pow, wb_ladd, wc_lt, wc_le, wc_gt, wc_ge, wc_eq_int, wc_ne_int, wc_eq_bl, wc_ne_bl, wc_isN_int, wc_isN_bl, wc_isN_non, wc_notN_int, wc_notN_tup, wc_notN_non, w_idxD, seq_lst, seq_tup, seq_frz, seq_0, seq_s, len_lst, len_tup, isLoc_int, isLoc_lst, isLoc_tup, ok_ite, mkQ_eq, tss_nil, tss_cons, bindT, bindTs, wipeE, List.zip_nil_left, List.zip_nil_right, List.zip_cons_cons, List.map_nil, List.map_cons, List.nil_append, List.cons_append, List.length_nil, List.length_cons, List.replicate_zero, List.replicate_succ, List.set_cons_zero, List.set_cons_succ, Nat.reduceAdd, Nat.reduceSub, Bool.false_eq_true, Bool.true_eq_false, if_true, if_false, ite_true, ite_false, idxQ_0, idxQ_1, idxQ_2, idxQ_3, idxQ_4, idxQ_5, idxQ_6, idxQ_7, idxQ_8, idxQ_9, idxQ_10, idxQ_11, putQ_0, putQ_1, putQ_2, putQ_3, putQ_4, putQ_5, isT_bl, beq_self_eq_true]
      rw [fin_plain rfl (Nat.le_refl _)]
      exact q
    | non =>
      refine ok_cons (ok_if ?_)
      simp only [ok_ok, ok_bind, ok_os, oks_ok, after1_nx, after1_rt, after1_bk, after1_ct, w_con, w_var, varQ_z, varQ_s, w_bin, w_neg, negQ_int, w_not, notQ_bl, w_band, andQ_bl, w_bor, orQ_bl, w_cmp, w_ite, w_tup, w_lst, w_lnew, w_idx, w_slc, w_evo_none, w_evo_some, intQ_int, w_call, w_blt, w_app, w_bitl, bitQ_int, wt_bitl, wi_bitl, wb_shl, w_nil, w_cons,
wt_con, wt_var, wt_bin, wt_neg, wt_cmp, wt_cmp2, wt_tup, wt_lst, wt_lnew, wt_idx, wt_slc, wt_call, wt_blt, wt_lc, wt_app, wi_con, wi_var, wi_bin, wi_neg, wi_cmp, wi_cmp2, wi_tup, wi_lst, wi_lnew, wi_idx, wi_slc, wi_call, wi_blt, wi_lc, wi_app, seqQ_tup, seqQ_lst, seqQ_frz, seqQ_loc, tt_not, tt_band, tt_bor, tt_ite, tstQ_bl, tstQ_non, tstQ_int, tstQ_lst, tstQ_tup, wi_rng, rngQ_int, wi_rng2, rng2Q_int, w_lc,
wF_lt, wF_le, wF_gt, wF_ge, wF_isN, wF_notN, wF_eq_int, wF_eq_bl, wF_eq_str, wF_eq_tup, wF_eq_lst, wF_eq_frz, wF_eq_non, wF_ne_int, wF_ne_bl, wF_ne_str, wF_ne_tup, wF_ne_lst, wF_ne_frz, wF_ne_non, wF_isIn_tup, wF_isIn_lst, wF_isIn_frz, wF_notIn_tup, wF_notIn_lst, wF_notIn_frz, wF_eq_ins, wF_eq_insT, wF_eq_insN, wF_eq_insI, wF_ne_ins, wF_bol_ins, blQ_bl, w_bol, wt_bol, wt_lc2, wi_lc2, wbF_int, wbF_lst, wbF_tup, wbF_str, wb_add, wb_sub, wb_mul, wb_fdiv, wb_mod, wb_pow, wb_ladd, wc_lt, wc_le, wc_gt, wc_ge, wc_eq_int, wc_ne_int, wc_eq_bl, wc_ne_bl, wc_isN_int, wc_isN_bl, wc_isN_non, wc_notN_int, wc_notN_tup, wc_notN_non, w_idxD, seq_lst, seq_tup, seq_frz, seq_0, seq_s, len_lst, len_tup, isLoc_int, isLoc_lst, isLoc_tup, ok_ite, mkQ_eq, tss_nil, tss_cons, bindT, bindTs, wipeE, List.zip_nil_left, List.zip_nil_right, List.zip_cons_cons, List.map_nil, List.map_cons, List.nil_append, List.cons_append, List.length_nil, List.length_cons, List.replicate_zero, List.replicate_succ, List.set_cons_zero, List.set_cons_succ, Nat.reduceAdd, Nat.reduceSub, Bool.false_eq_true, Bool.true_eq_false, if_true, if_false, ite_true, ite_false, idxQ_0, idxQ_1, idxQ_2, idxQ_3, idxQ_4, idxQ_5, idxQ_6, idxQ_7, idxQ_8, idxQ_9, idxQ_10, idxQ_11, putQ_0, putQ_1, putQ_2, putQ_3, putQ_4, putQ_5, isT_non, show isTy "NoneType" ["tuple", "list"] = false from by decide, ok_nil]
      refine ok_cons (ok_if ?_)
      simp only [ok_ok, ok_bind, ok_os, oks_ok, after1_nx, after1_rt, after1_bk, after1_ct, w_con, w_var, varQ_z, varQ_s, w_bin, w_neg, negQ_int, w_not, notQ_bl, w_band, andQ_bl, w_bor, orQ_bl, w_cmp, w_ite, w_tup, w_lst, w_lnew, w_idx, w_slc, w_evo_none, w_evo_some, intQ_int, w_call, w_blt, w_app, w_bitl, bitQ_int, wt_bitl, wi_bitl, wb_shl, w_nil, w_cons,
wt_con, wt_var, wt_bin, wt_neg, wt_cmp, wt_cmp2, wt_tup, wt_lst, wt_lnew, wt_idx, wt_slc, wt_call, wt_blt, wt_lc, wt_app, wi_con, wi_var, wi_bin, wi_neg, wi_cmp, wi_cmp2, wi_tup, wi_lst, wi_lnew, wi_idx, wi_slc, wi_call, wi_blt, wi_lc, wi_app, seqQ_tup, seqQ_lst, seqQ_frz, seqQ_loc, tt_not, tt_band, tt_bor, tt_ite, tstQ_bl, tstQ_non, tstQ_int, tstQ_lst, tstQ_tup, wi_rng, rngQ_int, wi_rng2, rng2Q_int, w_lc,
wF_lt, wF_le, wF_gt, wF_ge, wF_isN, wF_notN, wF_eq_int, wF_eq_bl, wF_eq_str, wF_eq_tup, wF_eq_lst, wF_eq_frz, wF_eq_non, wF_ne_int, wF_ne_bl, wF_ne_str, wF_ne_tup, wF_ne_lst, wF_ne_frz, wF_ne_non, wF_isIn_tup, wF_isIn_lst, wF_isIn_frz, wF_notIn_tup, wF_notIn_lst, wF_notIn_frz, wF_eq_ins, wF_eq_insT, wF_eq_insN, wF_eq_insI, wF_ne_ins, wF_bol_ins, blQ_bl, w_bol, wt_bol, wt_lc2, wi_lc2, wbF_int, wbF_lst, wbF_tup, wbF_str, wb_add, wb_sub, wb_mul, wb_fdiv, wb_mod, wb_pow, wb_ladd, wc_lt, wc_le, wc_gt, wc_ge, wc_eq_int, wc_ne_int, wc_eq_bl, wc_ne_bl, wc_isN_int, wc_isN_bl, wc_isN_non, wc_notN_int, wc_notN_tup, wc_notN_non, w_idxD, seq_lst, seq_tup, seq_frz, seq_0, seq_s, len_lst, len_tup, isLoc_int, isLoc_lst, isLoc_tup, ok_ite, mkQ_eq, tss_nil, tss_cons, bindT, bindTs, wipeE, List.zip_nil_left, List.zip_nil_right, List.zip_cons_cons, List.map_nil, List.map_cons, List.nil_append, List.cons_append, List.length_nil, List.length_cons, List.replicate_zero, List.replicate_succ, List.set_cons_zero, List.set_cons_succ, Nat.reduceAdd, Nat.reduceSub, Bool.false_eq_true, Bool.true_eq_false, if_true, if_false, ite_true, ite_false, idxQ_0, idxQ_1, idxQ_2, idxQ_3, idxQ_4, idxQ_5, idxQ_6, idxQ_7, idxQ_8, idxQ_9, idxQ_10, idxQ_11, putQ_0, putQ_1, putQ_2, putQ_3, putQ_4, putQ_5, ok_nil]
      refine ok_one (ok_ret ?_)
      simp only [ok_ok, ok_bind, ok_os, oks_ok, after1_nx, after1_rt, after1_bk, after1_ct, w_con, w_var, varQ_z, varQ_s, w_bin, w_neg, negQ_int, w_not, notQ_bl, w_band, andQ_bl, w_bor, orQ_bl, w_cmp, w_ite, w_tup, w_lst, w_lnew, w_idx, w_slc, w_evo_none, w_evo_some, intQ_int, w_call, w_blt, w_app, w_bitl, bitQ_int, wt_bitl, wi_bitl, wb_shl, w_nil, w_cons,
wt_con, wt_var, wt_bin, wt_neg, wt_cmp, wt_cmp2, wt_tup, wt_lst, wt_lnew, wt_idx, wt_slc, wt_call, wt_blt, wt_lc, wt_app, wi_con, wi_var, wi_bin, wi_neg, wi_cmp, wi_cmp2, wi_tup, wi_lst, wi_lnew, wi_idx, wi_slc, wi_call, wi_blt, wi_lc, wi_app, seqQ_tup, seqQ_lst, seqQ_frz, seqQ_loc, tt_not, tt_band, tt_bor, tt_ite, tstQ_bl, tstQ_non, tstQ_int, tstQ_lst, tstQ_tup, wi_rng, rngQ_int, wi_rng2, rng2Q_int, w_lc,
wF_lt, wF_le, wF_gt, wF_ge, wF_isN, wF_notN, wF_eq_int, wF_eq_bl, wF_eq_str, wF_eq_tup, wF_eq_lst, wF_eq_frz, wF_eq_non, wF_ne_int, wF_ne_bl, wF_ne_str, wF_ne_tup, wF_ne_lst, wF_ne_frz, wF_ne_non, wF_isIn_tup, wF_isIn_lst, wF_isIn_frz, wF_notIn_tup, wF_notIn_lst, wF_notIn_frz, wF_eq_ins, wF_eq_insT, wF_eq_insN, wF_eq_insI, wF_ne_ins, wF_bol_ins, blQ_bl, w_bol, wt_bol, wt_lc2, wi_lc2, wbF_int, wbF_lst, wbF_tup, wbF_str, wb_add, wb_sub, wb_mul, wb_fdiv, wb_mod, wb_pow, wb_ladd, wc_lt, wc_le, wc_gt, wc_ge, wc_eq_int, wc_ne_int, wc_eq_bl, wc_ne_bl, wc_isN_int, wc_isN_bl, wc_isN_non, wc_notN_int, wc_notN_tup, wc_notN_non, w_idxD, seq_lst, seq_tup, seq_frz, seq_0, seq_s, len_lst, len_tup, isLoc_int, isLoc_lst, isLoc_tup, ok_ite, mkQ_eq, tss_nil, tss_cons, bindT, bindTs, wipeE, List.zip_nil_left, List.zip_nil_right, List.zip_cons_cons, List.map_nil, List.map_cons, List.nil_append, List.cons_append, List.length_nil, List.length_cons, List.replicate_zero, List.replicate_succ, List.set_cons_zero, List.set_cons_succ, Nat.reduceAdd, Nat.reduceSub, Bool.false_eq_true, Bool.true_eq_false, if_true, if_false, ite_true, ite_false, idxQ_0, idxQ_1, idxQ_2, idxQ_3, idxQ_4, idxQ_5, idxQ_6, idxQ_7, idxQ_8, idxQ_9, idxQ_10, idxQ_11, putQ_0, putQ_1, putQ_2, putQ_3, putQ_4, putQ_5]
      rw [fin_plain rfl (Nat.le_refl _)]
      exact q
  | succ m ih =>
    intro XQ x y k Q l q
    cases l with
    | tup tx ty sx sy hz hl hlk => exact seq (fun l q => ih l q) (.inl rfl) tx ty sx sy hz hl hlk q
    | lst tx ty sx sy hz hl hlk => exact seq (fun l q => ih l q) (.inr rfl) tx ty sx sy hz hl hlk q
    | int => rw [show k + (m + 1) = (k + 1) + m from by omega]; exact ih (.int m _) q
    | bl => rw [show k + (m + 1) = (k + 1) + m from by omega]; exact ih (.bl m _) q
    | non => rw [show k + (m + 1) = (k + 1) + m from by omega]; exact ih (.non m) q
/-! ### the bag's making -/
def fdSource : Fd where
  npos := 1
  pdf := []
  kdf := []
  star := false
  fresh := true
  ns := 3
  body :=
   [.asg (.nm 1) (.con (.int 3812)),
    .for_ (.nm 2) (.slc (.var 0) none (some (.con (.int 63))))
      [.asg (.nm 1) (.bin .mod (.bin .add (.bin .add (.bin .mul (.var 1) (.con (.int 40692))) (.bin .mod (.var 2) (.con (.int 2147483399)))) (.con (.int 17))) (.con (.int 2147483399)))],
    .ret (.lnew [.blt .list_ [.slc (.var 0) none (some (.con (.int 63)))], .con (.int 0), .con (.int 0), .var 1, .con (.int 0)])]
theorem cut_ints (ns : List Int) (z : Int) (hz : 0 ≤ z) : cutD (ns.map D.int) none (some z) = (ns.take z.toNat).map D.int := by
  have e1 : HT.sIx (ns.map D.int).length 0 none = 0 := rfl
  have e2 : HT.sIx (ns.map D.int).length (ns.map D.int).length (some z) = min z.toNat ns.length := by
    show (if z < 0 then _ else min z.toNat (ns.map D.int).length) = _
    rw [if_neg (by omega), List.length_map]
  unfold cutD
  rw [e1, e2, List.drop_zero, Nat.sub_zero, ← List.map_take, ← List.take_eq_take_min]
theorem slc_frz (ds : List D) (lo hi : Option Int) : OkV XQ (slcD (.frz ds) lo hi h) Q = Q (.lst (cutD ds lo hi)) h := rfl
theorem slc_lst (ds : List D) (lo hi : Option Int) : OkV XQ (slcD (.lst ds) lo hi h) Q = Q (.lst (cutD ds lo hi)) h := rfl
theorem list_lst (ds : List D) : OkV XQ (bltD .list_ [.lst ds] h) Q = Q (.lst ds) h := rfl
theorem list_tup (ds : List D) : OkV XQ (bltD .list_ [.tup ds] h) Q = Q (.lst ds) h := rfl
theorem source_ok (hP : P i = some fdSource) {ns : List Int} (hQ : ∀ ob, Bag 0 ob → Q (.loc h.length) (h ++ [ob])) : OkV XQ (callN P (k + 1) i [.frz (ns.map .int)] [] h) Q := by
  refine ok_call hP rfl ?_
  simp only [fdSource]
  refine ok_cons (ok_asg ?_)
  simp only [ok_ok, ok_bind, ok_os, oks_ok, after1_nx, after1_rt, after1_bk, after1_ct, w_con, w_var, varQ_z, varQ_s, w_bin, w_neg, negQ_int, w_not, notQ_bl, w_band, andQ_bl, w_bor, orQ_bl, w_cmp, w_ite, w_tup, w_lst, w_lnew, w_idx, w_slc, w_evo_none, w_evo_some, intQ_int, w_call, w_blt, w_app, w_bitl, bitQ_int, wt_bitl, wi_bitl, wb_shl, w_nil, w_cons,
wt_con, wt_var, wt_bin, wt_neg, wt_cmp, wt_cmp2, wt_tup, wt_lst, wt_lnew, wt_idx, wt_slc, wt_call, wt_blt, wt_lc, wt_app, wi_con, wi_var, wi_bin, wi_neg, wi_cmp, wi_cmp2, wi_tup, wi_lst, wi_lnew, wi_idx, wi_slc, wi_call, wi_blt, wi_lc, wi_app, seqQ_tup, seqQ_lst, seqQ_frz, seqQ_loc, tt_not, tt_band, tt_bor, tt_ite, tstQ_bl, tstQ_non, tstQ_int, tstQ_lst, tstQ_tup, wi_rng, rngQ_int, wi_rng2, rng2Q_int, w_lc,
wF_lt, wF_le, wF_gt, wF_ge, wF_isN, wF_notN, wF_eq_int, wF_eq_bl, wF_eq_str, wF_eq_tup, wF_eq_lst, wF_eq_frz, wF_eq_non, wF_ne_int, wF_ne_bl, wF_ne_str, wF_ne_tup, wF_ne_lst, wF_ne_frz, wF_ne_non, wF_isIn_tup, wF_isIn_lst, wF_isIn_frz, wF_notIn_tup, wF_notIn_lst, wF_notIn_frz, wF_eq_ins, wF_eq_insT, wF_eq_insN, wF_eq_insI, wF_ne_ins, wF_bol_ins, blQ_bl, w_bol, wt_bol, wt_lc2, wi_lc2, wbF_int, wbF_lst, wbF_tup, wbF_str, wb_add, wb_sub, wb_mul, wb_fdiv, wb_mod, wb_pow, wb_ladd, wc_lt, wc_le, wc_gt, wc_ge, wc_eq_int, wc_ne_int, wc_eq_bl, wc_ne_bl, wc_isN_int, wc_isN_bl, wc_isN_non, wc_notN_int, wc_notN_tup, wc_notN_non, w_idxD, seq_lst, seq_tup, seq_frz, seq_0, seq_s, len_lst, len_tup, isLoc_int, isLoc_lst, isLoc_tup, ok_ite, mkQ_eq, tss_nil, tss_cons, bindT, bindTs, wipeE, List.zip_nil_left, List.zip_nil_right, List.zip_cons_cons, List.map_nil, List.map_cons, List.nil_append, List.cons_append, List.length_nil, List.length_cons, List.replicate_zero, List.replicate_succ, List.set_cons_zero, List.set_cons_succ, Nat.reduceAdd, Nat.reduceSub, Bool.false_eq_true, Bool.true_eq_false, if_true, if_false, ite_true, ite_false, idxQ_0, idxQ_1, idxQ_2, idxQ_3, idxQ_4, idxQ_5, idxQ_6, idxQ_7, idxQ_8, idxQ_9, idxQ_10, idxQ_11, putQ_0, putQ_1, putQ_2, putQ_3, putQ_4, putQ_5]
  refine ok_cons (ok_for ?_)
  simp only [ok_ok, ok_bind, ok_os, oks_ok, after1_nx, after1_rt, after1_bk, after1_ct, w_con, w_var, varQ_z, varQ_s, w_bin, w_neg, negQ_int, w_not, notQ_bl, w_band, andQ_bl, w_bor, orQ_bl, w_cmp, w_ite, w_tup, w_lst, w_lnew, w_idx, w_slc, w_evo_none, w_evo_some, intQ_int, w_call, w_blt, w_app, w_bitl, bitQ_int, wt_bitl, wi_bitl, wb_shl, w_nil, w_cons,
wt_con, wt_var, wt_bin, wt_neg, wt_cmp, wt_cmp2, wt_tup, wt_lst, wt_lnew, wt_idx, wt_slc, wt_call, wt_blt, wt_lc, wt_app, wi_con, wi_var, wi_bin, wi_neg, wi_cmp, wi_cmp2, wi_tup, wi_lst, wi_lnew, wi_idx, wi_slc, wi_call, wi_blt, wi_lc, wi_app, seqQ_tup, seqQ_lst, seqQ_frz, seqQ_loc, tt_not, tt_band, tt_bor, tt_ite, tstQ_bl, tstQ_non, tstQ_int, tstQ_lst, tstQ_tup, wi_rng, rngQ_int, wi_rng2, rng2Q_int, w_lc,
wF_lt, wF_le, wF_gt, wF_ge, wF_isN, wF_notN, wF_eq_int, wF_eq_bl, wF_eq_str, wF_eq_tup, wF_eq_lst, wF_eq_frz, wF_eq_non, wF_ne_int, wF_ne_bl, wF_ne_str, wF_ne_tup, wF_ne_lst, wF_ne_frz, wF_ne_non, wF_isIn_tup, wF_isIn_lst, wF_isIn_frz, wF_notIn_tup, wF_notIn_lst, wF_notIn_frz, wF_eq_ins, wF_eq_insT, wF_eq_insN, wF_eq_insI, wF_ne_ins, wF_bol_ins, blQ_bl, w_bol, wt_bol, wt_lc2, wi_lc2, wbF_int, wbF_lst, wbF_tup, wbF_str, wb_add, wb_sub, wb_mul, wb_fdiv, wb_mod, wb_pow, wb_ladd, wc_lt, wc_le, wc_gt, wc_ge, wc_eq_int, wc_ne_int, wc_eq_bl, wc_ne_bl, wc_isN_int, wc_isN_bl, wc_isN_non, wc_notN_int, wc_notN_tup, wc_notN_non, w_idxD, seq_lst, seq_tup, seq_frz, seq_0, seq_s, len_lst, len_tup, isLoc_int, isLoc_lst, isLoc_tup, ok_ite, mkQ_eq, tss_nil, tss_cons, bindT, bindTs, wipeE, List.zip_nil_left, List.zip_nil_right, List.zip_cons_cons, List.map_nil, List.map_cons, List.nil_append, List.cons_append, List.length_nil, List.length_cons, List.replicate_zero, List.replicate_succ, List.set_cons_zero, List.set_cons_succ, Nat.reduceAdd, Nat.reduceSub, Bool.false_eq_true, Bool.true_eq_false, if_true, if_false, ite_true, ite_false, idxQ_0, idxQ_1, idxQ_2, idxQ_3, idxQ_4, idxQ_5, idxQ_6, idxQ_7, idxQ_8, idxQ_9, idxQ_10, idxQ_11, putQ_0, putQ_1, putQ_2, putQ_3, putQ_4, putQ_5, slc_frz, cut_ints ns 63 (by decide)]
  refine ok_forL (fun ds r h' => h' = h ∧ (∃ zs : List Int, ds = zs.map .int) ∧ ∃ (c : Int) (x : Option D), r = [some (.frz (ns.map .int)), some (.int c), x] ∧ 0 ≤ c ∧ Sm 31 c) ?_ ?_ ⟨rfl, ⟨_, rfl⟩, _, _, rfl, by decide, smc⟩
  · rintro r h' ⟨rfl, _, c, x, rfl, c0, c1⟩
    rw [after1_nx]
    refine ok_one (ok_ret ?_)
    simp only [ok_ok, ok_bind, ok_os, oks_ok, after1_nx, after1_rt, after1_bk, after1_ct, w_con, w_var, varQ_z, varQ_s, w_bin, w_neg, negQ_int, w_not, notQ_bl, w_band, andQ_bl, w_bor, orQ_bl, w_cmp, w_ite, w_tup, w_lst, w_lnew, w_idx, w_slc, w_evo_none, w_evo_some, intQ_int, w_call, w_blt, w_app, w_bitl, bitQ_int, wt_bitl, wi_bitl, wb_shl, w_nil, w_cons,
wt_con, wt_var, wt_bin, wt_neg, wt_cmp, wt_cmp2, wt_tup, wt_lst, wt_lnew, wt_idx, wt_slc, wt_call, wt_blt, wt_lc, wt_app, wi_con, wi_var, wi_bin, wi_neg, wi_cmp, wi_cmp2, wi_tup, wi_lst, wi_lnew, wi_idx, wi_slc, wi_call, wi_blt, wi_lc, wi_app, seqQ_tup, seqQ_lst, seqQ_frz, seqQ_loc, tt_not, tt_band, tt_bor, tt_ite, tstQ_bl, tstQ_non, tstQ_int, tstQ_lst, tstQ_tup, wi_rng, rngQ_int, wi_rng2, rng2Q_int, w_lc,
wF_lt, wF_le, wF_gt, wF_ge, wF_isN, wF_notN, wF_eq_int, wF_eq_bl, wF_eq_str, wF_eq_tup, wF_eq_lst, wF_eq_frz, wF_eq_non, wF_ne_int, wF_ne_bl, wF_ne_str, wF_ne_tup, wF_ne_lst, wF_ne_frz, wF_ne_non, wF_isIn_tup, wF_isIn_lst, wF_isIn_frz, wF_notIn_tup, wF_notIn_lst, wF_notIn_frz, wF_eq_ins, wF_eq_insT, wF_eq_insN, wF_eq_insI, wF_ne_ins, wF_bol_ins, blQ_bl, w_bol, wt_bol, wt_lc2, wi_lc2, wbF_int, wbF_lst, wbF_tup, wbF_str, wb_add, wb_sub, wb_mul, wb_fdiv, wb_mod, wb_pow, wb_ladd, wc_lt, wc_le, wc_gt, wc_ge, wc_eq_int, wc_ne_int, wc_eq_bl, wc_ne_bl, wc_isN_int, wc_isN_bl, wc_isN_non, wc_notN_int, wc_notN_tup, wc_notN_non, w_idxD, seq_lst, seq_tup, seq_frz, seq_0, seq_s, len_lst, len_tup, isLoc_int, isLoc_lst, isLoc_tup, ok_ite, mkQ_eq, tss_nil, tss_cons, bindT, bindTs, wipeE, List.zip_nil_left, List.zip_nil_right, List.zip_cons_cons, List.map_nil, List.map_cons, List.nil_append, List.cons_append, List.length_nil, List.length_cons, List.replicate_zero, List.replicate_succ, List.set_cons_zero, List.set_cons_succ, Nat.reduceAdd, Nat.reduceSub, Bool.false_eq_true, Bool.true_eq_false, if_true, if_false, ite_true, ite_false, idxQ_0, idxQ_1, idxQ_2, idxQ_3, idxQ_4, idxQ_5, idxQ_6, idxQ_7, idxQ_8, idxQ_9, idxQ_10, idxQ_11, putQ_0, putQ_1, putQ_2, putQ_3, putQ_4, putQ_5, slc_frz, list_lst, cut_ints ns 63 (by decide)]
    refine ⟨by rfl, ?_⟩
    have hf : finish true h'.length (.loc h'.length) (h' ++ [Ob.lst [.lst ((ns.take 63).map .int), .int 0, .int 0, .int c, .int 0]]) = .ok (.loc h'.length) (h' ++ [Ob.lst [.lst ((ns.take 63).map .int), .int 0, .int 0, .int c, .int 0]]) := by
      unfold finish
      simp
    show OkV XQ (finish true h'.length (.loc h'.length) (h' ++ [Ob.lst [.lst ((ns.take 63).map .int), .int 0, .int 0, .int c, .int 0]])) Q
    rw [hf]
    exact hQ _ ⟨ns.take 63, 0, 0, c, 0, rfl, by decide, by decide, c0, c1, by decide, by decide, by simp; omega⟩
  · rintro d ds r h' ⟨rfl, ⟨zs, e⟩, c, x, rfl, c0, c1⟩
    cases zs with
    | nil => cases e
    | cons z zs =>
      simp only [List.map_cons, List.cons.injEq] at e
      obtain ⟨rfl, rfl⟩ := e
      simp only [ok_ok, ok_bind, ok_os, oks_ok, after1_nx, after1_rt, after1_bk, after1_ct, w_con, w_var, varQ_z, varQ_s, w_bin, w_neg, negQ_int, w_not, notQ_bl, w_band, andQ_bl, w_bor, orQ_bl, w_cmp, w_ite, w_tup, w_lst, w_lnew, w_idx, w_slc, w_evo_none, w_evo_some, intQ_int, w_call, w_blt, w_app, w_bitl, bitQ_int, wt_bitl, wi_bitl, wb_shl, w_nil, w_cons,
wt_con, wt_var, wt_bin, wt_neg, wt_cmp, wt_cmp2, wt_tup, wt_lst, wt_lnew, wt_idx, wt_slc, wt_call, wt_blt, wt_lc, wt_app, wi_con, wi_var, wi_bin, wi_neg, wi_cmp, wi_cmp2, wi_tup, wi_lst, wi_lnew, wi_idx, wi_slc, wi_call, wi_blt, wi_lc, wi_app, seqQ_tup, seqQ_lst, seqQ_frz, seqQ_loc, tt_not, tt_band, tt_bor, tt_ite, tstQ_bl, tstQ_non, tstQ_int, tstQ_lst, tstQ_tup, wi_rng, rngQ_int, wi_rng2, rng2Q_int, w_lc,
wF_lt, wF_le, wF_gt, wF_ge, wF_isN, wF_notN, wF_eq_int, wF_eq_bl, wF_eq_str, wF_eq_tup, wF_eq_lst, wF_eq_frz, wF_eq_non, wF_ne_int, wF_ne_bl, wF_ne_str, wF_ne_tup, wF_ne_lst, wF_ne_frz, wF_ne_non, wF_isIn_tup, wF_isIn_lst, wF_isIn_frz, wF_notIn_tup, wF_notIn_lst, wF_notIn_frz, wF_eq_ins, wF_eq_insT, wF_eq_insN, wF_eq_insI, wF_ne_ins, wF_bol_ins, blQ_bl, w_bol, wt_bol, wt_lc2, wi_lc2, wbF_int, wbF_lst, wbF_tup, wbF_str, wb_add, wb_sub, wb_mul, wb_fdiv, wb_mod, wb_pow, wb_ladd, wc_lt, wc_le, wc_gt, wc_ge, wc_eq_int, wc_ne_int, wc_eq_bl, wc_ne_bl, wc_isN_int, wc_isN_bl, wc_isN_non, wc_notN_int, wc_notN_tup, wc_notN_non, w_idxD, seq_lst, seq_tup, seq_frz, seq_0, seq_s, len_lst, len_tup, isLoc_int, isLoc_lst, isLoc_tup, ok_ite, mkQ_eq, tss_nil, tss_cons, bindT, bindTs, wipeE, List.zip_nil_left, List.zip_nil_right, List.zip_cons_cons, List.map_nil, List.map_cons, List.nil_append, List.cons_append, List.length_nil, List.length_cons, List.replicate_zero, List.replicate_succ, List.set_cons_zero, List.set_cons_succ, Nat.reduceAdd, Nat.reduceSub, Bool.false_eq_true, Bool.true_eq_false, if_true, if_false, ite_true, ite_false, idxQ_0, idxQ_1, idxQ_2, idxQ_3, idxQ_4, idxQ_5, idxQ_6, idxQ_7, idxQ_8, idxQ_9, idxQ_10, idxQ_11, putQ_0, putQ_1, putQ_2, putQ_3, putQ_4, putQ_5]
      refine ok_one (ok_asg ?_)
      simp only [ok_ok, ok_bind, ok_os, oks_ok, after1_nx, after1_rt, after1_bk, after1_ct, w_con, w_var, varQ_z, varQ_s, w_bin, w_neg, negQ_int, w_not, notQ_bl, w_band, andQ_bl, w_bor, orQ_bl, w_cmp, w_ite, w_tup, w_lst, w_lnew, w_idx, w_slc, w_evo_none, w_evo_some, intQ_int, w_call, w_blt, w_app, w_bitl, bitQ_int, wt_bitl, wi_bitl, wb_shl, w_nil, w_cons,
wt_con, wt_var, wt_bin, wt_neg, wt_cmp, wt_cmp2, wt_tup, wt_lst, wt_lnew, wt_idx, wt_slc, wt_call, wt_blt, wt_lc, wt_app, wi_con, wi_var, wi_bin, wi_neg, wi_cmp, wi_cmp2, wi_tup, wi_lst, wi_lnew, wi_idx, wi_slc, wi_call, wi_blt, wi_lc, wi_app, seqQ_tup, seqQ_lst, seqQ_frz, seqQ_loc, tt_not, tt_band, tt_bor, tt_ite, tstQ_bl, tstQ_non, tstQ_int, tstQ_lst, tstQ_tup, wi_rng, rngQ_int, wi_rng2, rng2Q_int, w_lc,
wF_lt, wF_le, wF_gt, wF_ge, wF_isN, wF_notN, wF_eq_int, wF_eq_bl, wF_eq_str, wF_eq_tup, wF_eq_lst, wF_eq_frz, wF_eq_non, wF_ne_int, wF_ne_bl, wF_ne_str, wF_ne_tup, wF_ne_lst, wF_ne_frz, wF_ne_non, wF_isIn_tup, wF_isIn_lst, wF_isIn_frz, wF_notIn_tup, wF_notIn_lst, wF_notIn_frz, wF_eq_ins, wF_eq_insT, wF_eq_insN, wF_eq_insI, wF_ne_ins, wF_bol_ins, blQ_bl, w_bol, wt_bol, wt_lc2, wi_lc2, wbF_int, wbF_lst, wbF_tup, wbF_str, wb_add, wb_sub, wb_mul, wb_fdiv, wb_mod, wb_pow, wb_ladd, wc_lt, wc_le, wc_gt, wc_ge, wc_eq_int, wc_ne_int, wc_eq_bl, wc_ne_bl, wc_isN_int, wc_isN_bl, wc_isN_non, wc_notN_int, wc_notN_tup, wc_notN_non, w_idxD, seq_lst, seq_tup, seq_frz, seq_0, seq_s, len_lst, len_tup, isLoc_int, isLoc_lst, isLoc_tup, ok_ite, mkQ_eq, tss_nil, tss_cons, bindT, bindTs, wipeE, List.zip_nil_left, List.zip_nil_right, List.zip_cons_cons, List.map_nil, List.map_cons, List.nil_append, List.cons_append, List.length_nil, List.length_cons, List.replicate_zero, List.replicate_succ, List.set_cons_zero, List.set_cons_succ, Nat.reduceAdd, Nat.reduceSub, Bool.false_eq_true, Bool.true_eq_false, if_true, if_false, ite_true, ite_false, idxQ_0, idxQ_1, idxQ_2, idxQ_3, idxQ_4, idxQ_5, idxQ_6, idxQ_7, idxQ_8, idxQ_9, idxQ_10, idxQ_11, putQ_0, putQ_1, putQ_2, putQ_3, putQ_4, putQ_5]
      refine ⟨c1.big (smc (k := 20)) (by decide) (by decide), by decide, by decide, ?_⟩
      obtain ⟨m1, m2⟩ := sm_mod (c * 40692 + z % 2147483399 + 17)
      exact ⟨trivial, trivial, ⟨zs, rfl⟩, _, _, rfl, m2, m1⟩
end
end GY

namespace GY
open PySem PySem.Spec PyProof.Rows L2
variable {XQ : D → Hs → Prop}
section
variable {P : Nat → Option Fd} {i j m n N k : Nat} {h : Hs} {ob : Ob} {Q : D → Hs → Prop}
/-! ### alike, by lists -/
def LkL (h : Hs) (n : Nat) : List D → List D → Prop
  | [], [] => True
  | x :: xs, y :: ys => Lk h n x y ∧ LkL h n xs ys
  | _, _ => False
theorem LkL.len : ∀ {xs ys : List D}, LkL h n xs ys → xs.length = ys.length
  | [], [], _ => rfl
  | [], _ :: _, q => q.elim
  | _ :: _, [], q => q.elim
  | _ :: _, _ :: _, q => congrArg Nat.succ q.2.len
theorem LkL.get : ∀ {xs ys : List D}, LkL h n xs ys → ∀ (j : Nat) (a b : D), xs[j]? = some a → ys[j]? = some b → Lk h n a b
  | [], [], _, j, a, b, e, _ => by simp at e
  | [], _ :: _, q, _, _, _, _, _ => q.elim
  | _ :: _, [], q, _, _, _, _, _ => q.elim
  | x :: xs, y :: ys, q, 0, a, b, e1, e2 => by simp at e1 e2; subst e1 e2; exact q.1
  | x :: xs, y :: ys, q, j + 1, a, b, e1, e2 => q.2.get j a b (by simpa using e1) (by simpa using e2)
theorem Lk.lstL {xs ys : List D} (q : LkL h n xs ys) (hz : xs.length ≤ 10000000) : Lk h (n + 1) (.lst xs) (.lst ys) := .lst rfl rfl rfl rfl hz q.len q.get
theorem Lk.tupL {xs ys : List D} (q : LkL h n xs ys) (hz : xs.length ≤ 10000000) : Lk h (n + 1) (.tup xs) (.tup ys) := .tup rfl rfl rfl rfl hz q.len q.get
theorem Lk.int' {a b : Int} (e : a = b) : Lk h n (.int a) (.int b) := by subst e; exact .int ..
/-! ### comprehensions that map -/
theorem ok_map {f : D → Hs → Out (Option D)} {gs : Hs → Prop} {Q : List D → Hs → Prop} (g : D → D) (hg : gs h) : ∀ {ds acc : List D}, (∀ d ∈ ds, OkV noE (f d h) fun o h1 => o = some (g d) ∧ h1 = h) → (∀ d ∈ ds, isLoc (g d) = false) → acc.length + ds.length ≤ sizeLine → Q (acc ++ ds.map g) h → OkV XQ (compL f gs ds acc h) Q := by
  intro ds acc hs hl hz hQ
  refine ok_compL (fun ds' acc' h' => h' = h ∧ acc' ++ ds'.map g = acc ++ ds.map g ∧ acc'.length + ds'.length ≤ sizeLine ∧ ∀ d ∈ ds', d ∈ ds) ?_ ?_ ⟨rfl, rfl, hz, fun _ m => m⟩
  · rintro acc' h' ⟨rfl, e, _, _⟩
    simp only [List.map_nil, List.append_nil] at e
    rw [e]; exact hQ
  · rintro d ds' acc' h' ⟨rfl, e, hz', hm⟩
    have md := hm d (List.mem_cons_self ..)
    refine (hs d md).mono fun o h1 ⟨e1, e2⟩ => ?_
    subst e1 e2
    simp only [List.length_cons] at hz'
    refine ⟨hg, hl d md, by omega, rfl, ?_, by simp; omega, fun x mx => hm x (List.mem_cons_of_mem _ mx)⟩
    rw [← e, List.map_cons, List.append_assoc]
    rfl
theorem ints_map (is : List Int) : ints? (is.map D.int) = some is := by
  induction is with
  | nil => rfl
  | cons a as ih => rw [List.map_cons, ints?, ih]; rfl
theorem sum_ints (is : List Int) : OkV XQ (bltD .sum [.lst (is.map .int)] h) Q = Q (.int is.sum) h := by
  show OkV XQ (match (lstOf (.lst (is.map .int)) h).bind ints? with | some is => .ok (.int is.sum) h | none => .stuck) Q = _
  have e : (lstOf (.lst (is.map .int)) h).bind ints? = some is := ints_map is
  rw [e]; rfl
/-! ### the store: the bag, what was, a list that grows -/
abbrev St3 (ob : Ob) (rest : Hs) (acc : List D) : Hs := ob :: (rest ++ [.lst acc])
theorem get_last (ob : Ob) (rest : Hs) (x : Ob) : (ob :: (rest ++ [x]))[rest.length + 1]? = some x := by simp
theorem seq_last (ob : Ob) (rest : Hs) (acc : List D) : seqOf (.loc (rest.length + 1)) (ob :: (rest ++ [.lst acc])) = some acc := seq_loc (get_last ..)
theorem seq_app (rest : Hs) (acc : List D) : seqOf (.loc rest.length) (rest ++ [.lst acc]) = some acc := seq_loc (by simp)
theorem lst_last (ob : Ob) (rest : Hs) (acc : List D) : lstLoc (.loc (rest.length + 1)) (ob :: (rest ++ [.lst acc])) = true := by
  simp only [lstLoc, get_last]
theorem app_last (ob : Ob) (rest : Hs) (acc : List D) (d : D) : OkV XQ (appD (.loc (rest.length + 1)) d (ob :: (rest ++ [.lst acc]))) Q = ((isLoc d = false ∧ acc.length < sizeLine) ∧ Q .non (ob :: (rest ++ [.lst (acc ++ [d])]))) := by
  unfold appD
  simp only [get_last]
  rw [ok_dite]
  have e : (ob :: (rest ++ [Ob.lst acc])).set (rest.length + 1) (.lst (acc ++ [d])) = ob :: (rest ++ [.lst (acc ++ [d])]) := by
    rw [List.set_cons_succ, List.set_append_right _ _ (Nat.le_refl _), Nat.sub_self]; rfl
  rw [e]
  simp [OkV]
theorem eq_of {a b : D} {c : Bool} (e : eqD a b h = some c) : OkV XQ (cmpD .eq a b h) Q = Q (.bl c) h := by
  show OkV XQ (match eqD a b h with | some c => Out.ok (D.bl c) h | none => .stuck) Q = _
  rw [e]; rfl
theorem ne_of {a b : D} {c : Bool} (e : eqD a b h = some c) : OkV XQ (cmpD .ne a b h) Q = Q (.bl (!c)) h := by
  show OkV XQ (match eqD a b h with | some c => Out.ok (D.bl !c) h | none => .stuck) Q = _
  rw [e]; rfl
/-! ### pairs -/
abbrev Pr := Int × Int
def pr (q : Pr) : D := .tup [.int q.1, .int q.2]
def SmP (k : Nat) (q : Pr) : Prop := Sm k q.1 ∧ Sm k q.2
theorem noLoc_prs (qs : List Pr) : noLoc (qs.map pr) = true := by
  unfold noLoc
  rw [List.all_map]
  exact List.all_eq_true.mpr fun _ _ => rfl
end
end GY

namespace GY
/-! ### no square of a fraction is one of the roots -/
theorem root_gap {r : Int} (h : Rt r) : ∃ s : Nat, (s : Int) * s < r ∧ r < (s + 1) * (s + 1) := by
  obtain ⟨h1, h2, h3⟩ := h
  have key : ∀ k : Fin 100, 2 ≤ (k.val : Int) → nsq (k.val : Int) = true → ∃ s : Fin 10, ((s.val : Int) * s.val < (k.val : Int) ∧ (k.val : Int) < (s.val + 1) * (s.val + 1)) := by decide +kernel
  have e : ((⟨r.toNat, by omega⟩ : Fin 100).val : Int) = r := by show ((r.toNat : Nat) : Int) = r; omega
  obtain ⟨s, hs⟩ := key ⟨r.toNat, by omega⟩ (by rw [e]; exact h1) (by rw [e]; exact h3)
  rw [e] at hs
  exact ⟨s.val, hs.1, hs.2⟩
theorem irr_aux {r s : Int} (hs : 0 ≤ s) (h1 : s * s < r) (h2 : r < (s + 1) * (s + 1)) : ∀ (n : Nat) (a b : Int), b.toNat = n → 0 ≤ a → 0 ≤ b → a * a = r * (b * b) → b = 0 := by
  intro n
  induction n using Nat.strongRecOn with
  | _ n ih =>
    intro a b hb ha0 hb0 e
    refine Classical.byContradiction fun hne => ?_
    have hb1 : 0 < b := by omega
    have hbb : 0 < b * b := Int.mul_pos hb1 hb1
    have l1 : s * b < a := Classical.byContradiction fun z => by
      have z : a ≤ s * b := by omega
      have : a * a ≤ (s * b) * (s * b) := Int.mul_le_mul z z ha0 (Int.mul_nonneg hs hb0)
      have : s * s * (b * b) < r * (b * b) := Int.mul_lt_mul_of_pos_right h1 hbb
      have e3 : (s * b) * (s * b) = s * s * (b * b) := by grind
      omega
    have l2 : a < (s + 1) * b := Classical.byContradiction fun z => by
      have z : (s + 1) * b ≤ a := by omega
      have : ((s + 1) * b) * ((s + 1) * b) ≤ a * a := Int.mul_le_mul z z (Int.mul_nonneg (by omega) hb0) ha0
      have : r * (b * b) < (s + 1) * (s + 1) * (b * b) := Int.mul_lt_mul_of_pos_right h2 hbb
      have e3 : ((s + 1) * b) * ((s + 1) * b) = (s + 1) * (s + 1) * (b * b) := by grind
      omega
    have e4 : (s + 1) * b = s * b + b := by grind
    have hz := ih (a - s * b).toNat (by omega) (r * b - s * a) (a - s * b) rfl ?_ (by omega) (by grind)
    · omega
    · refine Classical.byContradiction fun z => ?_
      have z : r * b < s * a := by omega
      have : r * b * b ≤ s * a * b := by
        have := Int.mul_lt_mul_of_pos_right z hb1
        omega
      have e5 : a * a = r * b * b := by rw [e]; grind
      have e6 : s * a * b = (s * b) * a := by grind
      have : (s * b) * a < a * a := Int.mul_lt_mul_of_pos_right l1 (by have := Int.mul_nonneg hs hb0; omega)
      omega
theorem irr {r a b : Int} (h : Rt r) (e : a * a = r * b * b) : b = 0 := by
  obtain ⟨s, h1, h2⟩ := root_gap h
  have ea : (a.natAbs : Int) * a.natAbs = a * a := by rcases (show (a.natAbs : Int) = a ∨ (a.natAbs : Int) = -a by omega) with z | z <;> rw [z] <;> grind
  have eb : (b.natAbs : Int) * b.natAbs = b * b := by rcases (show (b.natAbs : Int) = b ∨ (b.natAbs : Int) = -b by omega) with z | z <;> rw [z] <;> grind
  have := irr_aux (by omega) h1 h2 _ (a.natAbs : Int) (b.natAbs : Int) rfl (by omega) (by omega) (by rw [ea, eb, e, Int.mul_assoc])
  omega
/-! ### the sign of a + b root -/
def sgn (i : Int) : Int := if 0 < i then 1 else if i < 0 then -1 else 0
def sgP (r : Int) (q : Pr) : Int :=
  if 0 ≤ q.1 ∧ 0 ≤ q.2 then (if 0 < q.1 ∨ 0 < q.2 then 1 else 0)
  else if q.1 ≤ 0 ∧ q.2 ≤ 0 then -1
  else if 0 < q.1 then (if r * q.2 * q.2 < q.1 * q.1 then 1 else -1) else (if q.1 * q.1 < r * q.2 * q.2 then 1 else -1)
def valP (r : Int) (q : Pr) : Int := q.1 * (q.1.natAbs : Int) + r * q.2 * (q.2.natAbs : Int)
theorem sgP_val {r : Int} (h : Rt r) (q : Pr) : sgP r q = sgn (valP r q) := by
  obtain ⟨a, b⟩ := q
  have hr : 0 < r := by have := h.1; omega
  unfold sgP valP sgn
  dsimp only
  by_cases c1 : 0 ≤ a ∧ 0 ≤ b
  · rw [if_pos c1]
    have ea : (a.natAbs : Int) = a := by omega
    have eb : (b.natAbs : Int) = b := by omega
    rw [ea, eb]
    have pa := Int.mul_nonneg c1.1 c1.1
    have pb := Int.mul_nonneg (Int.mul_nonneg (Int.le_of_lt hr) c1.2) c1.2
    by_cases c2 : 0 < a ∨ 0 < b
    · rw [if_pos c2]
      have : 0 < a * a + r * b * b := by
        rcases c2 with c2 | c2
        · have := Int.mul_pos c2 c2; omega
        · have := Int.mul_pos (Int.mul_pos hr c2) c2; omega
      rw [if_pos this]
    · rw [if_neg c2]
      have e1 : a = 0 := by omega
      have e2 : b = 0 := by omega
      subst e1 e2
      simp
  · rw [if_neg c1]
    by_cases c2 : a ≤ 0 ∧ b ≤ 0
    · rw [if_pos c2]
      have ea : (a.natAbs : Int) = -a := by omega
      have eb : (b.natAbs : Int) = -b := by omega
      rw [ea, eb]
      have pa : 0 ≤ (-a) * (-a) := Int.mul_nonneg (by omega) (by omega)
      have pb : 0 ≤ r * (-b) * (-b) := Int.mul_nonneg (Int.mul_nonneg (Int.le_of_lt hr) (by omega)) (by omega)
      have e1 : a * -a = -((-a) * (-a)) := by grind
      have e2 : r * b * -b = -(r * (-b) * (-b)) := by grind
      have : 0 < (-a) * (-a) + r * (-b) * (-b) := by
        by_cases z : a < 0
        · have := Int.mul_pos (show 0 < -a by omega) (show 0 < -a by omega); omega
        · have := Int.mul_pos (Int.mul_pos hr (show 0 < -b by omega)) (show 0 < -b by omega); omega
      rw [e1, e2, if_neg (by omega), if_pos (by omega)]
    · rw [if_neg c2]
      by_cases c3 : 0 < a
      · rw [if_pos c3]
        have hb : b < 0 := by omega
        have ea : (a.natAbs : Int) = a := by omega
        have eb : (b.natAbs : Int) = -b := by omega
        rw [ea, eb]
        have e2 : r * b * -b = -(r * b * b) := by grind
        rw [e2]
        have ne : a * a ≠ r * b * b := fun e => by have := irr h e; omega
        by_cases c4 : r * b * b < a * a
        · rw [if_pos c4, if_pos (by omega)]
        · rw [if_neg c4, if_neg (by omega), if_pos (by omega)]
      · rw [if_neg c3]
        have ha : a < 0 := by omega
        have ea : (a.natAbs : Int) = -a := by omega
        have eb : (b.natAbs : Int) = b := by omega
        rw [ea, eb]
        have e2 : a * -a = -(a * a) := by grind
        rw [e2]
        have ne : a * a ≠ r * b * b := fun e => by have := irr h e; omega
        by_cases c4 : a * a < r * b * b
        · rw [if_pos c4, if_pos (by omega)]
        · rw [if_neg c4, if_neg (by omega), if_pos (by omega)]
end GY

namespace GY
open PySem PySem.Spec PyProof.Rows L2
variable {XQ : D → Hs → Prop}
section
variable {P : Nat → Option Fd} {i j m n N k : Nat} {h : Hs} {ob : Ob} {Q : D → Hs → Prop} {us : List D} {kws : List (Nat × D)}
theorem abs_int (x : Int) : OkV XQ (bltD .abs_ [.int x] h) Q = Q (.int (x.natAbs : Nat)) h := rfl
theorem int_bl (c : Bool) : OkV XQ (bltD .int_ [.bl c] h) Q = Q (.int (if c then 1 else 0)) h := rfl
theorem int_int (x : Int) : OkV XQ (bltD .int_ [.int x] h) Q = Q (.int x) h := rfl
theorem sm_abs {k : Nat} {x : Int} (s : Sm k x) : Sm k (x.natAbs : Int) := by unfold Sm at *; simpa using s
def fdSign : Fd where
  npos := 2
  pdf := []
  kdf := []
  star := false
  fresh := false
  ns := 6
  body :=
   [.asg (.tp [.nm 2, .nm 3]) (.var 0),
    .ifs (.band (.cmp .ge (.var 2) (.con (.int 0))) (.cmp .ge (.var 3) (.con (.int 0))))
      [.ret (.blt .int_ [.bor (.cmp .gt (.var 2) (.con (.int 0))) (.cmp .gt (.var 3) (.con (.int 0)))])]
      [],
    .ifs (.band (.cmp .le (.var 2) (.con (.int 0))) (.cmp .le (.var 3) (.con (.int 0))))
      [.ret (.neg (.con (.int 1)))]
      [],
    .par [4, 5] [.bin .mul (.var 2) (.var 2), .bin .mul (.bin .mul (.var 1) (.var 3)) (.var 3)],
    .ifs (.cmp .gt (.var 2) (.con (.int 0)))
      [.ret (.ite_ (.cmp .gt (.var 4) (.var 5)) (.con (.int 1)) (.neg (.con (.int 1))))]
      [],
    .ret (.ite_ (.cmp .gt (.var 5) (.var 4)) (.con (.int 1)) (.neg (.con (.int 1))))]
theorem sign_ok (hP : P i = some fdSign) {q : Pr} {r : Int} (sq : SmP 20000 q) (sr : Sm 20000 r) (hbd : bindD fdSign us kws = some [pr q, .int r]) (hQ : Q (.int (sgP r q)) h) : OkV XQ (callN P (k + 1) i us kws h) Q := by
  obtain ⟨a, b⟩ := q
  obtain ⟨sa, sb⟩ := sq
  dsimp only at sa sb
  refine ok_call hP hbd ?_
  have fin : ∀ z : Int, z = sgP r (a, b) → OkV XQ (finish false h.length (.int z) h) Q := fun z e => by
    subst e
    rw [fin_plain rfl (Nat.le_refl _)]
    exact hQ
  unfold sgP at fin
  dsimp only at fin
  simp only [fdSign]
  refine ok_cons (ok_asgT ?_)
  (try simp only [ok_ok, ok_bind, ok_os, oks_ok, after1_nx, after1_rt, after1_bk, after1_ct, w_con, w_var, varQ_z, varQ_s, w_bin, w_neg, negQ_int, w_not, notQ_bl, w_band, andQ_bl, w_bor, orQ_bl, w_cmp, w_ite, w_tup, w_lst, w_lnew, w_idx, w_slc, w_evo_none, w_evo_some, intQ_int, w_call, w_blt, w_app, w_bitl, bitQ_int, wt_bitl, wi_bitl, wb_shl, w_nil, w_cons,
wt_con, wt_var, wt_bin, wt_neg, wt_cmp, wt_cmp2, wt_tup, wt_lst, wt_lnew, wt_idx, wt_slc, wt_call, wt_blt, wt_lc, wt_app, wi_con, wi_var, wi_bin, wi_neg, wi_cmp, wi_cmp2, wi_tup, wi_lst, wi_lnew, wi_idx, wi_slc, wi_call, wi_blt, wi_lc, wi_app, seqQ_tup, seqQ_lst, seqQ_frz, seqQ_loc, tt_not, tt_band, tt_bor, tt_ite, tstQ_bl, tstQ_non, tstQ_int, tstQ_lst, tstQ_tup, wi_rng, rngQ_int, wi_rng2, rng2Q_int, w_lc,
wF_lt, wF_le, wF_gt, wF_ge, wF_isN, wF_notN, wF_eq_int, wF_eq_bl, wF_eq_str, wF_eq_tup, wF_eq_lst, wF_eq_frz, wF_eq_non, wF_ne_int, wF_ne_bl, wF_ne_str, wF_ne_tup, wF_ne_lst, wF_ne_frz, wF_ne_non, wF_isIn_tup, wF_isIn_lst, wF_isIn_frz, wF_notIn_tup, wF_notIn_lst, wF_notIn_frz, wF_eq_ins, wF_eq_insT, wF_eq_insN, wF_eq_insI, wF_ne_ins, wF_bol_ins, blQ_bl, w_bol, wt_bol, wt_lc2, wi_lc2, wbF_int, wbF_lst, wbF_tup, wbF_str, wb_add, wb_sub, wb_mul, wb_fdiv, wb_mod, wb_pow, wb_ladd, wc_lt, wc_le, wc_gt, wc_ge, wc_eq_int, wc_ne_int, wc_eq_bl, wc_ne_bl, wc_isN_int, wc_isN_bl, wc_isN_non, wc_notN_int, wc_notN_tup, wc_notN_non, w_idxD, seq_lst, seq_tup, seq_frz, seq_0, seq_s, len_lst, len_tup, isLoc_int, isLoc_lst, isLoc_tup, ok_ite, mkQ_eq, tss_nil, tss_cons, bindT, bindTs, wipeE, List.zip_nil_left, List.zip_nil_right, List.zip_cons_cons, List.map_nil, List.map_cons, List.nil_append, List.cons_append, List.length_nil, List.length_cons, List.replicate_zero, List.replicate_succ, List.set_cons_zero, List.set_cons_succ, Nat.reduceAdd, Nat.reduceSub, Bool.false_eq_true, Bool.true_eq_false, if_true, if_false, ite_true, ite_false, idxQ_0, idxQ_1, idxQ_2, idxQ_3, idxQ_4, idxQ_5, idxQ_6, idxQ_7, idxQ_8, idxQ_9, idxQ_10, idxQ_11, putQ_0, putQ_1, putQ_2, putQ_3, putQ_4, putQ_5, pr])
  refine ⟨_, rfl, ?_⟩
  refine ok_cons (ok_if ?_)
  (try simp only [ok_ok, ok_bind, ok_os, oks_ok, after1_nx, after1_rt, after1_bk, after1_ct, w_con, w_var, varQ_z, varQ_s, w_bin, w_neg, negQ_int, w_not, notQ_bl, w_band, andQ_bl, w_bor, orQ_bl, w_cmp, w_ite, w_tup, w_lst, w_lnew, w_idx, w_slc, w_evo_none, w_evo_some, intQ_int, w_call, w_blt, w_app, w_bitl, bitQ_int, wt_bitl, wi_bitl, wb_shl, w_nil, w_cons,
wt_con, wt_var, wt_bin, wt_neg, wt_cmp, wt_cmp2, wt_tup, wt_lst, wt_lnew, wt_idx, wt_slc, wt_call, wt_blt, wt_lc, wt_app, wi_con, wi_var, wi_bin, wi_neg, wi_cmp, wi_cmp2, wi_tup, wi_lst, wi_lnew, wi_idx, wi_slc, wi_call, wi_blt, wi_lc, wi_app, seqQ_tup, seqQ_lst, seqQ_frz, seqQ_loc, tt_not, tt_band, tt_bor, tt_ite, tstQ_bl, tstQ_non, tstQ_int, tstQ_lst, tstQ_tup, wi_rng, rngQ_int, wi_rng2, rng2Q_int, w_lc,
wF_lt, wF_le, wF_gt, wF_ge, wF_isN, wF_notN, wF_eq_int, wF_eq_bl, wF_eq_str, wF_eq_tup, wF_eq_lst, wF_eq_frz, wF_eq_non, wF_ne_int, wF_ne_bl, wF_ne_str, wF_ne_tup, wF_ne_lst, wF_ne_frz, wF_ne_non, wF_isIn_tup, wF_isIn_lst, wF_isIn_frz, wF_notIn_tup, wF_notIn_lst, wF_notIn_frz, wF_eq_ins, wF_eq_insT, wF_eq_insN, wF_eq_insI, wF_ne_ins, wF_bol_ins, blQ_bl, w_bol, wt_bol, wt_lc2, wi_lc2, wbF_int, wbF_lst, wbF_tup, wbF_str, wb_add, wb_sub, wb_mul, wb_fdiv, wb_mod, wb_pow, wb_ladd, wc_lt, wc_le, wc_gt, wc_ge, wc_eq_int, wc_ne_int, wc_eq_bl, wc_ne_bl, wc_isN_int, wc_isN_bl, wc_isN_non, wc_notN_int, wc_notN_tup, wc_notN_non, w_idxD, seq_lst, seq_tup, seq_frz, seq_0, seq_s, len_lst, len_tup, isLoc_int, isLoc_lst, isLoc_tup, ok_ite, mkQ_eq, tss_nil, tss_cons, bindT, bindTs, wipeE, List.zip_nil_left, List.zip_nil_right, List.zip_cons_cons, List.map_nil, List.map_cons, List.nil_append, List.cons_append, List.length_nil, List.length_cons, List.replicate_zero, List.replicate_succ, List.set_cons_zero, List.set_cons_succ, Nat.reduceAdd, Nat.reduceSub, Bool.false_eq_true, Bool.true_eq_false, if_true, if_false, ite_true, ite_false, idxQ_0, idxQ_1, idxQ_2, idxQ_3, idxQ_4, idxQ_5, idxQ_6, idxQ_7, idxQ_8, idxQ_9, idxQ_10, idxQ_11, putQ_0, putQ_1, putQ_2, putQ_3, putQ_4, putQ_5])
  by_cases ha : 0 ≤ a
  · rw [if_pos (decide_eq_true ha)]
    by_cases hb : 0 ≤ b
    · rw [if_pos (decide_eq_true hb)]
      refine ok_one (ok_ret ?_)
      (try simp only [ok_ok, ok_bind, ok_os, oks_ok, after1_nx, after1_rt, after1_bk, after1_ct, w_con, w_var, varQ_z, varQ_s, w_bin, w_neg, negQ_int, w_not, notQ_bl, w_band, andQ_bl, w_bor, orQ_bl, w_cmp, w_ite, w_tup, w_lst, w_lnew, w_idx, w_slc, w_evo_none, w_evo_some, intQ_int, w_call, w_blt, w_app, w_bitl, bitQ_int, wt_bitl, wi_bitl, wb_shl, w_nil, w_cons,
wt_con, wt_var, wt_bin, wt_neg, wt_cmp, wt_cmp2, wt_tup, wt_lst, wt_lnew, wt_idx, wt_slc, wt_call, wt_blt, wt_lc, wt_app, wi_con, wi_var, wi_bin, wi_neg, wi_cmp, wi_cmp2, wi_tup, wi_lst, wi_lnew, wi_idx, wi_slc, wi_call, wi_blt, wi_lc, wi_app, seqQ_tup, seqQ_lst, seqQ_frz, seqQ_loc, tt_not, tt_band, tt_bor, tt_ite, tstQ_bl, tstQ_non, tstQ_int, tstQ_lst, tstQ_tup, wi_rng, rngQ_int, wi_rng2, rng2Q_int, w_lc,
wF_lt, wF_le, wF_gt, wF_ge, wF_isN, wF_notN, wF_eq_int, wF_eq_bl, wF_eq_str, wF_eq_tup, wF_eq_lst, wF_eq_frz, wF_eq_non, wF_ne_int, wF_ne_bl, wF_ne_str, wF_ne_tup, wF_ne_lst, wF_ne_frz, wF_ne_non, wF_isIn_tup, wF_isIn_lst, wF_isIn_frz, wF_notIn_tup, wF_notIn_lst, wF_notIn_frz, wF_eq_ins, wF_eq_insT, wF_eq_insN, wF_eq_insI, wF_ne_ins, wF_bol_ins, blQ_bl, w_bol, wt_bol, wt_lc2, wi_lc2, wbF_int, wbF_lst, wbF_tup, wbF_str, wb_add, wb_sub, wb_mul, wb_fdiv, wb_mod, wb_pow, wb_ladd, wc_lt, wc_le, wc_gt, wc_ge, wc_eq_int, wc_ne_int, wc_eq_bl, wc_ne_bl, wc_isN_int, wc_isN_bl, wc_isN_non, wc_notN_int, wc_notN_tup, wc_notN_non, w_idxD, seq_lst, seq_tup, seq_frz, seq_0, seq_s, len_lst, len_tup, isLoc_int, isLoc_lst, isLoc_tup, ok_ite, mkQ_eq, tss_nil, tss_cons, bindT, bindTs, wipeE, List.zip_nil_left, List.zip_nil_right, List.zip_cons_cons, List.map_nil, List.map_cons, List.nil_append, List.cons_append, List.length_nil, List.length_cons, List.replicate_zero, List.replicate_succ, List.set_cons_zero, List.set_cons_succ, Nat.reduceAdd, Nat.reduceSub, Bool.false_eq_true, Bool.true_eq_false, if_true, if_false, ite_true, ite_false, idxQ_0, idxQ_1, idxQ_2, idxQ_3, idxQ_4, idxQ_5, idxQ_6, idxQ_7, idxQ_8, idxQ_9, idxQ_10, idxQ_11, putQ_0, putQ_1, putQ_2, putQ_3, putQ_4, putQ_5])
      rw [if_pos ⟨ha, hb⟩] at fin
      by_cases hc : 0 < a
      · rw [if_pos (decide_eq_true hc)]
        exact fin _ (by simp [hc])
      · rw [if_neg (by simpa using hc)]
        by_cases hd : 0 < b
        · simp only [hd, decide_true, int_bl, if_true]
          exact fin _ (by simp [hd])
        · simp only [hd, decide_false, int_bl, if_false]
          exact fin _ (by simp [hc, hd])
    · rw [if_neg (by simpa using hb)]
      simp only [ok_nil, after1_nx]
      rw [if_neg (fun z => hb z.2)] at fin
      refine ok_cons (ok_if ?_)
      (try simp only [ok_ok, ok_bind, ok_os, oks_ok, after1_nx, after1_rt, after1_bk, after1_ct, w_con, w_var, varQ_z, varQ_s, w_bin, w_neg, negQ_int, w_not, notQ_bl, w_band, andQ_bl, w_bor, orQ_bl, w_cmp, w_ite, w_tup, w_lst, w_lnew, w_idx, w_slc, w_evo_none, w_evo_some, intQ_int, w_call, w_blt, w_app, w_bitl, bitQ_int, wt_bitl, wi_bitl, wb_shl, w_nil, w_cons,
wt_con, wt_var, wt_bin, wt_neg, wt_cmp, wt_cmp2, wt_tup, wt_lst, wt_lnew, wt_idx, wt_slc, wt_call, wt_blt, wt_lc, wt_app, wi_con, wi_var, wi_bin, wi_neg, wi_cmp, wi_cmp2, wi_tup, wi_lst, wi_lnew, wi_idx, wi_slc, wi_call, wi_blt, wi_lc, wi_app, seqQ_tup, seqQ_lst, seqQ_frz, seqQ_loc, tt_not, tt_band, tt_bor, tt_ite, tstQ_bl, tstQ_non, tstQ_int, tstQ_lst, tstQ_tup, wi_rng, rngQ_int, wi_rng2, rng2Q_int, w_lc,
wF_lt, wF_le, wF_gt, wF_ge, wF_isN, wF_notN, wF_eq_int, wF_eq_bl, wF_eq_str, wF_eq_tup, wF_eq_lst, wF_eq_frz, wF_eq_non, wF_ne_int, wF_ne_bl, wF_ne_str, wF_ne_tup, wF_ne_lst, wF_ne_frz, wF_ne_non, wF_isIn_tup, wF_isIn_lst, wF_isIn_frz, wF_notIn_tup, wF_notIn_lst, wF_notIn_frz, wF_eq_ins, wF_eq_insT, wF_eq_insN, wF_eq_insI, wF_ne_ins, wF_bol_ins, blQ_bl, w_bol, wt_bol, wt_lc2, wi_lc2, wbF_int, wbF_lst, wbF_tup, wbF_str, wb_add, wb_sub, wb_mul, wb_fdiv, wb_mod, wb_pow, wb_ladd, wc_lt, wc_le, wc_gt, wc_ge, wc_eq_int, wc_ne_int, wc_eq_bl, wc_ne_bl, wc_isN_int, wc_isN_bl, wc_isN_non, wc_notN_int, wc_notN_tup, wc_notN_non, w_idxD, seq_lst, seq_tup, seq_frz, seq_0, seq_s, len_lst, len_tup, isLoc_int, isLoc_lst, isLoc_tup, ok_ite, mkQ_eq, tss_nil, tss_cons, bindT, bindTs, wipeE, List.zip_nil_left, List.zip_nil_right, List.zip_cons_cons, List.map_nil, List.map_cons, List.nil_append, List.cons_append, List.length_nil, List.length_cons, List.replicate_zero, List.replicate_succ, List.set_cons_zero, List.set_cons_succ, Nat.reduceAdd, Nat.reduceSub, Bool.false_eq_true, Bool.true_eq_false, if_true, if_false, ite_true, ite_false, idxQ_0, idxQ_1, idxQ_2, idxQ_3, idxQ_4, idxQ_5, idxQ_6, idxQ_7, idxQ_8, idxQ_9, idxQ_10, idxQ_11, putQ_0, putQ_1, putQ_2, putQ_3, putQ_4, putQ_5])
      by_cases hc : a ≤ 0
      · rw [if_pos (decide_eq_true hc), if_pos (decide_eq_true (by omega))]
        refine ok_one (ok_ret ?_)
        (try simp only [ok_ok, ok_bind, ok_os, oks_ok, after1_nx, after1_rt, after1_bk, after1_ct, w_con, w_var, varQ_z, varQ_s, w_bin, w_neg, negQ_int, w_not, notQ_bl, w_band, andQ_bl, w_bor, orQ_bl, w_cmp, w_ite, w_tup, w_lst, w_lnew, w_idx, w_slc, w_evo_none, w_evo_some, intQ_int, w_call, w_blt, w_app, w_bitl, bitQ_int, wt_bitl, wi_bitl, wb_shl, w_nil, w_cons,
wt_con, wt_var, wt_bin, wt_neg, wt_cmp, wt_cmp2, wt_tup, wt_lst, wt_lnew, wt_idx, wt_slc, wt_call, wt_blt, wt_lc, wt_app, wi_con, wi_var, wi_bin, wi_neg, wi_cmp, wi_cmp2, wi_tup, wi_lst, wi_lnew, wi_idx, wi_slc, wi_call, wi_blt, wi_lc, wi_app, seqQ_tup, seqQ_lst, seqQ_frz, seqQ_loc, tt_not, tt_band, tt_bor, tt_ite, tstQ_bl, tstQ_non, tstQ_int, tstQ_lst, tstQ_tup, wi_rng, rngQ_int, wi_rng2, rng2Q_int, w_lc,
wF_lt, wF_le, wF_gt, wF_ge, wF_isN, wF_notN, wF_eq_int, wF_eq_bl, wF_eq_str, wF_eq_tup, wF_eq_lst, wF_eq_frz, wF_eq_non, wF_ne_int, wF_ne_bl, wF_ne_str, wF_ne_tup, wF_ne_lst, wF_ne_frz, wF_ne_non, wF_isIn_tup, wF_isIn_lst, wF_isIn_frz, wF_notIn_tup, wF_notIn_lst, wF_notIn_frz, wF_eq_ins, wF_eq_insT, wF_eq_insN, wF_eq_insI, wF_ne_ins, wF_bol_ins, blQ_bl, w_bol, wt_bol, wt_lc2, wi_lc2, wbF_int, wbF_lst, wbF_tup, wbF_str, wb_add, wb_sub, wb_mul, wb_fdiv, wb_mod, wb_pow, wb_ladd, wc_lt, wc_le, wc_gt, wc_ge, wc_eq_int, wc_ne_int, wc_eq_bl, wc_ne_bl, wc_isN_int, wc_isN_bl, wc_isN_non, wc_notN_int, wc_notN_tup, wc_notN_non, w_idxD, seq_lst, seq_tup, seq_frz, seq_0, seq_s, len_lst, len_tup, isLoc_int, isLoc_lst, isLoc_tup, ok_ite, mkQ_eq, tss_nil, tss_cons, bindT, bindTs, wipeE, List.zip_nil_left, List.zip_nil_right, List.zip_cons_cons, List.map_nil, List.map_cons, List.nil_append, List.cons_append, List.length_nil, List.length_cons, List.replicate_zero, List.replicate_succ, List.set_cons_zero, List.set_cons_succ, Nat.reduceAdd, Nat.reduceSub, Bool.false_eq_true, Bool.true_eq_false, if_true, if_false, ite_true, ite_false, idxQ_0, idxQ_1, idxQ_2, idxQ_3, idxQ_4, idxQ_5, idxQ_6, idxQ_7, idxQ_8, idxQ_9, idxQ_10, idxQ_11, putQ_0, putQ_1, putQ_2, putQ_3, putQ_4, putQ_5])
        exact fin _ (by rw [if_pos ⟨hc, by omega⟩])
      · rw [if_neg (by simpa using hc)]
        simp only [ok_nil, after1_nx]
        refine ok_cons (ok_par ?_)
        (try simp only [ok_ok, ok_bind, ok_os, oks_ok, after1_nx, after1_rt, after1_bk, after1_ct, w_con, w_var, varQ_z, varQ_s, w_bin, w_neg, negQ_int, w_not, notQ_bl, w_band, andQ_bl, w_bor, orQ_bl, w_cmp, w_ite, w_tup, w_lst, w_lnew, w_idx, w_slc, w_evo_none, w_evo_some, intQ_int, w_call, w_blt, w_app, w_bitl, bitQ_int, wt_bitl, wi_bitl, wb_shl, w_nil, w_cons,
wt_con, wt_var, wt_bin, wt_neg, wt_cmp, wt_cmp2, wt_tup, wt_lst, wt_lnew, wt_idx, wt_slc, wt_call, wt_blt, wt_lc, wt_app, wi_con, wi_var, wi_bin, wi_neg, wi_cmp, wi_cmp2, wi_tup, wi_lst, wi_lnew, wi_idx, wi_slc, wi_call, wi_blt, wi_lc, wi_app, seqQ_tup, seqQ_lst, seqQ_frz, seqQ_loc, tt_not, tt_band, tt_bor, tt_ite, tstQ_bl, tstQ_non, tstQ_int, tstQ_lst, tstQ_tup, wi_rng, rngQ_int, wi_rng2, rng2Q_int, w_lc,
wF_lt, wF_le, wF_gt, wF_ge, wF_isN, wF_notN, wF_eq_int, wF_eq_bl, wF_eq_str, wF_eq_tup, wF_eq_lst, wF_eq_frz, wF_eq_non, wF_ne_int, wF_ne_bl, wF_ne_str, wF_ne_tup, wF_ne_lst, wF_ne_frz, wF_ne_non, wF_isIn_tup, wF_isIn_lst, wF_isIn_frz, wF_notIn_tup, wF_notIn_lst, wF_notIn_frz, wF_eq_ins, wF_eq_insT, wF_eq_insN, wF_eq_insI, wF_ne_ins, wF_bol_ins, blQ_bl, w_bol, wt_bol, wt_lc2, wi_lc2, wbF_int, wbF_lst, wbF_tup, wbF_str, wb_add, wb_sub, wb_mul, wb_fdiv, wb_mod, wb_pow, wb_ladd, wc_lt, wc_le, wc_gt, wc_ge, wc_eq_int, wc_ne_int, wc_eq_bl, wc_ne_bl, wc_isN_int, wc_isN_bl, wc_isN_non, wc_notN_int, wc_notN_tup, wc_notN_non, w_idxD, seq_lst, seq_tup, seq_frz, seq_0, seq_s, len_lst, len_tup, isLoc_int, isLoc_lst, isLoc_tup, ok_ite, mkQ_eq, tss_nil, tss_cons, bindT, bindTs, wipeE, List.zip_nil_left, List.zip_nil_right, List.zip_cons_cons, List.map_nil, List.map_cons, List.nil_append, List.cons_append, List.length_nil, List.length_cons, List.replicate_zero, List.replicate_succ, List.set_cons_zero, List.set_cons_succ, Nat.reduceAdd, Nat.reduceSub, Bool.false_eq_true, Bool.true_eq_false, if_true, if_false, ite_true, ite_false, idxQ_0, idxQ_1, idxQ_2, idxQ_3, idxQ_4, idxQ_5, idxQ_6, idxQ_7, idxQ_8, idxQ_9, idxQ_10, idxQ_11, putQ_0, putQ_1, putQ_2, putQ_3, putQ_4, putQ_5])
        refine ⟨sa.big sa (by decide) (by decide), sr.big sb (by decide) (by decide), (sr.mul sb).big sb (by decide) (by decide), _, rfl, ?_⟩
        refine ok_cons (ok_if ?_)
        (try simp only [ok_ok, ok_bind, ok_os, oks_ok, after1_nx, after1_rt, after1_bk, after1_ct, w_con, w_var, varQ_z, varQ_s, w_bin, w_neg, negQ_int, w_not, notQ_bl, w_band, andQ_bl, w_bor, orQ_bl, w_cmp, w_ite, w_tup, w_lst, w_lnew, w_idx, w_slc, w_evo_none, w_evo_some, intQ_int, w_call, w_blt, w_app, w_bitl, bitQ_int, wt_bitl, wi_bitl, wb_shl, w_nil, w_cons,
wt_con, wt_var, wt_bin, wt_neg, wt_cmp, wt_cmp2, wt_tup, wt_lst, wt_lnew, wt_idx, wt_slc, wt_call, wt_blt, wt_lc, wt_app, wi_con, wi_var, wi_bin, wi_neg, wi_cmp, wi_cmp2, wi_tup, wi_lst, wi_lnew, wi_idx, wi_slc, wi_call, wi_blt, wi_lc, wi_app, seqQ_tup, seqQ_lst, seqQ_frz, seqQ_loc, tt_not, tt_band, tt_bor, tt_ite, tstQ_bl, tstQ_non, tstQ_int, tstQ_lst, tstQ_tup, wi_rng, rngQ_int, wi_rng2, rng2Q_int, w_lc,
wF_lt, wF_le, wF_gt, wF_ge, wF_isN, wF_notN, wF_eq_int, wF_eq_bl, wF_eq_str, wF_eq_tup, wF_eq_lst, wF_eq_frz, wF_eq_non, wF_ne_int, wF_ne_bl, wF_ne_str, wF_ne_tup, wF_ne_lst, wF_ne_frz, wF_ne_non, wF_isIn_tup, wF_isIn_lst, wF_isIn_frz, wF_notIn_tup, wF_notIn_lst, wF_notIn_frz, wF_eq_ins, wF_eq_insT, wF_eq_insN, wF_eq_insI, wF_ne_ins, wF_bol_ins, blQ_bl, w_bol, wt_bol, wt_lc2, wi_lc2, wbF_int, wbF_lst, wbF_tup, wbF_str, wb_add, wb_sub, wb_mul, wb_fdiv, wb_mod, wb_pow, wb_ladd, wc_lt, wc_le, wc_gt, wc_ge, wc_eq_int, wc_ne_int, wc_eq_bl, wc_ne_bl, wc_isN_int, wc_isN_bl, wc_isN_non, wc_notN_int, wc_notN_tup, wc_notN_non, w_idxD, seq_lst, seq_tup, seq_frz, seq_0, seq_s, len_lst, len_tup, isLoc_int, isLoc_lst, isLoc_tup, ok_ite, mkQ_eq, tss_nil, tss_cons, bindT, bindTs, wipeE, List.zip_nil_left, List.zip_nil_right, List.zip_cons_cons, List.map_nil, List.map_cons, List.nil_append, List.cons_append, List.length_nil, List.length_cons, List.replicate_zero, List.replicate_succ, List.set_cons_zero, List.set_cons_succ, Nat.reduceAdd, Nat.reduceSub, Bool.false_eq_true, Bool.true_eq_false, if_true, if_false, ite_true, ite_false, idxQ_0, idxQ_1, idxQ_2, idxQ_3, idxQ_4, idxQ_5, idxQ_6, idxQ_7, idxQ_8, idxQ_9, idxQ_10, idxQ_11, putQ_0, putQ_1, putQ_2, putQ_3, putQ_4, putQ_5])
        rw [if_pos (decide_eq_true (by omega))]
        refine ok_one (ok_ret ?_)
        (try simp only [ok_ok, ok_bind, ok_os, oks_ok, after1_nx, after1_rt, after1_bk, after1_ct, w_con, w_var, varQ_z, varQ_s, w_bin, w_neg, negQ_int, w_not, notQ_bl, w_band, andQ_bl, w_bor, orQ_bl, w_cmp, w_ite, w_tup, w_lst, w_lnew, w_idx, w_slc, w_evo_none, w_evo_some, intQ_int, w_call, w_blt, w_app, w_bitl, bitQ_int, wt_bitl, wi_bitl, wb_shl, w_nil, w_cons,
wt_con, wt_var, wt_bin, wt_neg, wt_cmp, wt_cmp2, wt_tup, wt_lst, wt_lnew, wt_idx, wt_slc, wt_call, wt_blt, wt_lc, wt_app, wi_con, wi_var, wi_bin, wi_neg, wi_cmp, wi_cmp2, wi_tup, wi_lst, wi_lnew, wi_idx, wi_slc, wi_call, wi_blt, wi_lc, wi_app, seqQ_tup, seqQ_lst, seqQ_frz, seqQ_loc, tt_not, tt_band, tt_bor, tt_ite, tstQ_bl, tstQ_non, tstQ_int, tstQ_lst, tstQ_tup, wi_rng, rngQ_int, wi_rng2, rng2Q_int, w_lc,
wF_lt, wF_le, wF_gt, wF_ge, wF_isN, wF_notN, wF_eq_int, wF_eq_bl, wF_eq_str, wF_eq_tup, wF_eq_lst, wF_eq_frz, wF_eq_non, wF_ne_int, wF_ne_bl, wF_ne_str, wF_ne_tup, wF_ne_lst, wF_ne_frz, wF_ne_non, wF_isIn_tup, wF_isIn_lst, wF_isIn_frz, wF_notIn_tup, wF_notIn_lst, wF_notIn_frz, wF_eq_ins, wF_eq_insT, wF_eq_insN, wF_eq_insI, wF_ne_ins, wF_bol_ins, blQ_bl, w_bol, wt_bol, wt_lc2, wi_lc2, wbF_int, wbF_lst, wbF_tup, wbF_str, wb_add, wb_sub, wb_mul, wb_fdiv, wb_mod, wb_pow, wb_ladd, wc_lt, wc_le, wc_gt, wc_ge, wc_eq_int, wc_ne_int, wc_eq_bl, wc_ne_bl, wc_isN_int, wc_isN_bl, wc_isN_non, wc_notN_int, wc_notN_tup, wc_notN_non, w_idxD, seq_lst, seq_tup, seq_frz, seq_0, seq_s, len_lst, len_tup, isLoc_int, isLoc_lst, isLoc_tup, ok_ite, mkQ_eq, tss_nil, tss_cons, bindT, bindTs, wipeE, List.zip_nil_left, List.zip_nil_right, List.zip_cons_cons, List.map_nil, List.map_cons, List.nil_append, List.cons_append, List.length_nil, List.length_cons, List.replicate_zero, List.replicate_succ, List.set_cons_zero, List.set_cons_succ, Nat.reduceAdd, Nat.reduceSub, Bool.false_eq_true, Bool.true_eq_false, if_true, if_false, ite_true, ite_false, idxQ_0, idxQ_1, idxQ_2, idxQ_3, idxQ_4, idxQ_5, idxQ_6, idxQ_7, idxQ_8, idxQ_9, idxQ_10, idxQ_11, putQ_0, putQ_1, putQ_2, putQ_3, putQ_4, putQ_5])
        rw [if_neg (fun z => hc z.1), if_pos (by omega)] at fin
        by_cases he : r * b * b < a * a
        · rw [if_pos (decide_eq_true he)]
          exact fin _ (by rw [if_pos he])
        · rw [if_neg (by simpa using he)]
          (try simp only [ok_ok, ok_bind, ok_os, oks_ok, after1_nx, after1_rt, after1_bk, after1_ct, w_con, w_var, varQ_z, varQ_s, w_bin, w_neg, negQ_int, w_not, notQ_bl, w_band, andQ_bl, w_bor, orQ_bl, w_cmp, w_ite, w_tup, w_lst, w_lnew, w_idx, w_slc, w_evo_none, w_evo_some, intQ_int, w_call, w_blt, w_app, w_bitl, bitQ_int, wt_bitl, wi_bitl, wb_shl, w_nil, w_cons,
wt_con, wt_var, wt_bin, wt_neg, wt_cmp, wt_cmp2, wt_tup, wt_lst, wt_lnew, wt_idx, wt_slc, wt_call, wt_blt, wt_lc, wt_app, wi_con, wi_var, wi_bin, wi_neg, wi_cmp, wi_cmp2, wi_tup, wi_lst, wi_lnew, wi_idx, wi_slc, wi_call, wi_blt, wi_lc, wi_app, seqQ_tup, seqQ_lst, seqQ_frz, seqQ_loc, tt_not, tt_band, tt_bor, tt_ite, tstQ_bl, tstQ_non, tstQ_int, tstQ_lst, tstQ_tup, wi_rng, rngQ_int, wi_rng2, rng2Q_int, w_lc,
wF_lt, wF_le, wF_gt, wF_ge, wF_isN, wF_notN, wF_eq_int, wF_eq_bl, wF_eq_str, wF_eq_tup, wF_eq_lst, wF_eq_frz, wF_eq_non, wF_ne_int, wF_ne_bl, wF_ne_str, wF_ne_tup, wF_ne_lst, wF_ne_frz, wF_ne_non, wF_isIn_tup, wF_isIn_lst, wF_isIn_frz, wF_notIn_tup, wF_notIn_lst, wF_notIn_frz, wF_eq_ins, wF_eq_insT, wF_eq_insN, wF_eq_insI, wF_ne_ins, wF_bol_ins, blQ_bl, w_bol, wt_bol, wt_lc2, wi_lc2, wbF_int, wbF_lst, wbF_tup, wbF_str, wb_add, wb_sub, wb_mul, wb_fdiv, wb_mod, wb_pow, wb_ladd, wc_lt, wc_le, wc_gt, wc_ge, wc_eq_int, wc_ne_int, wc_eq_bl, wc_ne_bl, wc_isN_int, wc_isN_bl, wc_isN_non, wc_notN_int, wc_notN_tup, wc_notN_non, w_idxD, seq_lst, seq_tup, seq_frz, seq_0, seq_s, len_lst, len_tup, isLoc_int, isLoc_lst, isLoc_tup, ok_ite, mkQ_eq, tss_nil, tss_cons, bindT, bindTs, wipeE, List.zip_nil_left, List.zip_nil_right, List.zip_cons_cons, List.map_nil, List.map_cons, List.nil_append, List.cons_append, List.length_nil, List.length_cons, List.replicate_zero, List.replicate_succ, List.set_cons_zero, List.set_cons_succ, Nat.reduceAdd, Nat.reduceSub, Bool.false_eq_true, Bool.true_eq_false, if_true, if_false, ite_true, ite_false, idxQ_0, idxQ_1, idxQ_2, idxQ_3, idxQ_4, idxQ_5, idxQ_6, idxQ_7, idxQ_8, idxQ_9, idxQ_10, idxQ_11, putQ_0, putQ_1, putQ_2, putQ_3, putQ_4, putQ_5])
          exact fin _ (by rw [if_neg he])
  · rw [if_neg (by simpa using ha)]
    simp only [ok_nil, after1_nx, ok_ok, ok_bind, ok_os, oks_ok, after1_nx, after1_rt, after1_bk, after1_ct, w_con, w_var, varQ_z, varQ_s, w_bin, w_neg, negQ_int, w_not, notQ_bl, w_band, andQ_bl, w_bor, orQ_bl, w_cmp, w_ite, w_tup, w_lst, w_lnew, w_idx, w_slc, w_evo_none, w_evo_some, intQ_int, w_call, w_blt, w_app, w_bitl, bitQ_int, wt_bitl, wi_bitl, wb_shl, w_nil, w_cons,
wt_con, wt_var, wt_bin, wt_neg, wt_cmp, wt_cmp2, wt_tup, wt_lst, wt_lnew, wt_idx, wt_slc, wt_call, wt_blt, wt_lc, wt_app, wi_con, wi_var, wi_bin, wi_neg, wi_cmp, wi_cmp2, wi_tup, wi_lst, wi_lnew, wi_idx, wi_slc, wi_call, wi_blt, wi_lc, wi_app, seqQ_tup, seqQ_lst, seqQ_frz, seqQ_loc, tt_not, tt_band, tt_bor, tt_ite, tstQ_bl, tstQ_non, tstQ_int, tstQ_lst, tstQ_tup, wi_rng, rngQ_int, wi_rng2, rng2Q_int, w_lc,
wF_lt, wF_le, wF_gt, wF_ge, wF_isN, wF_notN, wF_eq_int, wF_eq_bl, wF_eq_str, wF_eq_tup, wF_eq_lst, wF_eq_frz, wF_eq_non, wF_ne_int, wF_ne_bl, wF_ne_str, wF_ne_tup, wF_ne_lst, wF_ne_frz, wF_ne_non, wF_isIn_tup, wF_isIn_lst, wF_isIn_frz, wF_notIn_tup, wF_notIn_lst, wF_notIn_frz, wF_eq_ins, wF_eq_insT, wF_eq_insN, wF_eq_insI, wF_ne_ins, wF_bol_ins, blQ_bl, w_bol, wt_bol, wt_lc2, wi_lc2, wbF_int, wbF_lst, wbF_tup, wbF_str, wb_add, wb_sub, wb_mul, wb_fdiv, wb_mod, wb_pow, wb_ladd, wc_lt, wc_le, wc_gt, wc_ge, wc_eq_int, wc_ne_int, wc_eq_bl, wc_ne_bl, wc_isN_int, wc_isN_bl, wc_isN_non, wc_notN_int, wc_notN_tup, wc_notN_non, w_idxD, seq_lst, seq_tup, seq_frz, seq_0, seq_s, len_lst, len_tup, isLoc_int, isLoc_lst, isLoc_tup, ok_ite, mkQ_eq, tss_nil, tss_cons, bindT, bindTs, wipeE, List.zip_nil_left, List.zip_nil_right, List.zip_cons_cons, List.map_nil, List.map_cons, List.nil_append, List.cons_append, List.length_nil, List.length_cons, List.replicate_zero, List.replicate_succ, List.set_cons_zero, List.set_cons_succ, Nat.reduceAdd, Nat.reduceSub, Bool.false_eq_true, Bool.true_eq_false, if_true, if_false, ite_true, ite_false, idxQ_0, idxQ_1, idxQ_2, idxQ_3, idxQ_4, idxQ_5, idxQ_6, idxQ_7, idxQ_8, idxQ_9, idxQ_10, idxQ_11, putQ_0, putQ_1, putQ_2, putQ_3, putQ_4, putQ_5]
    rw [if_neg (fun z => ha z.1)] at fin
    refine ok_cons (ok_if ?_)
    (try simp only [ok_ok, ok_bind, ok_os, oks_ok, after1_nx, after1_rt, after1_bk, after1_ct, w_con, w_var, varQ_z, varQ_s, w_bin, w_neg, negQ_int, w_not, notQ_bl, w_band, andQ_bl, w_bor, orQ_bl, w_cmp, w_ite, w_tup, w_lst, w_lnew, w_idx, w_slc, w_evo_none, w_evo_some, intQ_int, w_call, w_blt, w_app, w_bitl, bitQ_int, wt_bitl, wi_bitl, wb_shl, w_nil, w_cons,
wt_con, wt_var, wt_bin, wt_neg, wt_cmp, wt_cmp2, wt_tup, wt_lst, wt_lnew, wt_idx, wt_slc, wt_call, wt_blt, wt_lc, wt_app, wi_con, wi_var, wi_bin, wi_neg, wi_cmp, wi_cmp2, wi_tup, wi_lst, wi_lnew, wi_idx, wi_slc, wi_call, wi_blt, wi_lc, wi_app, seqQ_tup, seqQ_lst, seqQ_frz, seqQ_loc, tt_not, tt_band, tt_bor, tt_ite, tstQ_bl, tstQ_non, tstQ_int, tstQ_lst, tstQ_tup, wi_rng, rngQ_int, wi_rng2, rng2Q_int, w_lc,
wF_lt, wF_le, wF_gt, wF_ge, wF_isN, wF_notN, wF_eq_int, wF_eq_bl, wF_eq_str, wF_eq_tup, wF_eq_lst, wF_eq_frz, wF_eq_non, wF_ne_int, wF_ne_bl, wF_ne_str, wF_ne_tup, wF_ne_lst, wF_ne_frz, wF_ne_non, wF_isIn_tup, wF_isIn_lst, wF_isIn_frz, wF_notIn_tup, wF_notIn_lst, wF_notIn_frz, wF_eq_ins, wF_eq_insT, wF_eq_insN, wF_eq_insI, wF_ne_ins, wF_bol_ins, blQ_bl, w_bol, wt_bol, wt_lc2, wi_lc2, wbF_int, wbF_lst, wbF_tup, wbF_str, wb_add, wb_sub, wb_mul, wb_fdiv, wb_mod, wb_pow, wb_ladd, wc_lt, wc_le, wc_gt, wc_ge, wc_eq_int, wc_ne_int, wc_eq_bl, wc_ne_bl, wc_isN_int, wc_isN_bl, wc_isN_non, wc_notN_int, wc_notN_tup, wc_notN_non, w_idxD, seq_lst, seq_tup, seq_frz, seq_0, seq_s, len_lst, len_tup, isLoc_int, isLoc_lst, isLoc_tup, ok_ite, mkQ_eq, tss_nil, tss_cons, bindT, bindTs, wipeE, List.zip_nil_left, List.zip_nil_right, List.zip_cons_cons, List.map_nil, List.map_cons, List.nil_append, List.cons_append, List.length_nil, List.length_cons, List.replicate_zero, List.replicate_succ, List.set_cons_zero, List.set_cons_succ, Nat.reduceAdd, Nat.reduceSub, Bool.false_eq_true, Bool.true_eq_false, if_true, if_false, ite_true, ite_false, idxQ_0, idxQ_1, idxQ_2, idxQ_3, idxQ_4, idxQ_5, idxQ_6, idxQ_7, idxQ_8, idxQ_9, idxQ_10, idxQ_11, putQ_0, putQ_1, putQ_2, putQ_3, putQ_4, putQ_5])
    rw [if_pos (decide_eq_true (by omega))]
    by_cases hc : b ≤ 0
    · rw [if_pos (decide_eq_true hc)]
      refine ok_one (ok_ret ?_)
      (try simp only [ok_ok, ok_bind, ok_os, oks_ok, after1_nx, after1_rt, after1_bk, after1_ct, w_con, w_var, varQ_z, varQ_s, w_bin, w_neg, negQ_int, w_not, notQ_bl, w_band, andQ_bl, w_bor, orQ_bl, w_cmp, w_ite, w_tup, w_lst, w_lnew, w_idx, w_slc, w_evo_none, w_evo_some, intQ_int, w_call, w_blt, w_app, w_bitl, bitQ_int, wt_bitl, wi_bitl, wb_shl, w_nil, w_cons,
wt_con, wt_var, wt_bin, wt_neg, wt_cmp, wt_cmp2, wt_tup, wt_lst, wt_lnew, wt_idx, wt_slc, wt_call, wt_blt, wt_lc, wt_app, wi_con, wi_var, wi_bin, wi_neg, wi_cmp, wi_cmp2, wi_tup, wi_lst, wi_lnew, wi_idx, wi_slc, wi_call, wi_blt, wi_lc, wi_app, seqQ_tup, seqQ_lst, seqQ_frz, seqQ_loc, tt_not, tt_band, tt_bor, tt_ite, tstQ_bl, tstQ_non, tstQ_int, tstQ_lst, tstQ_tup, wi_rng, rngQ_int, wi_rng2, rng2Q_int, w_lc,
wF_lt, wF_le, wF_gt, wF_ge, wF_isN, wF_notN, wF_eq_int, wF_eq_bl, wF_eq_str, wF_eq_tup, wF_eq_lst, wF_eq_frz, wF_eq_non, wF_ne_int, wF_ne_bl, wF_ne_str, wF_ne_tup, wF_ne_lst, wF_ne_frz, wF_ne_non, wF_isIn_tup, wF_isIn_lst, wF_isIn_frz, wF_notIn_tup, wF_notIn_lst, wF_notIn_frz, wF_eq_ins, wF_eq_insT, wF_eq_insN, wF_eq_insI, wF_ne_ins, wF_bol_ins, blQ_bl, w_bol, wt_bol, wt_lc2, wi_lc2, wbF_int, wbF_lst, wbF_tup, wbF_str, wb_add, wb_sub, wb_mul, wb_fdiv, wb_mod, wb_pow, wb_ladd, wc_lt, wc_le, wc_gt, wc_ge, wc_eq_int, wc_ne_int, wc_eq_bl, wc_ne_bl, wc_isN_int, wc_isN_bl, wc_isN_non, wc_notN_int, wc_notN_tup, wc_notN_non, w_idxD, seq_lst, seq_tup, seq_frz, seq_0, seq_s, len_lst, len_tup, isLoc_int, isLoc_lst, isLoc_tup, ok_ite, mkQ_eq, tss_nil, tss_cons, bindT, bindTs, wipeE, List.zip_nil_left, List.zip_nil_right, List.zip_cons_cons, List.map_nil, List.map_cons, List.nil_append, List.cons_append, List.length_nil, List.length_cons, List.replicate_zero, List.replicate_succ, List.set_cons_zero, List.set_cons_succ, Nat.reduceAdd, Nat.reduceSub, Bool.false_eq_true, Bool.true_eq_false, if_true, if_false, ite_true, ite_false, idxQ_0, idxQ_1, idxQ_2, idxQ_3, idxQ_4, idxQ_5, idxQ_6, idxQ_7, idxQ_8, idxQ_9, idxQ_10, idxQ_11, putQ_0, putQ_1, putQ_2, putQ_3, putQ_4, putQ_5])
      exact fin _ (by rw [if_pos ⟨by omega, hc⟩])
    · rw [if_neg (by simpa using hc)]
      simp only [ok_nil, after1_nx]
      refine ok_cons (ok_par ?_)
      (try simp only [ok_ok, ok_bind, ok_os, oks_ok, after1_nx, after1_rt, after1_bk, after1_ct, w_con, w_var, varQ_z, varQ_s, w_bin, w_neg, negQ_int, w_not, notQ_bl, w_band, andQ_bl, w_bor, orQ_bl, w_cmp, w_ite, w_tup, w_lst, w_lnew, w_idx, w_slc, w_evo_none, w_evo_some, intQ_int, w_call, w_blt, w_app, w_bitl, bitQ_int, wt_bitl, wi_bitl, wb_shl, w_nil, w_cons,
wt_con, wt_var, wt_bin, wt_neg, wt_cmp, wt_cmp2, wt_tup, wt_lst, wt_lnew, wt_idx, wt_slc, wt_call, wt_blt, wt_lc, wt_app, wi_con, wi_var, wi_bin, wi_neg, wi_cmp, wi_cmp2, wi_tup, wi_lst, wi_lnew, wi_idx, wi_slc, wi_call, wi_blt, wi_lc, wi_app, seqQ_tup, seqQ_lst, seqQ_frz, seqQ_loc, tt_not, tt_band, tt_bor, tt_ite, tstQ_bl, tstQ_non, tstQ_int, tstQ_lst, tstQ_tup, wi_rng, rngQ_int, wi_rng2, rng2Q_int, w_lc,
wF_lt, wF_le, wF_gt, wF_ge, wF_isN, wF_notN, wF_eq_int, wF_eq_bl, wF_eq_str, wF_eq_tup, wF_eq_lst, wF_eq_frz, wF_eq_non, wF_ne_int, wF_ne_bl, wF_ne_str, wF_ne_tup, wF_ne_lst, wF_ne_frz, wF_ne_non, wF_isIn_tup, wF_isIn_lst, wF_isIn_frz, wF_notIn_tup, wF_notIn_lst, wF_notIn_frz, wF_eq_ins, wF_eq_insT, wF_eq_insN, wF_eq_insI, wF_ne_ins, wF_bol_ins, blQ_bl, w_bol, wt_bol, wt_lc2, wi_lc2, wbF_int, wbF_lst, wbF_tup, wbF_str, wb_add, wb_sub, wb_mul, wb_fdiv, wb_mod, wb_pow, wb_ladd, wc_lt, wc_le, wc_gt, wc_ge, wc_eq_int, wc_ne_int, wc_eq_bl, wc_ne_bl, wc_isN_int, wc_isN_bl, wc_isN_non, wc_notN_int, wc_notN_tup, wc_notN_non, w_idxD, seq_lst, seq_tup, seq_frz, seq_0, seq_s, len_lst, len_tup, isLoc_int, isLoc_lst, isLoc_tup, ok_ite, mkQ_eq, tss_nil, tss_cons, bindT, bindTs, wipeE, List.zip_nil_left, List.zip_nil_right, List.zip_cons_cons, List.map_nil, List.map_cons, List.nil_append, List.cons_append, List.length_nil, List.length_cons, List.replicate_zero, List.replicate_succ, List.set_cons_zero, List.set_cons_succ, Nat.reduceAdd, Nat.reduceSub, Bool.false_eq_true, Bool.true_eq_false, if_true, if_false, ite_true, ite_false, idxQ_0, idxQ_1, idxQ_2, idxQ_3, idxQ_4, idxQ_5, idxQ_6, idxQ_7, idxQ_8, idxQ_9, idxQ_10, idxQ_11, putQ_0, putQ_1, putQ_2, putQ_3, putQ_4, putQ_5])
      refine ⟨sa.big sa (by decide) (by decide), sr.big sb (by decide) (by decide), (sr.mul sb).big sb (by decide) (by decide), _, rfl, ?_⟩
      refine ok_cons (ok_if ?_)
      (try simp only [ok_ok, ok_bind, ok_os, oks_ok, after1_nx, after1_rt, after1_bk, after1_ct, w_con, w_var, varQ_z, varQ_s, w_bin, w_neg, negQ_int, w_not, notQ_bl, w_band, andQ_bl, w_bor, orQ_bl, w_cmp, w_ite, w_tup, w_lst, w_lnew, w_idx, w_slc, w_evo_none, w_evo_some, intQ_int, w_call, w_blt, w_app, w_bitl, bitQ_int, wt_bitl, wi_bitl, wb_shl, w_nil, w_cons,
wt_con, wt_var, wt_bin, wt_neg, wt_cmp, wt_cmp2, wt_tup, wt_lst, wt_lnew, wt_idx, wt_slc, wt_call, wt_blt, wt_lc, wt_app, wi_con, wi_var, wi_bin, wi_neg, wi_cmp, wi_cmp2, wi_tup, wi_lst, wi_lnew, wi_idx, wi_slc, wi_call, wi_blt, wi_lc, wi_app, seqQ_tup, seqQ_lst, seqQ_frz, seqQ_loc, tt_not, tt_band, tt_bor, tt_ite, tstQ_bl, tstQ_non, tstQ_int, tstQ_lst, tstQ_tup, wi_rng, rngQ_int, wi_rng2, rng2Q_int, w_lc,
wF_lt, wF_le, wF_gt, wF_ge, wF_isN, wF_notN, wF_eq_int, wF_eq_bl, wF_eq_str, wF_eq_tup, wF_eq_lst, wF_eq_frz, wF_eq_non, wF_ne_int, wF_ne_bl, wF_ne_str, wF_ne_tup, wF_ne_lst, wF_ne_frz, wF_ne_non, wF_isIn_tup, wF_isIn_lst, wF_isIn_frz, wF_notIn_tup, wF_notIn_lst, wF_notIn_frz, wF_eq_ins, wF_eq_insT, wF_eq_insN, wF_eq_insI, wF_ne_ins, wF_bol_ins, blQ_bl, w_bol, wt_bol, wt_lc2, wi_lc2, wbF_int, wbF_lst, wbF_tup, wbF_str, wb_add, wb_sub, wb_mul, wb_fdiv, wb_mod, wb_pow, wb_ladd, wc_lt, wc_le, wc_gt, wc_ge, wc_eq_int, wc_ne_int, wc_eq_bl, wc_ne_bl, wc_isN_int, wc_isN_bl, wc_isN_non, wc_notN_int, wc_notN_tup, wc_notN_non, w_idxD, seq_lst, seq_tup, seq_frz, seq_0, seq_s, len_lst, len_tup, isLoc_int, isLoc_lst, isLoc_tup, ok_ite, mkQ_eq, tss_nil, tss_cons, bindT, bindTs, wipeE, List.zip_nil_left, List.zip_nil_right, List.zip_cons_cons, List.map_nil, List.map_cons, List.nil_append, List.cons_append, List.length_nil, List.length_cons, List.replicate_zero, List.replicate_succ, List.set_cons_zero, List.set_cons_succ, Nat.reduceAdd, Nat.reduceSub, Bool.false_eq_true, Bool.true_eq_false, if_true, if_false, ite_true, ite_false, idxQ_0, idxQ_1, idxQ_2, idxQ_3, idxQ_4, idxQ_5, idxQ_6, idxQ_7, idxQ_8, idxQ_9, idxQ_10, idxQ_11, putQ_0, putQ_1, putQ_2, putQ_3, putQ_4, putQ_5])
      rw [if_neg (by simp; omega)]
      simp only [ok_nil, after1_nx]
      refine ok_one (ok_ret ?_)
      (try simp only [ok_ok, ok_bind, ok_os, oks_ok, after1_nx, after1_rt, after1_bk, after1_ct, w_con, w_var, varQ_z, varQ_s, w_bin, w_neg, negQ_int, w_not, notQ_bl, w_band, andQ_bl, w_bor, orQ_bl, w_cmp, w_ite, w_tup, w_lst, w_lnew, w_idx, w_slc, w_evo_none, w_evo_some, intQ_int, w_call, w_blt, w_app, w_bitl, bitQ_int, wt_bitl, wi_bitl, wb_shl, w_nil, w_cons,
wt_con, wt_var, wt_bin, wt_neg, wt_cmp, wt_cmp2, wt_tup, wt_lst, wt_lnew, wt_idx, wt_slc, wt_call, wt_blt, wt_lc, wt_app, wi_con, wi_var, wi_bin, wi_neg, wi_cmp, wi_cmp2, wi_tup, wi_lst, wi_lnew, wi_idx, wi_slc, wi_call, wi_blt, wi_lc, wi_app, seqQ_tup, seqQ_lst, seqQ_frz, seqQ_loc, tt_not, tt_band, tt_bor, tt_ite, tstQ_bl, tstQ_non, tstQ_int, tstQ_lst, tstQ_tup, wi_rng, rngQ_int, wi_rng2, rng2Q_int, w_lc,
wF_lt, wF_le, wF_gt, wF_ge, wF_isN, wF_notN, wF_eq_int, wF_eq_bl, wF_eq_str, wF_eq_tup, wF_eq_lst, wF_eq_frz, wF_eq_non, wF_ne_int, wF_ne_bl, wF_ne_str, wF_ne_tup, wF_ne_lst, wF_ne_frz, wF_ne_non, wF_isIn_tup, wF_isIn_lst, wF_isIn_frz, wF_notIn_tup, wF_notIn_lst, wF_notIn_frz, wF_eq_ins, wF_eq_insT, wF_eq_insN, wF_eq_insI, wF_ne_ins, wF_bol_ins, blQ_bl, w_bol, wt_bol, wt_lc2, wi_lc2, wbF_int, wbF_lst, wbF_tup, wbF_str, wb_add, wb_sub, wb_mul, wb_fdiv, wb_mod, wb_pow, wb_ladd, wc_lt, wc_le, wc_gt, wc_ge, wc_eq_int, wc_ne_int, wc_eq_bl, wc_ne_bl, wc_isN_int, wc_isN_bl, wc_isN_non, wc_notN_int, wc_notN_tup, wc_notN_non, w_idxD, seq_lst, seq_tup, seq_frz, seq_0, seq_s, len_lst, len_tup, isLoc_int, isLoc_lst, isLoc_tup, ok_ite, mkQ_eq, tss_nil, tss_cons, bindT, bindTs, wipeE, List.zip_nil_left, List.zip_nil_right, List.zip_cons_cons, List.map_nil, List.map_cons, List.nil_append, List.cons_append, List.length_nil, List.length_cons, List.replicate_zero, List.replicate_succ, List.set_cons_zero, List.set_cons_succ, Nat.reduceAdd, Nat.reduceSub, Bool.false_eq_true, Bool.true_eq_false, if_true, if_false, ite_true, ite_false, idxQ_0, idxQ_1, idxQ_2, idxQ_3, idxQ_4, idxQ_5, idxQ_6, idxQ_7, idxQ_8, idxQ_9, idxQ_10, idxQ_11, putQ_0, putQ_1, putQ_2, putQ_3, putQ_4, putQ_5])
      rw [if_neg (fun z => hc z.2), if_neg (by omega)] at fin
      by_cases he : a * a < r * b * b
      · rw [if_pos (decide_eq_true he)]
        exact fin _ (by rw [if_pos he])
      · rw [if_neg (by simpa using he)]
        (try simp only [ok_ok, ok_bind, ok_os, oks_ok, after1_nx, after1_rt, after1_bk, after1_ct, w_con, w_var, varQ_z, varQ_s, w_bin, w_neg, negQ_int, w_not, notQ_bl, w_band, andQ_bl, w_bor, orQ_bl, w_cmp, w_ite, w_tup, w_lst, w_lnew, w_idx, w_slc, w_evo_none, w_evo_some, intQ_int, w_call, w_blt, w_app, w_bitl, bitQ_int, wt_bitl, wi_bitl, wb_shl, w_nil, w_cons,
wt_con, wt_var, wt_bin, wt_neg, wt_cmp, wt_cmp2, wt_tup, wt_lst, wt_lnew, wt_idx, wt_slc, wt_call, wt_blt, wt_lc, wt_app, wi_con, wi_var, wi_bin, wi_neg, wi_cmp, wi_cmp2, wi_tup, wi_lst, wi_lnew, wi_idx, wi_slc, wi_call, wi_blt, wi_lc, wi_app, seqQ_tup, seqQ_lst, seqQ_frz, seqQ_loc, tt_not, tt_band, tt_bor, tt_ite, tstQ_bl, tstQ_non, tstQ_int, tstQ_lst, tstQ_tup, wi_rng, rngQ_int, wi_rng2, rng2Q_int, w_lc,
wF_lt, wF_le, wF_gt, wF_ge, wF_isN, wF_notN, wF_eq_int, wF_eq_bl, wF_eq_str, wF_eq_tup, wF_eq_lst, wF_eq_frz, wF_eq_non, wF_ne_int, wF_ne_bl, wF_ne_str, wF_ne_tup, wF_ne_lst, wF_ne_frz, wF_ne_non, wF_isIn_tup, wF_isIn_lst, wF_isIn_frz, wF_notIn_tup, wF_notIn_lst, wF_notIn_frz, wF_eq_ins, wF_eq_insT, wF_eq_insN, wF_eq_insI, wF_ne_ins, wF_bol_ins, blQ_bl, w_bol, wt_bol, wt_lc2, wi_lc2, wbF_int, wbF_lst, wbF_tup, wbF_str, wb_add, wb_sub, wb_mul, wb_fdiv, wb_mod, wb_pow, wb_ladd, wc_lt, wc_le, wc_gt, wc_ge, wc_eq_int, wc_ne_int, wc_eq_bl, wc_ne_bl, wc_isN_int, wc_isN_bl, wc_isN_non, wc_notN_int, wc_notN_tup, wc_notN_non, w_idxD, seq_lst, seq_tup, seq_frz, seq_0, seq_s, len_lst, len_tup, isLoc_int, isLoc_lst, isLoc_tup, ok_ite, mkQ_eq, tss_nil, tss_cons, bindT, bindTs, wipeE, List.zip_nil_left, List.zip_nil_right, List.zip_cons_cons, List.map_nil, List.map_cons, List.nil_append, List.cons_append, List.length_nil, List.length_cons, List.replicate_zero, List.replicate_succ, List.set_cons_zero, List.set_cons_succ, Nat.reduceAdd, Nat.reduceSub, Bool.false_eq_true, Bool.true_eq_false, if_true, if_false, ite_true, ite_false, idxQ_0, idxQ_1, idxQ_2, idxQ_3, idxQ_4, idxQ_5, idxQ_6, idxQ_7, idxQ_8, idxQ_9, idxQ_10, idxQ_11, putQ_0, putQ_1, putQ_2, putQ_3, putQ_4, putQ_5])
        exact fin _ (by rw [if_neg he])
def fdMinus : Fd where
  npos := 2
  pdf := []
  kdf := []
  star := false
  fresh := false
  ns := 2
  body :=
   [.ret (.tup [.bin .sub (.idx (.var 0) (.con (.int 0))) (.idx (.var 1) (.con (.int 0))), .bin .sub (.idx (.var 0) (.con (.int 1))) (.idx (.var 1) (.con (.int 1)))])]
def psub (p q : Pr) : Pr := (p.1 - q.1, p.2 - q.2)
theorem minus_ok (hP : P i = some fdMinus) {p q : Pr} (hbd : bindD fdMinus us kws = some [pr p, pr q]) (hQ : Q (pr (psub p q)) h) : OkV XQ (callN P (k + 1) i us kws h) Q := by
  refine ok_call hP hbd ?_
  simp only [fdMinus]
  refine ok_one (ok_ret ?_)
  (try simp only [ok_ok, ok_bind, ok_os, oks_ok, after1_nx, after1_rt, after1_bk, after1_ct, w_con, w_var, varQ_z, varQ_s, w_bin, w_neg, negQ_int, w_not, notQ_bl, w_band, andQ_bl, w_bor, orQ_bl, w_cmp, w_ite, w_tup, w_lst, w_lnew, w_idx, w_slc, w_evo_none, w_evo_some, intQ_int, w_call, w_blt, w_app, w_bitl, bitQ_int, wt_bitl, wi_bitl, wb_shl, w_nil, w_cons,
wt_con, wt_var, wt_bin, wt_neg, wt_cmp, wt_cmp2, wt_tup, wt_lst, wt_lnew, wt_idx, wt_slc, wt_call, wt_blt, wt_lc, wt_app, wi_con, wi_var, wi_bin, wi_neg, wi_cmp, wi_cmp2, wi_tup, wi_lst, wi_lnew, wi_idx, wi_slc, wi_call, wi_blt, wi_lc, wi_app, seqQ_tup, seqQ_lst, seqQ_frz, seqQ_loc, tt_not, tt_band, tt_bor, tt_ite, tstQ_bl, tstQ_non, tstQ_int, tstQ_lst, tstQ_tup, wi_rng, rngQ_int, wi_rng2, rng2Q_int, w_lc,
wF_lt, wF_le, wF_gt, wF_ge, wF_isN, wF_notN, wF_eq_int, wF_eq_bl, wF_eq_str, wF_eq_tup, wF_eq_lst, wF_eq_frz, wF_eq_non, wF_ne_int, wF_ne_bl, wF_ne_str, wF_ne_tup, wF_ne_lst, wF_ne_frz, wF_ne_non, wF_isIn_tup, wF_isIn_lst, wF_isIn_frz, wF_notIn_tup, wF_notIn_lst, wF_notIn_frz, wF_eq_ins, wF_eq_insT, wF_eq_insN, wF_eq_insI, wF_ne_ins, wF_bol_ins, blQ_bl, w_bol, wt_bol, wt_lc2, wi_lc2, wbF_int, wbF_lst, wbF_tup, wbF_str, wb_add, wb_sub, wb_mul, wb_fdiv, wb_mod, wb_pow, wb_ladd, wc_lt, wc_le, wc_gt, wc_ge, wc_eq_int, wc_ne_int, wc_eq_bl, wc_ne_bl, wc_isN_int, wc_isN_bl, wc_isN_non, wc_notN_int, wc_notN_tup, wc_notN_non, w_idxD, seq_lst, seq_tup, seq_frz, seq_0, seq_s, len_lst, len_tup, isLoc_int, isLoc_lst, isLoc_tup, ok_ite, mkQ_eq, tss_nil, tss_cons, bindT, bindTs, wipeE, List.zip_nil_left, List.zip_nil_right, List.zip_cons_cons, List.map_nil, List.map_cons, List.nil_append, List.cons_append, List.length_nil, List.length_cons, List.replicate_zero, List.replicate_succ, List.set_cons_zero, List.set_cons_succ, Nat.reduceAdd, Nat.reduceSub, Bool.false_eq_true, Bool.true_eq_false, if_true, if_false, ite_true, ite_false, idxQ_0, idxQ_1, idxQ_2, idxQ_3, idxQ_4, idxQ_5, idxQ_6, idxQ_7, idxQ_8, idxQ_9, idxQ_10, idxQ_11, putQ_0, putQ_1, putQ_2, putQ_3, putQ_4, putQ_5, pr])
  refine ⟨by rfl, ?_⟩
  rw [fin_plain rfl (Nat.le_refl _)]
  exact hQ
theorem SmP.sub {j k : Nat} {p q : Pr} (a : SmP j p) (b : SmP k q) : SmP (max j k + 1) (psub p q) := ⟨a.1.sub b.1, a.2.sub b.2⟩
theorem SmP.mono {j k : Nat} {p : Pr} (a : SmP j p) (e : j ≤ k) : SmP k p := ⟨a.1.mono e, a.2.mono e⟩
def fdCompare (s l : Nat) : Fd where
  npos := 3
  pdf := []
  kdf := []
  star := false
  fresh := false
  ns := 3
  body :=
   [.ret (.call s [.call l [.var 0, .var 1] [] [], .var 2] [] [])]
theorem compare_ok {s l : Nat} (hP : P i = some (fdCompare s l)) (hS : P s = some fdSign) (hL : P l = some fdMinus) {p q : Pr} {r : Int} (sp : SmP 1000 p) (sq : SmP 1000 q) (sr : Sm 1000 r) (hbd : bindD (fdCompare s l) us kws = some [pr p, pr q, .int r])
    (hQ : Q (.int (sgP r (psub p q))) h) : OkV XQ (callN P (k + 2) i us kws h) Q := by
  refine ok_call hP hbd ?_
  simp only [fdCompare]
  refine ok_one (ok_ret ?_)
  (try simp only [ok_ok, ok_bind, ok_os, oks_ok, after1_nx, after1_rt, after1_bk, after1_ct, w_con, w_var, varQ_z, varQ_s, w_bin, w_neg, negQ_int, w_not, notQ_bl, w_band, andQ_bl, w_bor, orQ_bl, w_cmp, w_ite, w_tup, w_lst, w_lnew, w_idx, w_slc, w_evo_none, w_evo_some, intQ_int, w_call, w_blt, w_app, w_bitl, bitQ_int, wt_bitl, wi_bitl, wb_shl, w_nil, w_cons,
wt_con, wt_var, wt_bin, wt_neg, wt_cmp, wt_cmp2, wt_tup, wt_lst, wt_lnew, wt_idx, wt_slc, wt_call, wt_blt, wt_lc, wt_app, wi_con, wi_var, wi_bin, wi_neg, wi_cmp, wi_cmp2, wi_tup, wi_lst, wi_lnew, wi_idx, wi_slc, wi_call, wi_blt, wi_lc, wi_app, seqQ_tup, seqQ_lst, seqQ_frz, seqQ_loc, tt_not, tt_band, tt_bor, tt_ite, tstQ_bl, tstQ_non, tstQ_int, tstQ_lst, tstQ_tup, wi_rng, rngQ_int, wi_rng2, rng2Q_int, w_lc,
wF_lt, wF_le, wF_gt, wF_ge, wF_isN, wF_notN, wF_eq_int, wF_eq_bl, wF_eq_str, wF_eq_tup, wF_eq_lst, wF_eq_frz, wF_eq_non, wF_ne_int, wF_ne_bl, wF_ne_str, wF_ne_tup, wF_ne_lst, wF_ne_frz, wF_ne_non, wF_isIn_tup, wF_isIn_lst, wF_isIn_frz, wF_notIn_tup, wF_notIn_lst, wF_notIn_frz, wF_eq_ins, wF_eq_insT, wF_eq_insN, wF_eq_insI, wF_ne_ins, wF_bol_ins, blQ_bl, w_bol, wt_bol, wt_lc2, wi_lc2, wbF_int, wbF_lst, wbF_tup, wbF_str, wb_add, wb_sub, wb_mul, wb_fdiv, wb_mod, wb_pow, wb_ladd, wc_lt, wc_le, wc_gt, wc_ge, wc_eq_int, wc_ne_int, wc_eq_bl, wc_ne_bl, wc_isN_int, wc_isN_bl, wc_isN_non, wc_notN_int, wc_notN_tup, wc_notN_non, w_idxD, seq_lst, seq_tup, seq_frz, seq_0, seq_s, len_lst, len_tup, isLoc_int, isLoc_lst, isLoc_tup, ok_ite, mkQ_eq, tss_nil, tss_cons, bindT, bindTs, wipeE, List.zip_nil_left, List.zip_nil_right, List.zip_cons_cons, List.map_nil, List.map_cons, List.nil_append, List.cons_append, List.length_nil, List.length_cons, List.replicate_zero, List.replicate_succ, List.set_cons_zero, List.set_cons_succ, Nat.reduceAdd, Nat.reduceSub, Bool.false_eq_true, Bool.true_eq_false, if_true, if_false, ite_true, ite_false, idxQ_0, idxQ_1, idxQ_2, idxQ_3, idxQ_4, idxQ_5, idxQ_6, idxQ_7, idxQ_8, idxQ_9, idxQ_10, idxQ_11, putQ_0, putQ_1, putQ_2, putQ_3, putQ_4, putQ_5])
  refine minus_ok (p := p) (q := q) hL rfl ?_
  (try simp only [ok_ok, ok_bind, ok_os, oks_ok, after1_nx, after1_rt, after1_bk, after1_ct, w_con, w_var, varQ_z, varQ_s, w_bin, w_neg, negQ_int, w_not, notQ_bl, w_band, andQ_bl, w_bor, orQ_bl, w_cmp, w_ite, w_tup, w_lst, w_lnew, w_idx, w_slc, w_evo_none, w_evo_some, intQ_int, w_call, w_blt, w_app, w_bitl, bitQ_int, wt_bitl, wi_bitl, wb_shl, w_nil, w_cons,
wt_con, wt_var, wt_bin, wt_neg, wt_cmp, wt_cmp2, wt_tup, wt_lst, wt_lnew, wt_idx, wt_slc, wt_call, wt_blt, wt_lc, wt_app, wi_con, wi_var, wi_bin, wi_neg, wi_cmp, wi_cmp2, wi_tup, wi_lst, wi_lnew, wi_idx, wi_slc, wi_call, wi_blt, wi_lc, wi_app, seqQ_tup, seqQ_lst, seqQ_frz, seqQ_loc, tt_not, tt_band, tt_bor, tt_ite, tstQ_bl, tstQ_non, tstQ_int, tstQ_lst, tstQ_tup, wi_rng, rngQ_int, wi_rng2, rng2Q_int, w_lc,
wF_lt, wF_le, wF_gt, wF_ge, wF_isN, wF_notN, wF_eq_int, wF_eq_bl, wF_eq_str, wF_eq_tup, wF_eq_lst, wF_eq_frz, wF_eq_non, wF_ne_int, wF_ne_bl, wF_ne_str, wF_ne_tup, wF_ne_lst, wF_ne_frz, wF_ne_non, wF_isIn_tup, wF_isIn_lst, wF_isIn_frz, wF_notIn_tup, wF_notIn_lst, wF_notIn_frz, wF_eq_ins, wF_eq_insT, wF_eq_insN, wF_eq_insI, wF_ne_ins, wF_bol_ins, blQ_bl, w_bol, wt_bol, wt_lc2, wi_lc2, wbF_int, wbF_lst, wbF_tup, wbF_str, wb_add, wb_sub, wb_mul, wb_fdiv, wb_mod, wb_pow, wb_ladd, wc_lt, wc_le, wc_gt, wc_ge, wc_eq_int, wc_ne_int, wc_eq_bl, wc_ne_bl, wc_isN_int, wc_isN_bl, wc_isN_non, wc_notN_int, wc_notN_tup, wc_notN_non, w_idxD, seq_lst, seq_tup, seq_frz, seq_0, seq_s, len_lst, len_tup, isLoc_int, isLoc_lst, isLoc_tup, ok_ite, mkQ_eq, tss_nil, tss_cons, bindT, bindTs, wipeE, List.zip_nil_left, List.zip_nil_right, List.zip_cons_cons, List.map_nil, List.map_cons, List.nil_append, List.cons_append, List.length_nil, List.length_cons, List.replicate_zero, List.replicate_succ, List.set_cons_zero, List.set_cons_succ, Nat.reduceAdd, Nat.reduceSub, Bool.false_eq_true, Bool.true_eq_false, if_true, if_false, ite_true, ite_false, idxQ_0, idxQ_1, idxQ_2, idxQ_3, idxQ_4, idxQ_5, idxQ_6, idxQ_7, idxQ_8, idxQ_9, idxQ_10, idxQ_11, putQ_0, putQ_1, putQ_2, putQ_3, putQ_4, putQ_5])
  refine sign_ok (q := psub p q) (r := r) hS ((sp.sub sq).mono (by decide)) (sr.mono (by decide)) rfl ?_
  rw [fin_plain rfl (Nat.le_refl _)]
  exact hQ
def fdIsLength (s : Nat) : Fd where
  npos := 2
  pdf := []
  kdf := []
  star := false
  fresh := false
  ns := 2
  body :=
   [.ret (.cmp .gt (.call s [.var 0, .var 1] [] []) (.con (.int 0)))]
theorem islength_ok {s : Nat} (hP : P i = some (fdIsLength s)) (hS : P s = some fdSign) {q : Pr} {r : Int} (sq : SmP 20000 q) (sr : Sm 20000 r) (hbd : bindD (fdIsLength s) us kws = some [pr q, .int r])
    (hQ : Q (.bl (decide (0 < sgP r q))) h) : OkV XQ (callN P (k + 2) i us kws h) Q := by
  refine ok_call hP hbd ?_
  simp only [fdIsLength]
  refine ok_one (ok_ret ?_)
  (try simp only [ok_ok, ok_bind, ok_os, oks_ok, after1_nx, after1_rt, after1_bk, after1_ct, w_con, w_var, varQ_z, varQ_s, w_bin, w_neg, negQ_int, w_not, notQ_bl, w_band, andQ_bl, w_bor, orQ_bl, w_cmp, w_ite, w_tup, w_lst, w_lnew, w_idx, w_slc, w_evo_none, w_evo_some, intQ_int, w_call, w_blt, w_app, w_bitl, bitQ_int, wt_bitl, wi_bitl, wb_shl, w_nil, w_cons,
wt_con, wt_var, wt_bin, wt_neg, wt_cmp, wt_cmp2, wt_tup, wt_lst, wt_lnew, wt_idx, wt_slc, wt_call, wt_blt, wt_lc, wt_app, wi_con, wi_var, wi_bin, wi_neg, wi_cmp, wi_cmp2, wi_tup, wi_lst, wi_lnew, wi_idx, wi_slc, wi_call, wi_blt, wi_lc, wi_app, seqQ_tup, seqQ_lst, seqQ_frz, seqQ_loc, tt_not, tt_band, tt_bor, tt_ite, tstQ_bl, tstQ_non, tstQ_int, tstQ_lst, tstQ_tup, wi_rng, rngQ_int, wi_rng2, rng2Q_int, w_lc,
wF_lt, wF_le, wF_gt, wF_ge, wF_isN, wF_notN, wF_eq_int, wF_eq_bl, wF_eq_str, wF_eq_tup, wF_eq_lst, wF_eq_frz, wF_eq_non, wF_ne_int, wF_ne_bl, wF_ne_str, wF_ne_tup, wF_ne_lst, wF_ne_frz, wF_ne_non, wF_isIn_tup, wF_isIn_lst, wF_isIn_frz, wF_notIn_tup, wF_notIn_lst, wF_notIn_frz, wF_eq_ins, wF_eq_insT, wF_eq_insN, wF_eq_insI, wF_ne_ins, wF_bol_ins, blQ_bl, w_bol, wt_bol, wt_lc2, wi_lc2, wbF_int, wbF_lst, wbF_tup, wbF_str, wb_add, wb_sub, wb_mul, wb_fdiv, wb_mod, wb_pow, wb_ladd, wc_lt, wc_le, wc_gt, wc_ge, wc_eq_int, wc_ne_int, wc_eq_bl, wc_ne_bl, wc_isN_int, wc_isN_bl, wc_isN_non, wc_notN_int, wc_notN_tup, wc_notN_non, w_idxD, seq_lst, seq_tup, seq_frz, seq_0, seq_s, len_lst, len_tup, isLoc_int, isLoc_lst, isLoc_tup, ok_ite, mkQ_eq, tss_nil, tss_cons, bindT, bindTs, wipeE, List.zip_nil_left, List.zip_nil_right, List.zip_cons_cons, List.map_nil, List.map_cons, List.nil_append, List.cons_append, List.length_nil, List.length_cons, List.replicate_zero, List.replicate_succ, List.set_cons_zero, List.set_cons_succ, Nat.reduceAdd, Nat.reduceSub, Bool.false_eq_true, Bool.true_eq_false, if_true, if_false, ite_true, ite_false, idxQ_0, idxQ_1, idxQ_2, idxQ_3, idxQ_4, idxQ_5, idxQ_6, idxQ_7, idxQ_8, idxQ_9, idxQ_10, idxQ_11, putQ_0, putQ_1, putQ_2, putQ_3, putQ_4, putQ_5])
  refine sign_ok (q := q) (r := r) hS sq sr rfl ?_
  (try simp only [ok_ok, ok_bind, ok_os, oks_ok, after1_nx, after1_rt, after1_bk, after1_ct, w_con, w_var, varQ_z, varQ_s, w_bin, w_neg, negQ_int, w_not, notQ_bl, w_band, andQ_bl, w_bor, orQ_bl, w_cmp, w_ite, w_tup, w_lst, w_lnew, w_idx, w_slc, w_evo_none, w_evo_some, intQ_int, w_call, w_blt, w_app, w_bitl, bitQ_int, wt_bitl, wi_bitl, wb_shl, w_nil, w_cons,
wt_con, wt_var, wt_bin, wt_neg, wt_cmp, wt_cmp2, wt_tup, wt_lst, wt_lnew, wt_idx, wt_slc, wt_call, wt_blt, wt_lc, wt_app, wi_con, wi_var, wi_bin, wi_neg, wi_cmp, wi_cmp2, wi_tup, wi_lst, wi_lnew, wi_idx, wi_slc, wi_call, wi_blt, wi_lc, wi_app, seqQ_tup, seqQ_lst, seqQ_frz, seqQ_loc, tt_not, tt_band, tt_bor, tt_ite, tstQ_bl, tstQ_non, tstQ_int, tstQ_lst, tstQ_tup, wi_rng, rngQ_int, wi_rng2, rng2Q_int, w_lc,
wF_lt, wF_le, wF_gt, wF_ge, wF_isN, wF_notN, wF_eq_int, wF_eq_bl, wF_eq_str, wF_eq_tup, wF_eq_lst, wF_eq_frz, wF_eq_non, wF_ne_int, wF_ne_bl, wF_ne_str, wF_ne_tup, wF_ne_lst, wF_ne_frz, wF_ne_non, wF_isIn_tup, wF_isIn_lst, wF_isIn_frz, wF_notIn_tup, wF_notIn_lst, wF_notIn_frz, wF_eq_ins, wF_eq_insT, wF_eq_insN, wF_eq_insI, wF_ne_ins, wF_bol_ins, blQ_bl, w_bol, wt_bol, wt_lc2, wi_lc2, wbF_int, wbF_lst, wbF_tup, wbF_str, wb_add, wb_sub, wb_mul, wb_fdiv, wb_mod, wb_pow, wb_ladd, wc_lt, wc_le, wc_gt, wc_ge, wc_eq_int, wc_ne_int, wc_eq_bl, wc_ne_bl, wc_isN_int, wc_isN_bl, wc_isN_non, wc_notN_int, wc_notN_tup, wc_notN_non, w_idxD, seq_lst, seq_tup, seq_frz, seq_0, seq_s, len_lst, len_tup, isLoc_int, isLoc_lst, isLoc_tup, ok_ite, mkQ_eq, tss_nil, tss_cons, bindT, bindTs, wipeE, List.zip_nil_left, List.zip_nil_right, List.zip_cons_cons, List.map_nil, List.map_cons, List.nil_append, List.cons_append, List.length_nil, List.length_cons, List.replicate_zero, List.replicate_succ, List.set_cons_zero, List.set_cons_succ, Nat.reduceAdd, Nat.reduceSub, Bool.false_eq_true, Bool.true_eq_false, if_true, if_false, ite_true, ite_false, idxQ_0, idxQ_1, idxQ_2, idxQ_3, idxQ_4, idxQ_5, idxQ_6, idxQ_7, idxQ_8, idxQ_9, idxQ_10, idxQ_11, putQ_0, putQ_1, putQ_2, putQ_3, putQ_4, putQ_5])
  rw [fin_plain rfl (Nat.le_refl _)]
  exact hQ
def fdLSign : Fd where
  npos := 2
  pdf := []
  kdf := []
  star := false
  fresh := false
  ns := 3
  body :=
   [.asg (.nm 2) (.bin .add (.bin .mul (.idx (.var 0) (.con (.int 0))) (.blt .abs_ [.idx (.var 0) (.con (.int 0))])) (.bin .mul (.bin .mul (.var 1) (.idx (.var 0) (.con (.int 1)))) (.blt .abs_ [.idx (.var 0) (.con (.int 1))]))),
    .ret (.bin .sub (.blt .int_ [.cmp .gt (.var 2) (.con (.int 0))]) (.blt .int_ [.cmp .lt (.var 2) (.con (.int 0))]))]
theorem lsign_ok (hP : P i = some fdLSign) {q : Pr} {r : Int} (sq : SmP 20000 q) (sr : Sm 20000 r) (hbd : bindD fdLSign us kws = some [pr q, .int r]) (hQ : Q (.int (sgn (valP r q))) h) : OkV XQ (callN P (k + 1) i us kws h) Q := by
  obtain ⟨a, b⟩ := q
  obtain ⟨sa, sb⟩ := sq
  dsimp only at sa sb
  refine ok_call hP hbd ?_
  simp only [fdLSign]
  refine ok_cons (ok_asg ?_)
  (try simp only [ok_ok, ok_bind, ok_os, oks_ok, after1_nx, after1_rt, after1_bk, after1_ct, w_con, w_var, varQ_z, varQ_s, w_bin, w_neg, negQ_int, w_not, notQ_bl, w_band, andQ_bl, w_bor, orQ_bl, w_cmp, w_ite, w_tup, w_lst, w_lnew, w_idx, w_slc, w_evo_none, w_evo_some, intQ_int, w_call, w_blt, w_app, w_bitl, bitQ_int, wt_bitl, wi_bitl, wb_shl, w_nil, w_cons,
wt_con, wt_var, wt_bin, wt_neg, wt_cmp, wt_cmp2, wt_tup, wt_lst, wt_lnew, wt_idx, wt_slc, wt_call, wt_blt, wt_lc, wt_app, wi_con, wi_var, wi_bin, wi_neg, wi_cmp, wi_cmp2, wi_tup, wi_lst, wi_lnew, wi_idx, wi_slc, wi_call, wi_blt, wi_lc, wi_app, seqQ_tup, seqQ_lst, seqQ_frz, seqQ_loc, tt_not, tt_band, tt_bor, tt_ite, tstQ_bl, tstQ_non, tstQ_int, tstQ_lst, tstQ_tup, wi_rng, rngQ_int, wi_rng2, rng2Q_int, w_lc,
wF_lt, wF_le, wF_gt, wF_ge, wF_isN, wF_notN, wF_eq_int, wF_eq_bl, wF_eq_str, wF_eq_tup, wF_eq_lst, wF_eq_frz, wF_eq_non, wF_ne_int, wF_ne_bl, wF_ne_str, wF_ne_tup, wF_ne_lst, wF_ne_frz, wF_ne_non, wF_isIn_tup, wF_isIn_lst, wF_isIn_frz, wF_notIn_tup, wF_notIn_lst, wF_notIn_frz, wF_eq_ins, wF_eq_insT, wF_eq_insN, wF_eq_insI, wF_ne_ins, wF_bol_ins, blQ_bl, w_bol, wt_bol, wt_lc2, wi_lc2, wbF_int, wbF_lst, wbF_tup, wbF_str, wb_add, wb_sub, wb_mul, wb_fdiv, wb_mod, wb_pow, wb_ladd, wc_lt, wc_le, wc_gt, wc_ge, wc_eq_int, wc_ne_int, wc_eq_bl, wc_ne_bl, wc_isN_int, wc_isN_bl, wc_isN_non, wc_notN_int, wc_notN_tup, wc_notN_non, w_idxD, seq_lst, seq_tup, seq_frz, seq_0, seq_s, len_lst, len_tup, isLoc_int, isLoc_lst, isLoc_tup, ok_ite, mkQ_eq, tss_nil, tss_cons, bindT, bindTs, wipeE, List.zip_nil_left, List.zip_nil_right, List.zip_cons_cons, List.map_nil, List.map_cons, List.nil_append, List.cons_append, List.length_nil, List.length_cons, List.replicate_zero, List.replicate_succ, List.set_cons_zero, List.set_cons_succ, Nat.reduceAdd, Nat.reduceSub, Bool.false_eq_true, Bool.true_eq_false, if_true, if_false, ite_true, ite_false, idxQ_0, idxQ_1, idxQ_2, idxQ_3, idxQ_4, idxQ_5, idxQ_6, idxQ_7, idxQ_8, idxQ_9, idxQ_10, idxQ_11, putQ_0, putQ_1, putQ_2, putQ_3, putQ_4, putQ_5, pr, abs_int])
  refine ⟨sa.big (sm_abs sa) (by decide) (by decide), sr.big sb (by decide) (by decide), (sr.mul sb).big (sm_abs sb) (by decide) (by decide), ?_⟩
  refine ok_one (ok_ret ?_)
  (try simp only [ok_ok, ok_bind, ok_os, oks_ok, after1_nx, after1_rt, after1_bk, after1_ct, w_con, w_var, varQ_z, varQ_s, w_bin, w_neg, negQ_int, w_not, notQ_bl, w_band, andQ_bl, w_bor, orQ_bl, w_cmp, w_ite, w_tup, w_lst, w_lnew, w_idx, w_slc, w_evo_none, w_evo_some, intQ_int, w_call, w_blt, w_app, w_bitl, bitQ_int, wt_bitl, wi_bitl, wb_shl, w_nil, w_cons,
wt_con, wt_var, wt_bin, wt_neg, wt_cmp, wt_cmp2, wt_tup, wt_lst, wt_lnew, wt_idx, wt_slc, wt_call, wt_blt, wt_lc, wt_app, wi_con, wi_var, wi_bin, wi_neg, wi_cmp, wi_cmp2, wi_tup, wi_lst, wi_lnew, wi_idx, wi_slc, wi_call, wi_blt, wi_lc, wi_app, seqQ_tup, seqQ_lst, seqQ_frz, seqQ_loc, tt_not, tt_band, tt_bor, tt_ite, tstQ_bl, tstQ_non, tstQ_int, tstQ_lst, tstQ_tup, wi_rng, rngQ_int, wi_rng2, rng2Q_int, w_lc,
wF_lt, wF_le, wF_gt, wF_ge, wF_isN, wF_notN, wF_eq_int, wF_eq_bl, wF_eq_str, wF_eq_tup, wF_eq_lst, wF_eq_frz, wF_eq_non, wF_ne_int, wF_ne_bl, wF_ne_str, wF_ne_tup, wF_ne_lst, wF_ne_frz, wF_ne_non, wF_isIn_tup, wF_isIn_lst, wF_isIn_frz, wF_notIn_tup, wF_notIn_lst, wF_notIn_frz, wF_eq_ins, wF_eq_insT, wF_eq_insN, wF_eq_insI, wF_ne_ins, wF_bol_ins, blQ_bl, w_bol, wt_bol, wt_lc2, wi_lc2, wbF_int, wbF_lst, wbF_tup, wbF_str, wb_add, wb_sub, wb_mul, wb_fdiv, wb_mod, wb_pow, wb_ladd, wc_lt, wc_le, wc_gt, wc_ge, wc_eq_int, wc_ne_int, wc_eq_bl, wc_ne_bl, wc_isN_int, wc_isN_bl, wc_isN_non, wc_notN_int, wc_notN_tup, wc_notN_non, w_idxD, seq_lst, seq_tup, seq_frz, seq_0, seq_s, len_lst, len_tup, isLoc_int, isLoc_lst, isLoc_tup, ok_ite, mkQ_eq, tss_nil, tss_cons, bindT, bindTs, wipeE, List.zip_nil_left, List.zip_nil_right, List.zip_cons_cons, List.map_nil, List.map_cons, List.nil_append, List.cons_append, List.length_nil, List.length_cons, List.replicate_zero, List.replicate_succ, List.set_cons_zero, List.set_cons_succ, Nat.reduceAdd, Nat.reduceSub, Bool.false_eq_true, Bool.true_eq_false, if_true, if_false, ite_true, ite_false, idxQ_0, idxQ_1, idxQ_2, idxQ_3, idxQ_4, idxQ_5, idxQ_6, idxQ_7, idxQ_8, idxQ_9, idxQ_10, idxQ_11, putQ_0, putQ_1, putQ_2, putQ_3, putQ_4, putQ_5, int_bl])
  rw [fin_plain rfl (Nat.le_refl _)]
  have e : ∀ v : Int, ((if decide (0 < v) = true then 1 else 0) - if decide (v < 0) = true then 1 else 0 : Int) = sgn v := fun v => by
    unfold sgn
    by_cases h1 : 0 < v
    · have : ¬ v < 0 := by omega
      simp [h1, this]
    · by_cases h2 : v < 0 <;> simp [h1, h2]
  rw [e]
  exact hQ
end
end GY

namespace GY
open PySem PySem.Spec PyProof.Rows L2
variable {XQ : D → Hs → Prop}
section
variable {P : Nat → Option Fd} {i j m n N k : Nat} {h : Hs} {ob : Ob} {Q : D → Hs → Prop} {us : List D} {kws : List (Nat × D)}
def fdAdded : Fd where
  npos := 0
  pdf := []
  kdf := []
  star := true
  fresh := false
  ns := 2
  body :=
   [.ret (.tup [.blt .sum [.lc [1] (.nm 1) (.var 0) [] (.idx (.var 1) (.con (.int 0)))], .blt .sum [.lc [1] (.nm 1) (.var 0) [] (.idx (.var 1) (.con (.int 1)))]])]
theorem added_ok (hP : P i = some fdAdded) (qs : List Pr) (hz : qs.length ≤ 1000) (hQ : Q (.tup [.int (qs.map (·.1)).sum, .int (qs.map (·.2)).sum]) h) : OkV XQ (callN P (k + 1) i (qs.map pr) [] h) Q := by
  refine ok_call (fd := fdAdded) (ds := [.tup (qs.map pr)]) hP ?_ ?_
  · show (if (noLoc ((qs.map pr).drop 0) && decide (((qs.map pr).drop 0).length ≤ sizeLine)) = true then some ([] ++ [D.tup ((qs.map pr).drop 0)]) else none) = _
    rw [if_pos]
    · rfl
    · rw [List.drop_zero, noLoc_prs, List.length_map]
      exact decide_eq_true (by show qs.length ≤ 2 ^ 24; omega)
  · simp only [fdAdded]
    refine ok_one (ok_ret ?_)
    simp only [ok_ok, ok_bind, ok_os, oks_ok, after1_nx, after1_rt, after1_bk, after1_ct, w_con, w_var, varQ_z, varQ_s, w_bin, w_neg, negQ_int, w_not, notQ_bl, w_band, andQ_bl, w_bor, orQ_bl, w_cmp, w_ite, w_tup, w_lst, w_lnew, w_idx, w_slc, w_evo_none, w_evo_some, intQ_int, w_call, w_blt, w_app, w_bitl, bitQ_int, wt_bitl, wi_bitl, wb_shl, w_nil, w_cons,
wt_con, wt_var, wt_bin, wt_neg, wt_cmp, wt_cmp2, wt_tup, wt_lst, wt_lnew, wt_idx, wt_slc, wt_call, wt_blt, wt_lc, wt_app, wi_con, wi_var, wi_bin, wi_neg, wi_cmp, wi_cmp2, wi_tup, wi_lst, wi_lnew, wi_idx, wi_slc, wi_call, wi_blt, wi_lc, wi_app, seqQ_tup, seqQ_lst, seqQ_frz, seqQ_loc, tt_not, tt_band, tt_bor, tt_ite, tstQ_bl, tstQ_non, tstQ_int, tstQ_lst, tstQ_tup, wi_rng, rngQ_int, wi_rng2, rng2Q_int, w_lc,
wF_lt, wF_le, wF_gt, wF_ge, wF_isN, wF_notN, wF_eq_int, wF_eq_bl, wF_eq_str, wF_eq_tup, wF_eq_lst, wF_eq_frz, wF_eq_non, wF_ne_int, wF_ne_bl, wF_ne_str, wF_ne_tup, wF_ne_lst, wF_ne_frz, wF_ne_non, wF_isIn_tup, wF_isIn_lst, wF_isIn_frz, wF_notIn_tup, wF_notIn_lst, wF_notIn_frz, wF_eq_ins, wF_eq_insT, wF_eq_insN, wF_eq_insI, wF_ne_ins, wF_bol_ins, blQ_bl, w_bol, wt_bol, wt_lc2, wi_lc2, wbF_int, wbF_lst, wbF_tup, wbF_str, wb_add, wb_sub, wb_mul, wb_fdiv, wb_mod, wb_pow, wb_ladd, wc_lt, wc_le, wc_gt, wc_ge, wc_eq_int, wc_ne_int, wc_eq_bl, wc_ne_bl, wc_isN_int, wc_isN_bl, wc_isN_non, wc_notN_int, wc_notN_tup, wc_notN_non, w_idxD, seq_lst, seq_tup, seq_frz, seq_0, seq_s, len_lst, len_tup, isLoc_int, isLoc_lst, isLoc_tup, ok_ite, mkQ_eq, tss_nil, tss_cons, bindT, bindTs, wipeE, List.zip_nil_left, List.zip_nil_right, List.zip_cons_cons, List.map_nil, List.map_cons, List.nil_append, List.cons_append, List.length_nil, List.length_cons, List.replicate_zero, List.replicate_succ, List.set_cons_zero, List.set_cons_succ, Nat.reduceAdd, Nat.reduceSub, Bool.false_eq_true, Bool.true_eq_false, if_true, if_false, ite_true, ite_false, idxQ_0, idxQ_1, idxQ_2, idxQ_3, idxQ_4, idxQ_5, idxQ_6, idxQ_7, idxQ_8, idxQ_9, idxQ_10, idxQ_11, putQ_0, putQ_1, putQ_2, putQ_3, putQ_4, putQ_5]
    have hm : ∀ d ∈ qs.map pr, ∃ q, d = pr q := fun d m => by obtain ⟨q, _, rfl⟩ := List.mem_map.mp m; exact ⟨q, rfl⟩
    refine ok_map (fun d => match d with | .tup [x, y] => x | d => d) trivial (fun d m => ?_) (fun d m => ?_) (by simp; show qs.length ≤ 2 ^ 24; omega) ?_
    · obtain ⟨q, rfl⟩ := hm d m
      simp only [ok_ok, ok_bind, ok_os, oks_ok, after1_nx, after1_rt, after1_bk, after1_ct, w_con, w_var, varQ_z, varQ_s, w_bin, w_neg, negQ_int, w_not, notQ_bl, w_band, andQ_bl, w_bor, orQ_bl, w_cmp, w_ite, w_tup, w_lst, w_lnew, w_idx, w_slc, w_evo_none, w_evo_some, intQ_int, w_call, w_blt, w_app, w_bitl, bitQ_int, wt_bitl, wi_bitl, wb_shl, w_nil, w_cons,
wt_con, wt_var, wt_bin, wt_neg, wt_cmp, wt_cmp2, wt_tup, wt_lst, wt_lnew, wt_idx, wt_slc, wt_call, wt_blt, wt_lc, wt_app, wi_con, wi_var, wi_bin, wi_neg, wi_cmp, wi_cmp2, wi_tup, wi_lst, wi_lnew, wi_idx, wi_slc, wi_call, wi_blt, wi_lc, wi_app, seqQ_tup, seqQ_lst, seqQ_frz, seqQ_loc, tt_not, tt_band, tt_bor, tt_ite, tstQ_bl, tstQ_non, tstQ_int, tstQ_lst, tstQ_tup, wi_rng, rngQ_int, wi_rng2, rng2Q_int, w_lc,
wF_lt, wF_le, wF_gt, wF_ge, wF_isN, wF_notN, wF_eq_int, wF_eq_bl, wF_eq_str, wF_eq_tup, wF_eq_lst, wF_eq_frz, wF_eq_non, wF_ne_int, wF_ne_bl, wF_ne_str, wF_ne_tup, wF_ne_lst, wF_ne_frz, wF_ne_non, wF_isIn_tup, wF_isIn_lst, wF_isIn_frz, wF_notIn_tup, wF_notIn_lst, wF_notIn_frz, wF_eq_ins, wF_eq_insT, wF_eq_insN, wF_eq_insI, wF_ne_ins, wF_bol_ins, blQ_bl, w_bol, wt_bol, wt_lc2, wi_lc2, wbF_int, wbF_lst, wbF_tup, wbF_str, wb_add, wb_sub, wb_mul, wb_fdiv, wb_mod, wb_pow, wb_ladd, wc_lt, wc_le, wc_gt, wc_ge, wc_eq_int, wc_ne_int, wc_eq_bl, wc_ne_bl, wc_isN_int, wc_isN_bl, wc_isN_non, wc_notN_int, wc_notN_tup, wc_notN_non, w_idxD, seq_lst, seq_tup, seq_frz, seq_0, seq_s, len_lst, len_tup, isLoc_int, isLoc_lst, isLoc_tup, ok_ite, mkQ_eq, tss_nil, tss_cons, bindT, bindTs, wipeE, List.zip_nil_left, List.zip_nil_right, List.zip_cons_cons, List.map_nil, List.map_cons, List.nil_append, List.cons_append, List.length_nil, List.length_cons, List.replicate_zero, List.replicate_succ, List.set_cons_zero, List.set_cons_succ, Nat.reduceAdd, Nat.reduceSub, Bool.false_eq_true, Bool.true_eq_false, if_true, if_false, ite_true, ite_false, idxQ_0, idxQ_1, idxQ_2, idxQ_3, idxQ_4, idxQ_5, idxQ_6, idxQ_7, idxQ_8, idxQ_9, idxQ_10, idxQ_11, putQ_0, putQ_1, putQ_2, putQ_3, putQ_4, putQ_5, pr, and_self]
    · obtain ⟨q, rfl⟩ := hm d m
      rfl
    · have e : [] ++ (qs.map pr).map (fun d => match d with | .tup [x, y] => x | d => d) = (qs.map (·.1)).map .int := by simp [pr, Function.comp_def]
      rw [e, sum_ints]
      refine ok_map (fun d => match d with | .tup [x, y] => y | d => d) trivial (fun d m => ?_) (fun d m => ?_) (by simp; show qs.length ≤ 2 ^ 24; omega) ?_
      · obtain ⟨q, rfl⟩ := hm d m
        simp only [ok_ok, ok_bind, ok_os, oks_ok, after1_nx, after1_rt, after1_bk, after1_ct, w_con, w_var, varQ_z, varQ_s, w_bin, w_neg, negQ_int, w_not, notQ_bl, w_band, andQ_bl, w_bor, orQ_bl, w_cmp, w_ite, w_tup, w_lst, w_lnew, w_idx, w_slc, w_evo_none, w_evo_some, intQ_int, w_call, w_blt, w_app, w_bitl, bitQ_int, wt_bitl, wi_bitl, wb_shl, w_nil, w_cons,
wt_con, wt_var, wt_bin, wt_neg, wt_cmp, wt_cmp2, wt_tup, wt_lst, wt_lnew, wt_idx, wt_slc, wt_call, wt_blt, wt_lc, wt_app, wi_con, wi_var, wi_bin, wi_neg, wi_cmp, wi_cmp2, wi_tup, wi_lst, wi_lnew, wi_idx, wi_slc, wi_call, wi_blt, wi_lc, wi_app, seqQ_tup, seqQ_lst, seqQ_frz, seqQ_loc, tt_not, tt_band, tt_bor, tt_ite, tstQ_bl, tstQ_non, tstQ_int, tstQ_lst, tstQ_tup, wi_rng, rngQ_int, wi_rng2, rng2Q_int, w_lc,
wF_lt, wF_le, wF_gt, wF_ge, wF_isN, wF_notN, wF_eq_int, wF_eq_bl, wF_eq_str, wF_eq_tup, wF_eq_lst, wF_eq_frz, wF_eq_non, wF_ne_int, wF_ne_bl, wF_ne_str, wF_ne_tup, wF_ne_lst, wF_ne_frz, wF_ne_non, wF_isIn_tup, wF_isIn_lst, wF_isIn_frz, wF_notIn_tup, wF_notIn_lst, wF_notIn_frz, wF_eq_ins, wF_eq_insT, wF_eq_insN, wF_eq_insI, wF_ne_ins, wF_bol_ins, blQ_bl, w_bol, wt_bol, wt_lc2, wi_lc2, wbF_int, wbF_lst, wbF_tup, wbF_str, wb_add, wb_sub, wb_mul, wb_fdiv, wb_mod, wb_pow, wb_ladd, wc_lt, wc_le, wc_gt, wc_ge, wc_eq_int, wc_ne_int, wc_eq_bl, wc_ne_bl, wc_isN_int, wc_isN_bl, wc_isN_non, wc_notN_int, wc_notN_tup, wc_notN_non, w_idxD, seq_lst, seq_tup, seq_frz, seq_0, seq_s, len_lst, len_tup, isLoc_int, isLoc_lst, isLoc_tup, ok_ite, mkQ_eq, tss_nil, tss_cons, bindT, bindTs, wipeE, List.zip_nil_left, List.zip_nil_right, List.zip_cons_cons, List.map_nil, List.map_cons, List.nil_append, List.cons_append, List.length_nil, List.length_cons, List.replicate_zero, List.replicate_succ, List.set_cons_zero, List.set_cons_succ, Nat.reduceAdd, Nat.reduceSub, Bool.false_eq_true, Bool.true_eq_false, if_true, if_false, ite_true, ite_false, idxQ_0, idxQ_1, idxQ_2, idxQ_3, idxQ_4, idxQ_5, idxQ_6, idxQ_7, idxQ_8, idxQ_9, idxQ_10, idxQ_11, putQ_0, putQ_1, putQ_2, putQ_3, putQ_4, putQ_5, pr, and_self]
      · obtain ⟨q, rfl⟩ := hm d m
        rfl
      · have e : [] ++ (qs.map pr).map (fun d => match d with | .tup [x, y] => y | d => d) = (qs.map (·.2)).map .int := by simp [pr, Function.comp_def]
        rw [e, sum_ints]
        refine ⟨by rfl, ?_⟩
        rw [fin_plain rfl (Nat.le_refl _)]
        exact hQ
def padd (p q : Pr) : Pr := (p.1 + q.1, p.2 + q.2)
def pmul (r : Int) (x y : Pr) : Pr := (x.1 * y.1 + r * x.2 * y.2, x.1 * y.2 + x.2 * y.1)
def pneg (x : Pr) : Pr := (-x.1, -x.2)
theorem added2_ok (hP : P i = some fdAdded) (p q : Pr) (hQ : Q (pr (padd p q)) h) : OkV XQ (callN P (k + 1) i [pr p, pr q] [] h) Q := by
  refine added_ok hP [p, q] (by simp) ?_
  have e : (D.tup [.int ([p, q].map (·.1)).sum, .int ([p, q].map (·.2)).sum]) = pr (padd p q) := by simp [pr, padd]
  rw [e]
  exact hQ
def fdScaled : Fd where
  npos := 2
  pdf := []
  kdf := []
  star := false
  fresh := false
  ns := 2
  body :=
   [.ret (.tup [.bin .mul (.idx (.var 0) (.con (.int 0))) (.var 1), .bin .mul (.idx (.var 0) (.con (.int 1))) (.var 1)])]
theorem scaled_ok (hP : P i = some fdScaled) {q : Pr} {c : Int} (hq : SmP 1000 q) (hc : Sm 1000 c) (hbd : bindD fdScaled us kws = some [pr q, .int c]) (hQ : Q (pr (q.1 * c, q.2 * c)) h) : OkV XQ (callN P (k + 1) i us kws h) Q := by
  refine ok_call hP hbd ?_
  simp only [fdScaled]
  refine ok_one (ok_ret ?_)
  simp only [ok_ok, ok_bind, ok_os, oks_ok, after1_nx, after1_rt, after1_bk, after1_ct, w_con, w_var, varQ_z, varQ_s, w_bin, w_neg, negQ_int, w_not, notQ_bl, w_band, andQ_bl, w_bor, orQ_bl, w_cmp, w_ite, w_tup, w_lst, w_lnew, w_idx, w_slc, w_evo_none, w_evo_some, intQ_int, w_call, w_blt, w_app, w_bitl, bitQ_int, wt_bitl, wi_bitl, wb_shl, w_nil, w_cons,
wt_con, wt_var, wt_bin, wt_neg, wt_cmp, wt_cmp2, wt_tup, wt_lst, wt_lnew, wt_idx, wt_slc, wt_call, wt_blt, wt_lc, wt_app, wi_con, wi_var, wi_bin, wi_neg, wi_cmp, wi_cmp2, wi_tup, wi_lst, wi_lnew, wi_idx, wi_slc, wi_call, wi_blt, wi_lc, wi_app, seqQ_tup, seqQ_lst, seqQ_frz, seqQ_loc, tt_not, tt_band, tt_bor, tt_ite, tstQ_bl, tstQ_non, tstQ_int, tstQ_lst, tstQ_tup, wi_rng, rngQ_int, wi_rng2, rng2Q_int, w_lc,
wF_lt, wF_le, wF_gt, wF_ge, wF_isN, wF_notN, wF_eq_int, wF_eq_bl, wF_eq_str, wF_eq_tup, wF_eq_lst, wF_eq_frz, wF_eq_non, wF_ne_int, wF_ne_bl, wF_ne_str, wF_ne_tup, wF_ne_lst, wF_ne_frz, wF_ne_non, wF_isIn_tup, wF_isIn_lst, wF_isIn_frz, wF_notIn_tup, wF_notIn_lst, wF_notIn_frz, wF_eq_ins, wF_eq_insT, wF_eq_insN, wF_eq_insI, wF_ne_ins, wF_bol_ins, blQ_bl, w_bol, wt_bol, wt_lc2, wi_lc2, wbF_int, wbF_lst, wbF_tup, wbF_str, wb_add, wb_sub, wb_mul, wb_fdiv, wb_mod, wb_pow, wb_ladd, wc_lt, wc_le, wc_gt, wc_ge, wc_eq_int, wc_ne_int, wc_eq_bl, wc_ne_bl, wc_isN_int, wc_isN_bl, wc_isN_non, wc_notN_int, wc_notN_tup, wc_notN_non, w_idxD, seq_lst, seq_tup, seq_frz, seq_0, seq_s, len_lst, len_tup, isLoc_int, isLoc_lst, isLoc_tup, ok_ite, mkQ_eq, tss_nil, tss_cons, bindT, bindTs, wipeE, List.zip_nil_left, List.zip_nil_right, List.zip_cons_cons, List.map_nil, List.map_cons, List.nil_append, List.cons_append, List.length_nil, List.length_cons, List.replicate_zero, List.replicate_succ, List.set_cons_zero, List.set_cons_succ, Nat.reduceAdd, Nat.reduceSub, Bool.false_eq_true, Bool.true_eq_false, if_true, if_false, ite_true, ite_false, idxQ_0, idxQ_1, idxQ_2, idxQ_3, idxQ_4, idxQ_5, idxQ_6, idxQ_7, idxQ_8, idxQ_9, idxQ_10, idxQ_11, putQ_0, putQ_1, putQ_2, putQ_3, putQ_4, putQ_5, pr]
  refine ⟨hq.1.big hc (by decide) (by decide), hq.2.big hc (by decide) (by decide), by rfl, ?_⟩
  rw [fin_plain rfl (Nat.le_refl _)]
  exact hQ
def fdProduct : Fd where
  npos := 3
  pdf := []
  kdf := []
  star := false
  fresh := false
  ns := 7
  body :=
   [.asg (.tp [.nm 3, .nm 4]) (.var 0),
    .asg (.tp [.nm 5, .nm 6]) (.var 1),
    .ret (.tup [.bin .add (.bin .mul (.var 3) (.var 5)) (.bin .mul (.bin .mul (.var 2) (.var 4)) (.var 6)), .bin .add (.bin .mul (.var 3) (.var 6)) (.bin .mul (.var 4) (.var 5))])]
theorem product_ok (hP : P i = some fdProduct) {p q : Pr} {r : Int} (hp : SmP 5000 p) (hq : SmP 5000 q) (hr : Sm 5000 r) (hbd : bindD fdProduct us kws = some [pr p, pr q, .int r])
    (hQ : Q (pr (pmul r p q)) h) : OkV XQ (callN P (k + 1) i us kws h) Q := by
  obtain ⟨a, b⟩ := p
  obtain ⟨c, e⟩ := q
  obtain ⟨ha, hb⟩ := hp
  obtain ⟨hc, he⟩ := hq
  dsimp only at ha hb hc he
  refine ok_call hP hbd ?_
  simp only [fdProduct]
  refine ok_cons (ok_asgT ?_)
  simp only [ok_ok, ok_bind, ok_os, oks_ok, after1_nx, after1_rt, after1_bk, after1_ct, w_con, w_var, varQ_z, varQ_s, w_bin, w_neg, negQ_int, w_not, notQ_bl, w_band, andQ_bl, w_bor, orQ_bl, w_cmp, w_ite, w_tup, w_lst, w_lnew, w_idx, w_slc, w_evo_none, w_evo_some, intQ_int, w_call, w_blt, w_app, w_bitl, bitQ_int, wt_bitl, wi_bitl, wb_shl, w_nil, w_cons,
wt_con, wt_var, wt_bin, wt_neg, wt_cmp, wt_cmp2, wt_tup, wt_lst, wt_lnew, wt_idx, wt_slc, wt_call, wt_blt, wt_lc, wt_app, wi_con, wi_var, wi_bin, wi_neg, wi_cmp, wi_cmp2, wi_tup, wi_lst, wi_lnew, wi_idx, wi_slc, wi_call, wi_blt, wi_lc, wi_app, seqQ_tup, seqQ_lst, seqQ_frz, seqQ_loc, tt_not, tt_band, tt_bor, tt_ite, tstQ_bl, tstQ_non, tstQ_int, tstQ_lst, tstQ_tup, wi_rng, rngQ_int, wi_rng2, rng2Q_int, w_lc,
wF_lt, wF_le, wF_gt, wF_ge, wF_isN, wF_notN, wF_eq_int, wF_eq_bl, wF_eq_str, wF_eq_tup, wF_eq_lst, wF_eq_frz, wF_eq_non, wF_ne_int, wF_ne_bl, wF_ne_str, wF_ne_tup, wF_ne_lst, wF_ne_frz, wF_ne_non, wF_isIn_tup, wF_isIn_lst, wF_isIn_frz, wF_notIn_tup, wF_notIn_lst, wF_notIn_frz, wF_eq_ins, wF_eq_insT, wF_eq_insN, wF_eq_insI, wF_ne_ins, wF_bol_ins, blQ_bl, w_bol, wt_bol, wt_lc2, wi_lc2, wbF_int, wbF_lst, wbF_tup, wbF_str, wb_add, wb_sub, wb_mul, wb_fdiv, wb_mod, wb_pow, wb_ladd, wc_lt, wc_le, wc_gt, wc_ge, wc_eq_int, wc_ne_int, wc_eq_bl, wc_ne_bl, wc_isN_int, wc_isN_bl, wc_isN_non, wc_notN_int, wc_notN_tup, wc_notN_non, w_idxD, seq_lst, seq_tup, seq_frz, seq_0, seq_s, len_lst, len_tup, isLoc_int, isLoc_lst, isLoc_tup, ok_ite, mkQ_eq, tss_nil, tss_cons, bindT, bindTs, wipeE, List.zip_nil_left, List.zip_nil_right, List.zip_cons_cons, List.map_nil, List.map_cons, List.nil_append, List.cons_append, List.length_nil, List.length_cons, List.replicate_zero, List.replicate_succ, List.set_cons_zero, List.set_cons_succ, Nat.reduceAdd, Nat.reduceSub, Bool.false_eq_true, Bool.true_eq_false, if_true, if_false, ite_true, ite_false, idxQ_0, idxQ_1, idxQ_2, idxQ_3, idxQ_4, idxQ_5, idxQ_6, idxQ_7, idxQ_8, idxQ_9, idxQ_10, idxQ_11, putQ_0, putQ_1, putQ_2, putQ_3, putQ_4, putQ_5, pr]
  refine ⟨_, rfl, ?_⟩
  refine ok_cons (ok_asgT ?_)
  simp only [ok_ok, ok_bind, ok_os, oks_ok, after1_nx, after1_rt, after1_bk, after1_ct, w_con, w_var, varQ_z, varQ_s, w_bin, w_neg, negQ_int, w_not, notQ_bl, w_band, andQ_bl, w_bor, orQ_bl, w_cmp, w_ite, w_tup, w_lst, w_lnew, w_idx, w_slc, w_evo_none, w_evo_some, intQ_int, w_call, w_blt, w_app, w_bitl, bitQ_int, wt_bitl, wi_bitl, wb_shl, w_nil, w_cons,
wt_con, wt_var, wt_bin, wt_neg, wt_cmp, wt_cmp2, wt_tup, wt_lst, wt_lnew, wt_idx, wt_slc, wt_call, wt_blt, wt_lc, wt_app, wi_con, wi_var, wi_bin, wi_neg, wi_cmp, wi_cmp2, wi_tup, wi_lst, wi_lnew, wi_idx, wi_slc, wi_call, wi_blt, wi_lc, wi_app, seqQ_tup, seqQ_lst, seqQ_frz, seqQ_loc, tt_not, tt_band, tt_bor, tt_ite, tstQ_bl, tstQ_non, tstQ_int, tstQ_lst, tstQ_tup, wi_rng, rngQ_int, wi_rng2, rng2Q_int, w_lc,
wF_lt, wF_le, wF_gt, wF_ge, wF_isN, wF_notN, wF_eq_int, wF_eq_bl, wF_eq_str, wF_eq_tup, wF_eq_lst, wF_eq_frz, wF_eq_non, wF_ne_int, wF_ne_bl, wF_ne_str, wF_ne_tup, wF_ne_lst, wF_ne_frz, wF_ne_non, wF_isIn_tup, wF_isIn_lst, wF_isIn_frz, wF_notIn_tup, wF_notIn_lst, wF_notIn_frz, wF_eq_ins, wF_eq_insT, wF_eq_insN, wF_eq_insI, wF_ne_ins, wF_bol_ins, blQ_bl, w_bol, wt_bol, wt_lc2, wi_lc2, wbF_int, wbF_lst, wbF_tup, wbF_str, wb_add, wb_sub, wb_mul, wb_fdiv, wb_mod, wb_pow, wb_ladd, wc_lt, wc_le, wc_gt, wc_ge, wc_eq_int, wc_ne_int, wc_eq_bl, wc_ne_bl, wc_isN_int, wc_isN_bl, wc_isN_non, wc_notN_int, wc_notN_tup, wc_notN_non, w_idxD, seq_lst, seq_tup, seq_frz, seq_0, seq_s, len_lst, len_tup, isLoc_int, isLoc_lst, isLoc_tup, ok_ite, mkQ_eq, tss_nil, tss_cons, bindT, bindTs, wipeE, List.zip_nil_left, List.zip_nil_right, List.zip_cons_cons, List.map_nil, List.map_cons, List.nil_append, List.cons_append, List.length_nil, List.length_cons, List.replicate_zero, List.replicate_succ, List.set_cons_zero, List.set_cons_succ, Nat.reduceAdd, Nat.reduceSub, Bool.false_eq_true, Bool.true_eq_false, if_true, if_false, ite_true, ite_false, idxQ_0, idxQ_1, idxQ_2, idxQ_3, idxQ_4, idxQ_5, idxQ_6, idxQ_7, idxQ_8, idxQ_9, idxQ_10, idxQ_11, putQ_0, putQ_1, putQ_2, putQ_3, putQ_4, putQ_5, pr]
  refine ⟨_, rfl, ?_⟩
  refine ok_one (ok_ret ?_)
  simp only [ok_ok, ok_bind, ok_os, oks_ok, after1_nx, after1_rt, after1_bk, after1_ct, w_con, w_var, varQ_z, varQ_s, w_bin, w_neg, negQ_int, w_not, notQ_bl, w_band, andQ_bl, w_bor, orQ_bl, w_cmp, w_ite, w_tup, w_lst, w_lnew, w_idx, w_slc, w_evo_none, w_evo_some, intQ_int, w_call, w_blt, w_app, w_bitl, bitQ_int, wt_bitl, wi_bitl, wb_shl, w_nil, w_cons,
wt_con, wt_var, wt_bin, wt_neg, wt_cmp, wt_cmp2, wt_tup, wt_lst, wt_lnew, wt_idx, wt_slc, wt_call, wt_blt, wt_lc, wt_app, wi_con, wi_var, wi_bin, wi_neg, wi_cmp, wi_cmp2, wi_tup, wi_lst, wi_lnew, wi_idx, wi_slc, wi_call, wi_blt, wi_lc, wi_app, seqQ_tup, seqQ_lst, seqQ_frz, seqQ_loc, tt_not, tt_band, tt_bor, tt_ite, tstQ_bl, tstQ_non, tstQ_int, tstQ_lst, tstQ_tup, wi_rng, rngQ_int, wi_rng2, rng2Q_int, w_lc,
wF_lt, wF_le, wF_gt, wF_ge, wF_isN, wF_notN, wF_eq_int, wF_eq_bl, wF_eq_str, wF_eq_tup, wF_eq_lst, wF_eq_frz, wF_eq_non, wF_ne_int, wF_ne_bl, wF_ne_str, wF_ne_tup, wF_ne_lst, wF_ne_frz, wF_ne_non, wF_isIn_tup, wF_isIn_lst, wF_isIn_frz, wF_notIn_tup, wF_notIn_lst, wF_notIn_frz, wF_eq_ins, wF_eq_insT, wF_eq_insN, wF_eq_insI, wF_ne_ins, wF_bol_ins, blQ_bl, w_bol, wt_bol, wt_lc2, wi_lc2, wbF_int, wbF_lst, wbF_tup, wbF_str, wb_add, wb_sub, wb_mul, wb_fdiv, wb_mod, wb_pow, wb_ladd, wc_lt, wc_le, wc_gt, wc_ge, wc_eq_int, wc_ne_int, wc_eq_bl, wc_ne_bl, wc_isN_int, wc_isN_bl, wc_isN_non, wc_notN_int, wc_notN_tup, wc_notN_non, w_idxD, seq_lst, seq_tup, seq_frz, seq_0, seq_s, len_lst, len_tup, isLoc_int, isLoc_lst, isLoc_tup, ok_ite, mkQ_eq, tss_nil, tss_cons, bindT, bindTs, wipeE, List.zip_nil_left, List.zip_nil_right, List.zip_cons_cons, List.map_nil, List.map_cons, List.nil_append, List.cons_append, List.length_nil, List.length_cons, List.replicate_zero, List.replicate_succ, List.set_cons_zero, List.set_cons_succ, Nat.reduceAdd, Nat.reduceSub, Bool.false_eq_true, Bool.true_eq_false, if_true, if_false, ite_true, ite_false, idxQ_0, idxQ_1, idxQ_2, idxQ_3, idxQ_4, idxQ_5, idxQ_6, idxQ_7, idxQ_8, idxQ_9, idxQ_10, idxQ_11, putQ_0, putQ_1, putQ_2, putQ_3, putQ_4, putQ_5]
  refine ⟨ha.big hc (by decide) (by decide), hr.big hb (by decide) (by decide), (hr.mul hb).big he (by decide) (by decide), ha.big he (by decide) (by decide), hb.big hc (by decide) (by decide), by rfl, ?_⟩
  rw [fin_plain rfl (Nat.le_refl _)]
  exact hQ
theorem SmP.add {j k : Nat} {p q : Pr} (a : SmP j p) (b : SmP k q) : SmP (max j k + 1) (padd p q) := ⟨a.1.add b.1, a.2.add b.2⟩
theorem SmP.mul {j k l : Nat} {p q : Pr} {r : Int} (hr : Sm l r) (a : SmP j p) (b : SmP k q) : SmP (l + j + k + 1) (pmul r p q) :=
  ⟨((a.1.mul b.1).add ((hr.mul a.2).mul b.2)).mono (by omega), ((a.1.mul b.2).add (a.2.mul b.1)).mono (by omega)⟩
theorem eqD_pr (p q : Pr) : eqD (pr p) (pr q) h = some (p.1 == q.1 && p.2 == q.2) := by
  have s : ∀ p : Pr, SeqAt.shaped (.tuple [.int p.1, .int p.2]) = true := fun p => by rfl
  show (if SeqAt.shaped (.tuple [.int p.1, .int p.2]) && SeqAt.shaped (.tuple [.int q.1, .int q.2]) then some (PyData.eqv (.tuple [.int p.1, .int p.2]) (.tuple [.int q.1, .int q.2])) else none) = _
  rw [s, s]
  show some (p.1 == q.1 && (p.2 == q.2 && true)) = _
  rw [Bool.and_true]
theorem eq_pr (p q : Pr) : OkV XQ (cmpD .eq (pr p) (pr q) h) Q = Q (.bl (p.1 == q.1 && p.2 == q.2)) h := eq_of (eqD_pr p q)
theorem ne_pr (p q : Pr) : OkV XQ (cmpD .ne (pr p) (pr q) h) Q = Q (.bl (!(p.1 == q.1 && p.2 == q.2))) h := ne_of (eqD_pr p q)
/-! ### the order of the numbers a + b root -/
def Cn (x : Pr) : Prop := 0 ≤ x.1 ∧ 0 ≤ x.2 ∧ (0 < x.1 ∨ 0 < x.2)
def Ps (r : Int) (x : Pr) : Prop := ∃ c, Cn c ∧ Cn (pmul r x c)
variable {r : Int} {x y z c d : Pr}
theorem Cn.mul (hr : 0 < r) (a : Cn c) (b : Cn d) : Cn (pmul r c d) := by
  obtain ⟨a1, a2, a3⟩ := a
  obtain ⟨b1, b2, b3⟩ := b
  have p1 := Int.mul_nonneg a1 b1
  have p2 := Int.mul_nonneg (Int.mul_nonneg (Int.le_of_lt hr) a2) b2
  have p3 := Int.mul_nonneg a1 b2
  have p4 := Int.mul_nonneg a2 b1
  refine ⟨by unfold pmul; dsimp only; omega, by unfold pmul; dsimp only; omega, ?_⟩
  unfold pmul
  dsimp only
  rcases a3 with a3 | a3 <;> rcases b3 with b3 | b3
  · have := Int.mul_pos a3 b3; omega
  · have := Int.mul_pos a3 b3; omega
  · have := Int.mul_pos a3 b3; omega
  · have := Int.mul_pos (Int.mul_pos hr a3) b3; omega
theorem Cn.add (a : Cn c) (b : Cn d) : Cn (padd c d) := by
  obtain ⟨a1, a2, a3⟩ := a
  obtain ⟨b1, b2, b3⟩ := b
  unfold padd
  exact ⟨by dsimp only; omega, by dsimp only; omega, by dsimp only; omega⟩
theorem Ps.mul (hr : 0 < r) (a : Ps r x) (b : Ps r y) : Ps r (pmul r x y) := by
  obtain ⟨c, c1, c2⟩ := a
  obtain ⟨d, d1, d2⟩ := b
  refine ⟨pmul r c d, c1.mul hr d1, ?_⟩
  have e : pmul r (pmul r x y) (pmul r c d) = pmul r (pmul r x c) (pmul r y d) := by
    unfold pmul
    ext <;> dsimp only <;> grind
  rw [e]
  exact c2.mul hr d2
theorem Ps.add (hr : 0 < r) (a : Ps r x) (b : Ps r y) : Ps r (padd x y) := by
  obtain ⟨c, c1, c2⟩ := a
  obtain ⟨d, d1, d2⟩ := b
  refine ⟨pmul r c d, c1.mul hr d1, ?_⟩
  have e : pmul r (padd x y) (pmul r c d) = padd (pmul r (pmul r x c) d) (pmul r (pmul r y d) c) := by
    unfold pmul padd
    ext <;> dsimp only <;> grind
  rw [e]
  exact (c2.mul hr d1).add (d2.mul hr c1)
theorem Ps.zero : ¬ Ps r (0, 0) := fun ⟨c, _, _, _, h⟩ => by
  unfold pmul at h
  simp at h
theorem Ps.excl (hr : 0 < r) (a : Ps r x) (b : Ps r (pneg x)) : False := by
  have := a.add hr b
  have e : padd x (pneg x) = (0, 0) := by unfold padd pneg; ext <;> dsimp only <;> omega
  rw [e] at this
  exact this.zero
/-- what the sign says -/
theorem sgP_ps (h : Rt r) (x : Pr) : (sgP r x = 1 ∧ Ps r x) ∨ (sgP r x = -1 ∧ Ps r (pneg x)) ∨ (sgP r x = 0 ∧ x = (0, 0)) := by
  obtain ⟨a, b⟩ := x
  have hr : 0 < r := by have := h.1; omega
  have one : Cn (1, 0) := ⟨by decide, by decide, .inl (by decide)⟩
  unfold sgP
  dsimp only
  by_cases c1 : 0 ≤ a ∧ 0 ≤ b
  · rw [if_pos c1]
    by_cases c2 : 0 < a ∨ 0 < b
    · rw [if_pos c2]
      exact .inl ⟨rfl, (1, 0), one, by unfold pmul Cn; simp; exact ⟨c1.1, c1.2, c2⟩⟩
    · rw [if_neg c2]
      refine .inr (.inr ⟨rfl, ?_⟩)
      ext <;> dsimp only <;> omega
  · rw [if_neg c1]
    by_cases c2 : a ≤ 0 ∧ b ≤ 0
    · rw [if_pos c2]
      exact .inr (.inl ⟨rfl, (1, 0), one, by unfold pmul pneg Cn; simp; omega⟩)
    · rw [if_neg c2]
      by_cases c3 : 0 < a
      · rw [if_pos c3]
        have ne : a * a ≠ r * b * b := fun e => by have := irr h e; omega
        by_cases c4 : r * b * b < a * a
        · rw [if_pos c4]
          refine .inl ⟨rfl, (a, -b), ⟨by dsimp only; omega, by dsimp only; omega, .inl c3⟩, ?_⟩
          have e1 : a * a + r * b * -b = a * a - r * b * b := by grind
          have e2 : a * -b + b * a = 0 := by grind
          unfold pmul Cn
          dsimp only
          rw [e1, e2]
          omega
        · rw [if_neg c4]
          refine .inr (.inl ⟨rfl, (a, -b), ⟨by dsimp only; omega, by dsimp only; omega, .inl c3⟩, ?_⟩)
          have e1 : -a * a + r * -b * -b = r * b * b - a * a := by grind
          have e2 : -a * -b + -b * a = 0 := by grind
          unfold pmul pneg Cn
          dsimp only
          rw [e1, e2]
          omega
      · rw [if_neg c3]
        have ne : a * a ≠ r * b * b := fun e => by have := irr h e; omega
        by_cases c4 : a * a < r * b * b
        · rw [if_pos c4]
          refine .inl ⟨rfl, (-a, b), ⟨by dsimp only; omega, by dsimp only; omega, .inr (by dsimp only; omega)⟩, ?_⟩
          have e1 : a * -a + r * b * b = r * b * b - a * a := by grind
          have e2 : a * b + b * -a = 0 := by grind
          unfold pmul Cn
          dsimp only
          rw [e1, e2]
          omega
        · rw [if_neg c4]
          refine .inr (.inl ⟨rfl, (-a, b), ⟨by dsimp only; omega, by dsimp only; omega, .inr (by dsimp only; omega)⟩, ?_⟩)
          have e1 : -a * -a + r * -b * b = a * a - r * b * b := by grind
          have e2 : -a * b + -b * -a = 0 := by grind
          unfold pmul pneg Cn
          dsimp only
          rw [e1, e2]
          omega
theorem rt_pos (h : Rt r) : 0 < r := by have := h.1; omega
theorem sgP_one (h : Rt r) (a : Ps r x) : sgP r x = 1 := by
  rcases sgP_ps h x with ⟨e, _⟩ | ⟨_, b⟩ | ⟨_, e⟩
  · exact e
  · exact (a.excl (rt_pos h) b).elim
  · rw [e] at a; exact a.zero.elim
theorem pneg_pneg : pneg (pneg x) = x := by unfold pneg; ext <;> dsimp only <;> omega
theorem sgP_neg (h : Rt r) (a : Ps r (pneg x)) : sgP r x = -1 := by
  rcases sgP_ps h x with ⟨_, b⟩ | ⟨e, _⟩ | ⟨_, e⟩
  · exact (b.excl (rt_pos h) a).elim
  · exact e
  · rw [e] at a; exact Ps.zero (r := r) (by simpa [pneg] using a) |>.elim
theorem sgP_zero : sgP r (0, 0) = 0 := by unfold sgP; simp
theorem sgP_mul (h : Rt r) (x y : Pr) : sgP r (pmul r x y) = sgP r x * sgP r y := by
  have hr := rt_pos h
  have n1 : pmul r x (pneg y) = pneg (pmul r x y) := by unfold pmul pneg; ext <;> dsimp only <;> grind
  have n2 : pmul r (pneg x) y = pneg (pmul r x y) := by unfold pmul pneg; ext <;> dsimp only <;> grind
  have n3 : pmul r (pneg x) (pneg y) = pmul r x y := by unfold pmul pneg; ext <;> dsimp only <;> grind
  rcases sgP_ps h x with ⟨e1, a⟩ | ⟨e1, a⟩ | ⟨e1, a⟩ <;> rcases sgP_ps h y with ⟨e2, b⟩ | ⟨e2, b⟩ | ⟨e2, b⟩ <;> rw [e1, e2]
  · exact sgP_one h (a.mul hr b)
  · exact sgP_neg h (by rw [← n1]; exact a.mul hr b)
  · rw [b]; simp [pmul, sgP_zero]
  · exact sgP_neg h (by rw [← n2]; exact a.mul hr b)
  · exact sgP_one h (by rw [← n3]; exact a.mul hr b)
  · rw [b]; simp [pmul, sgP_zero]
  · rw [a]; simp [pmul, sgP_zero]
  · rw [a]; simp [pmul, sgP_zero]
  · rw [a]; simp [pmul, sgP_zero]
theorem sgP_pneg (h : Rt r) (x : Pr) : sgP r (pneg x) = 0 - sgP r x := by
  rcases sgP_ps h x with ⟨e1, a⟩ | ⟨e1, a⟩ | ⟨e1, a⟩ <;> rw [e1]
  · exact sgP_neg h (by rw [pneg_pneg]; exact a)
  · exact sgP_one h a
  · rw [a]; simp [pneg, sgP_zero]
/-- not below 0 -/
theorem sgP_add (h : Rt r) {x y : Pr} (a : 0 ≤ sgP r x) (b : 0 ≤ sgP r y) : 0 ≤ sgP r (padd x y) := by
  have z0 : ∀ x : Pr, padd (0, 0) x = x := fun x => by unfold padd; ext <;> dsimp only <;> omega
  have z1 : ∀ x : Pr, padd x (0, 0) = x := fun x => by unfold padd; ext <;> dsimp only <;> omega
  rcases sgP_ps h x with ⟨e1, p⟩ | ⟨e1, p⟩ | ⟨e1, p⟩
  · rcases sgP_ps h y with ⟨e2, q⟩ | ⟨e2, q⟩ | ⟨e2, q⟩
    · rw [sgP_one h (p.add (rt_pos h) q)]; decide
    · omega
    · rw [q, z1]; exact a
  · omega
  · rw [p, z0]; exact b
theorem sgP_add1 (h : Rt r) {x y : Pr} (a : 0 < sgP r x) (b : 0 < sgP r y) : sgP r (padd x y) = 1 := by
  rcases sgP_ps h x with ⟨e1, p⟩ | ⟨e1, p⟩ | ⟨e1, p⟩
  · rcases sgP_ps h y with ⟨e2, q⟩ | ⟨e2, q⟩ | ⟨e2, q⟩
    · exact sgP_one h (p.add (rt_pos h) q)
    · omega
    · omega
  · omega
  · omega
theorem sgP_eq0 (h : Rt r) {x : Pr} : sgP r x = 0 ↔ x = (0, 0) := by
  constructor
  · intro e
    rcases sgP_ps h x with ⟨e1, _⟩ | ⟨e1, _⟩ | ⟨_, e1⟩
    · omega
    · omega
    · exact e1
  · rintro rfl; exact sgP_zero
end
end GY

namespace GY
open PySem PySem.Spec PyProof.Rows L2
variable {XQ : D → Hs → Prop}
section
variable {P : Nat → Option Fd} {i j m n N k : Nat} {h : Hs} {ob : Ob} {Q : D → Hs → Prop} {us : List D} {kws : List (Nat × D)}
/-- a while: I by a measure -/
theorem ok_whlN {c : Env1 → Hs → Out Bool} {f : Env1 → Hs → Os} {Q : Fl → Env1 → Hs → Prop} (I : Nat → Env1 → Hs → Prop)
    (hs : ∀ m r h, I m r h → OkV XQ (c r h) fun b h1 => if b = true then OkS XQ (f r h1) (fun fl r1 h2 => match fl with
      | .nx => ∃ m', m' < m ∧ I m' r1 h2
      | .ct => ∃ m', m' < m ∧ I m' r1 h2
      | .bk => Q .nx r1 h2
      | .rt v => Q (.rt v) r1 h2) else Q .nx r h1) : ∀ (n m : Nat) (r : Env1) (h : Hs), I m r h → m < n → OkS XQ (whlN c f n r h) Q
  | 0, m, r, h, i, hm => absurd hm (Nat.not_lt_zero _)
  | n + 1, m, r, h, i, hm => by
    unfold whlN
    rw [ok_os]
    refine (hs m r h i).mono fun b h1 q => ?_
    cases b with
    | false => exact q
    | true =>
      rw [if_pos rfl] at q ⊢
      cases o : f r h1 with
      | stuck => rw [o] at q; first | exact q | exact q.elim
      | exc x y z => rw [o] at q; first | exact q | exact q.elim
      | ok fl r1 h2 =>
        rw [o] at q
        cases fl with
        | nx =>
          obtain ⟨m', l, i'⟩ := q
          exact ok_whlN I hs n m' r1 h2 i' (by omega)
        | ct =>
          obtain ⟨m', l, i'⟩ := q
          exact ok_whlN I hs n m' r1 h2 i' (by omega)
        | bk => exact q
        | rt v => exact q
theorem ok_whl {F : Fns} {c : E} {b : List S} {r : Env1} {Q : Fl → Env1 → Hs → Prop} (I : Nat → Env1 → Hs → Prop) (m : Nat) (hi : I m r h) (hm : m < 2 ^ 200)
    (hs : ∀ m r h, I m r h → OkV XQ ((den F c).t r h) fun b' h1 => if b' = true then OkS XQ (exSs F b r h1) (fun fl r1 h2 => match fl with
      | .nx => ∃ m', m' < m ∧ I m' r1 h2
      | .ct => ∃ m', m' < m ∧ I m' r1 h2
      | .bk => Q .nx r1 h2
      | .rt v => Q (.rt v) r1 h2) else Q .nx r h1) : OkS XQ (exS F (.whl c b) r h) Q := ok_whlN I hs manyTurns m r h hi hm
/-! ### the whole root -/
def IsRt (n w : Int) : Prop := 0 ≤ w ∧ w * w ≤ n ∧ n < (w + 1) * (w + 1)
theorem IsRt.le {n a b : Int} (x : IsRt n a) (y : IsRt n b) : a ≤ b := Classical.byContradiction fun z => by
  have z : b + 1 ≤ a := by omega
  have := Int.mul_le_mul z z (by have := y.1; omega) x.1
  have := x.2.1
  have := y.2.2
  omega
theorem IsRt.uniq {n a b : Int} (x : IsRt n a) (y : IsRt n b) : a = b := Int.le_antisymm (x.le y) (y.le x)
def fdIntRoot : Fd where
  npos := 1
  pdf := []
  kdf := []
  star := false
  fresh := false
  ns := 3
  body :=
   [.ifs (.cmp .eq (.var 0) (.con (.int 0)))
      [.ret (.con (.int 0))]
      [],
    .asg (.nm 1) (.bin .shl (.con (.int 1)) (.bin .fdiv (.bin .add (.bitl (.var 0)) (.con (.int 1))) (.con (.int 2)))),
    .whl (.con (.bl true))
      [.asg (.nm 2) (.bin .fdiv (.bin .add (.var 1) (.bin .fdiv (.var 0) (.var 1))) (.con (.int 2))),
       .ifs (.cmp .ge (.var 2) (.var 1))
         [.ret (.var 1)]
         [],
       .asg (.nm 1) (.var 2)]]
theorem newton {n g : Int} (hn : 0 < n) (hg : 0 < g) (hi : n < (g + 1) * (g + 1)) :
    (g ≤ (g + n / g) / 2 → IsRt n g) ∧ ((g + n / g) / 2 < g → 0 < (g + n / g) / 2 ∧ n < ((g + n / g) / 2 + 1) * ((g + n / g) / 2 + 1)) := by
  have q0 : 0 ≤ n / g := Int.ediv_nonneg (by omega) (by omega)
  have q1 : n / g * g ≤ n := Int.ediv_mul_le n (by omega)
  have q2 : n < (n / g + 1) * g := Int.lt_ediv_add_one_mul_self n hg
  generalize n / g = q at q0 q1 q2
  constructor
  · intro hb
    have : g ≤ q := by omega
    have : g * g ≤ q * g := Int.mul_le_mul_of_nonneg_right this (by omega)
    exact ⟨by omega, by omega, hi⟩
  · intro hb
    have g2 : 2 ≤ g := Classical.byContradiction fun z => by
      have e : g = 1 := by omega
      subst e
      simp at q1 q2
      omega
    refine ⟨by omega, ?_⟩
    generalize hbt : (g + q) / 2 = b at hb
    have b1 : g + (q + 1) ≤ 2 * (b + 1) := by omega
    have b2 : (g + (q + 1)) * (g + (q + 1)) ≤ (2 * (b + 1)) * (2 * (b + 1)) := Int.mul_le_mul b1 b1 (by omega) (by omega)
    have b3 : 0 ≤ (g - (q + 1)) * (g - (q + 1)) := by
      rcases Int.le_total 0 (g - (q + 1)) with z | z
      · exact Int.mul_nonneg z z
      · have := Int.mul_nonneg (show 0 ≤ -(g - (q + 1)) by omega) (show 0 ≤ -(g - (q + 1)) by omega)
        have e : -(g - (q + 1)) * -(g - (q + 1)) = (g - (q + 1)) * (g - (q + 1)) := by grind
        omega
    have b4 : (g + (q + 1)) * (g + (q + 1)) = (g - (q + 1)) * (g - (q + 1)) + 4 * ((q + 1) * g) := by grind
    have b5 : (2 * (b + 1)) * (2 * (b + 1)) = 4 * ((b + 1) * (b + 1)) := by grind
    omega
theorem introot_ok (hP : P i = some fdIntRoot) {n : Int} (h0 : 0 ≤ n) (hs : Sm 300 n) (hQ : ∀ w, IsRt n w → Q (.int w) h) : OkV XQ (callN P (k + 1) i [.int n] [] h) Q := by
  refine ok_call hP rfl ?_
  simp only [fdIntRoot]
  by_cases hz : n = 0
  · subst hz
    refine ok_cons (ok_then ?_ ?_)
    · (try simp only [ok_ok, ok_bind, ok_os, oks_ok, after1_nx, after1_rt, after1_bk, after1_ct, w_con, w_var, varQ_z, varQ_s, w_bin, w_neg, negQ_int, w_not, notQ_bl, w_band, andQ_bl, w_bor, orQ_bl, w_cmp, w_ite, w_tup, w_lst, w_lnew, w_idx, w_slc, w_evo_none, w_evo_some, intQ_int, w_call, w_blt, w_app, w_bitl, bitQ_int, wt_bitl, wi_bitl, wb_shl, w_nil, w_cons,
wt_con, wt_var, wt_bin, wt_neg, wt_cmp, wt_cmp2, wt_tup, wt_lst, wt_lnew, wt_idx, wt_slc, wt_call, wt_blt, wt_lc, wt_app, wi_con, wi_var, wi_bin, wi_neg, wi_cmp, wi_cmp2, wi_tup, wi_lst, wi_lnew, wi_idx, wi_slc, wi_call, wi_blt, wi_lc, wi_app, seqQ_tup, seqQ_lst, seqQ_frz, seqQ_loc, tt_not, tt_band, tt_bor, tt_ite, tstQ_bl, tstQ_non, tstQ_int, tstQ_lst, tstQ_tup, wi_rng, rngQ_int, wi_rng2, rng2Q_int, w_lc,
wF_lt, wF_le, wF_gt, wF_ge, wF_isN, wF_notN, wF_eq_int, wF_eq_bl, wF_eq_str, wF_eq_tup, wF_eq_lst, wF_eq_frz, wF_eq_non, wF_ne_int, wF_ne_bl, wF_ne_str, wF_ne_tup, wF_ne_lst, wF_ne_frz, wF_ne_non, wF_isIn_tup, wF_isIn_lst, wF_isIn_frz, wF_notIn_tup, wF_notIn_lst, wF_notIn_frz, wF_eq_ins, wF_eq_insT, wF_eq_insN, wF_eq_insI, wF_ne_ins, wF_bol_ins, blQ_bl, w_bol, wt_bol, wt_lc2, wi_lc2, wbF_int, wbF_lst, wbF_tup, wbF_str, wb_add, wb_sub, wb_mul, wb_fdiv, wb_mod, wb_pow, wb_ladd, wc_lt, wc_le, wc_gt, wc_ge, wc_eq_int, wc_ne_int, wc_eq_bl, wc_ne_bl, wc_isN_int, wc_isN_bl, wc_isN_non, wc_notN_int, wc_notN_tup, wc_notN_non, w_idxD, seq_lst, seq_tup, seq_frz, seq_0, seq_s, len_lst, len_tup, isLoc_int, isLoc_lst, isLoc_tup, ok_ite, mkQ_eq, tss_nil, tss_cons, bindT, bindTs, wipeE, List.zip_nil_left, List.zip_nil_right, List.zip_cons_cons, List.map_nil, List.map_cons, List.nil_append, List.cons_append, List.length_nil, List.length_cons, List.replicate_zero, List.replicate_succ, List.set_cons_zero, List.set_cons_succ, Nat.reduceAdd, Nat.reduceSub, Bool.false_eq_true, Bool.true_eq_false, if_true, if_false, ite_true, ite_false, idxQ_0, idxQ_1, idxQ_2, idxQ_3, idxQ_4, idxQ_5, idxQ_6, idxQ_7, idxQ_8, idxQ_9, idxQ_10, idxQ_11, putQ_0, putQ_1, putQ_2, putQ_3, putQ_4, putQ_5])
      exact ⟨rfl, trivial⟩
    · refine ok_one (ok_ret ?_)
      (try simp only [ok_ok, ok_bind, ok_os, oks_ok, after1_nx, after1_rt, after1_bk, after1_ct, w_con, w_var, varQ_z, varQ_s, w_bin, w_neg, negQ_int, w_not, notQ_bl, w_band, andQ_bl, w_bor, orQ_bl, w_cmp, w_ite, w_tup, w_lst, w_lnew, w_idx, w_slc, w_evo_none, w_evo_some, intQ_int, w_call, w_blt, w_app, w_bitl, bitQ_int, wt_bitl, wi_bitl, wb_shl, w_nil, w_cons,
wt_con, wt_var, wt_bin, wt_neg, wt_cmp, wt_cmp2, wt_tup, wt_lst, wt_lnew, wt_idx, wt_slc, wt_call, wt_blt, wt_lc, wt_app, wi_con, wi_var, wi_bin, wi_neg, wi_cmp, wi_cmp2, wi_tup, wi_lst, wi_lnew, wi_idx, wi_slc, wi_call, wi_blt, wi_lc, wi_app, seqQ_tup, seqQ_lst, seqQ_frz, seqQ_loc, tt_not, tt_band, tt_bor, tt_ite, tstQ_bl, tstQ_non, tstQ_int, tstQ_lst, tstQ_tup, wi_rng, rngQ_int, wi_rng2, rng2Q_int, w_lc,
wF_lt, wF_le, wF_gt, wF_ge, wF_isN, wF_notN, wF_eq_int, wF_eq_bl, wF_eq_str, wF_eq_tup, wF_eq_lst, wF_eq_frz, wF_eq_non, wF_ne_int, wF_ne_bl, wF_ne_str, wF_ne_tup, wF_ne_lst, wF_ne_frz, wF_ne_non, wF_isIn_tup, wF_isIn_lst, wF_isIn_frz, wF_notIn_tup, wF_notIn_lst, wF_notIn_frz, wF_eq_ins, wF_eq_insT, wF_eq_insN, wF_eq_insI, wF_ne_ins, wF_bol_ins, blQ_bl, w_bol, wt_bol, wt_lc2, wi_lc2, wbF_int, wbF_lst, wbF_tup, wbF_str, wb_add, wb_sub, wb_mul, wb_fdiv, wb_mod, wb_pow, wb_ladd, wc_lt, wc_le, wc_gt, wc_ge, wc_eq_int, wc_ne_int, wc_eq_bl, wc_ne_bl, wc_isN_int, wc_isN_bl, wc_isN_non, wc_notN_int, wc_notN_tup, wc_notN_non, w_idxD, seq_lst, seq_tup, seq_frz, seq_0, seq_s, len_lst, len_tup, isLoc_int, isLoc_lst, isLoc_tup, ok_ite, mkQ_eq, tss_nil, tss_cons, bindT, bindTs, wipeE, List.zip_nil_left, List.zip_nil_right, List.zip_cons_cons, List.map_nil, List.map_cons, List.nil_append, List.cons_append, List.length_nil, List.length_cons, List.replicate_zero, List.replicate_succ, List.set_cons_zero, List.set_cons_succ, Nat.reduceAdd, Nat.reduceSub, Bool.false_eq_true, Bool.true_eq_false, if_true, if_false, ite_true, ite_false, idxQ_0, idxQ_1, idxQ_2, idxQ_3, idxQ_4, idxQ_5, idxQ_6, idxQ_7, idxQ_8, idxQ_9, idxQ_10, idxQ_11, putQ_0, putQ_1, putQ_2, putQ_3, putQ_4, putQ_5])
      rw [fin_plain rfl (Nat.le_refl _)]
      exact hQ 0 ⟨by decide, by decide, by decide⟩
  · have hn : 0 < n := by omega
    refine ok_cons (ok_skip ?_ ?_)
    · (try simp only [ok_ok, ok_bind, ok_os, oks_ok, after1_nx, after1_rt, after1_bk, after1_ct, w_con, w_var, varQ_z, varQ_s, w_bin, w_neg, negQ_int, w_not, notQ_bl, w_band, andQ_bl, w_bor, orQ_bl, w_cmp, w_ite, w_tup, w_lst, w_lnew, w_idx, w_slc, w_evo_none, w_evo_some, intQ_int, w_call, w_blt, w_app, w_bitl, bitQ_int, wt_bitl, wi_bitl, wb_shl, w_nil, w_cons,
wt_con, wt_var, wt_bin, wt_neg, wt_cmp, wt_cmp2, wt_tup, wt_lst, wt_lnew, wt_idx, wt_slc, wt_call, wt_blt, wt_lc, wt_app, wi_con, wi_var, wi_bin, wi_neg, wi_cmp, wi_cmp2, wi_tup, wi_lst, wi_lnew, wi_idx, wi_slc, wi_call, wi_blt, wi_lc, wi_app, seqQ_tup, seqQ_lst, seqQ_frz, seqQ_loc, tt_not, tt_band, tt_bor, tt_ite, tstQ_bl, tstQ_non, tstQ_int, tstQ_lst, tstQ_tup, wi_rng, rngQ_int, wi_rng2, rng2Q_int, w_lc,
wF_lt, wF_le, wF_gt, wF_ge, wF_isN, wF_notN, wF_eq_int, wF_eq_bl, wF_eq_str, wF_eq_tup, wF_eq_lst, wF_eq_frz, wF_eq_non, wF_ne_int, wF_ne_bl, wF_ne_str, wF_ne_tup, wF_ne_lst, wF_ne_frz, wF_ne_non, wF_isIn_tup, wF_isIn_lst, wF_isIn_frz, wF_notIn_tup, wF_notIn_lst, wF_notIn_frz, wF_eq_ins, wF_eq_insT, wF_eq_insN, wF_eq_insI, wF_ne_ins, wF_bol_ins, blQ_bl, w_bol, wt_bol, wt_lc2, wi_lc2, wbF_int, wbF_lst, wbF_tup, wbF_str, wb_add, wb_sub, wb_mul, wb_fdiv, wb_mod, wb_pow, wb_ladd, wc_lt, wc_le, wc_gt, wc_ge, wc_eq_int, wc_ne_int, wc_eq_bl, wc_ne_bl, wc_isN_int, wc_isN_bl, wc_isN_non, wc_notN_int, wc_notN_tup, wc_notN_non, w_idxD, seq_lst, seq_tup, seq_frz, seq_0, seq_s, len_lst, len_tup, isLoc_int, isLoc_lst, isLoc_tup, ok_ite, mkQ_eq, tss_nil, tss_cons, bindT, bindTs, wipeE, List.zip_nil_left, List.zip_nil_right, List.zip_cons_cons, List.map_nil, List.map_cons, List.nil_append, List.cons_append, List.length_nil, List.length_cons, List.replicate_zero, List.replicate_succ, List.set_cons_zero, List.set_cons_succ, Nat.reduceAdd, Nat.reduceSub, Bool.false_eq_true, Bool.true_eq_false, if_true, if_false, ite_true, ite_false, idxQ_0, idxQ_1, idxQ_2, idxQ_3, idxQ_4, idxQ_5, idxQ_6, idxQ_7, idxQ_8, idxQ_9, idxQ_10, idxQ_11, putQ_0, putQ_1, putQ_2, putQ_3, putQ_4, putQ_5])
      exact ⟨by simp [hz], trivial⟩
    · refine ok_cons (ok_asg ?_)
      (try simp only [ok_ok, ok_bind, ok_os, oks_ok, after1_nx, after1_rt, after1_bk, after1_ct, w_con, w_var, varQ_z, varQ_s, w_bin, w_neg, negQ_int, w_not, notQ_bl, w_band, andQ_bl, w_bor, orQ_bl, w_cmp, w_ite, w_tup, w_lst, w_lnew, w_idx, w_slc, w_evo_none, w_evo_some, intQ_int, w_call, w_blt, w_app, w_bitl, bitQ_int, wt_bitl, wi_bitl, wb_shl, w_nil, w_cons,
wt_con, wt_var, wt_bin, wt_neg, wt_cmp, wt_cmp2, wt_tup, wt_lst, wt_lnew, wt_idx, wt_slc, wt_call, wt_blt, wt_lc, wt_app, wi_con, wi_var, wi_bin, wi_neg, wi_cmp, wi_cmp2, wi_tup, wi_lst, wi_lnew, wi_idx, wi_slc, wi_call, wi_blt, wi_lc, wi_app, seqQ_tup, seqQ_lst, seqQ_frz, seqQ_loc, tt_not, tt_band, tt_bor, tt_ite, tstQ_bl, tstQ_non, tstQ_int, tstQ_lst, tstQ_tup, wi_rng, rngQ_int, wi_rng2, rng2Q_int, w_lc,
wF_lt, wF_le, wF_gt, wF_ge, wF_isN, wF_notN, wF_eq_int, wF_eq_bl, wF_eq_str, wF_eq_tup, wF_eq_lst, wF_eq_frz, wF_eq_non, wF_ne_int, wF_ne_bl, wF_ne_str, wF_ne_tup, wF_ne_lst, wF_ne_frz, wF_ne_non, wF_isIn_tup, wF_isIn_lst, wF_isIn_frz, wF_notIn_tup, wF_notIn_lst, wF_notIn_frz, wF_eq_ins, wF_eq_insT, wF_eq_insN, wF_eq_insI, wF_ne_ins, wF_bol_ins, blQ_bl, w_bol, wt_bol, wt_lc2, wi_lc2, wbF_int, wbF_lst, wbF_tup, wbF_str, wb_add, wb_sub, wb_mul, wb_fdiv, wb_mod, wb_pow, wb_ladd, wc_lt, wc_le, wc_gt, wc_ge, wc_eq_int, wc_ne_int, wc_eq_bl, wc_ne_bl, wc_isN_int, wc_isN_bl, wc_isN_non, wc_notN_int, wc_notN_tup, wc_notN_non, w_idxD, seq_lst, seq_tup, seq_frz, seq_0, seq_s, len_lst, len_tup, isLoc_int, isLoc_lst, isLoc_tup, ok_ite, mkQ_eq, tss_nil, tss_cons, bindT, bindTs, wipeE, List.zip_nil_left, List.zip_nil_right, List.zip_cons_cons, List.map_nil, List.map_cons, List.nil_append, List.cons_append, List.length_nil, List.length_cons, List.replicate_zero, List.replicate_succ, List.set_cons_zero, List.set_cons_succ, Nat.reduceAdd, Nat.reduceSub, Bool.false_eq_true, Bool.true_eq_false, if_true, if_false, ite_true, ite_false, idxQ_0, idxQ_1, idxQ_2, idxQ_3, idxQ_4, idxQ_5, idxQ_6, idxQ_7, idxQ_8, idxQ_9, idxQ_10, idxQ_11, putQ_0, putQ_1, putQ_2, putQ_3, putQ_4, putQ_5])
      have hbits : Builtin.Int.intBits n = n.natAbs.log2 + 1 := by
        unfold Builtin.Int.intBits
        rw [if_neg (by simpa using hz)]
      rw [hbits]
      have hlog : n.natAbs.log2 < 300 := log2_lt hs (by decide)
      have hpow : n.natAbs < 2 ^ (n.natAbs.log2 + 1) := Nat.lt_log2_self
      generalize n.natAbs.log2 = l at hlog hpow
      have he : (((l + 1 : Nat) : Int) + 1) / 2 = (((l + 2) / 2 : Nat) : Int) := by omega
      rw [he]
      generalize ht : (l + 2) / 2 = t
      have htl : t ≤ 151 := by omega
      refine ⟨⟨by decide, by decide⟩, ⟨by omega, by omega, by decide⟩, ?_⟩
      have hg : (1 : Int) * 2 ^ ((t : Int)).toNat = ((2 ^ t : Nat) : Int) := by
        rw [Int.toNat_natCast, Int.one_mul]
        norm_cast
      rw [hg]
      have hp0 : 0 < 2 ^ t := Nat.two_pow_pos t
      have hp1 : 2 ^ t ≤ 2 ^ 151 := Nat.pow_le_pow_right (by decide) htl
      have e1 : 2 ^ (l + 1) ≤ 2 ^ t * 2 ^ t := by rw [← Nat.pow_add]; exact Nat.pow_le_pow_right (by decide) (by omega)
      have e0 : n.natAbs < 2 ^ t * 2 ^ t := Nat.lt_of_lt_of_le hpow e1
      generalize 2 ^ t = g0 at hp0 hp1 e0
      have hstart : n < ((g0 : Int) + 1) * ((g0 : Int) + 1) := by
        have e4 : (n.natAbs : Int) < ((g0 * g0 : Nat) : Int) := Int.ofNat_lt.mpr e0
        rw [Int.natCast_mul] at e4
        have e3 : (n.natAbs : Int) = n := by omega
        have e5 : ((g0 : Int) + 1) * ((g0 : Int) + 1) = (g0 : Int) * (g0 : Int) + 2 * (g0 : Int) + 1 := by grind
        omega
      refine ok_one (ok_whl (fun m r h' => h' = h ∧ ∃ (g : Int) (x : Option D), r = [some (.int n), some (.int g), x] ∧ 0 < g ∧ g.toNat ≤ m ∧ g ≤ ((2 ^ 151 : Nat) : Int) ∧ n < (g + 1) * (g + 1)) (2 ^ 151) ⟨rfl, _, _, rfl, by omega, by omega, by exact_mod_cast hp1, hstart⟩ (by decide) ?_)
      rintro m r h' ⟨rfl, g, x, rfl, g0, gm, gb, gi⟩
      (try simp only [ok_ok, ok_bind, ok_os, oks_ok, after1_nx, after1_rt, after1_bk, after1_ct, w_con, w_var, varQ_z, varQ_s, w_bin, w_neg, negQ_int, w_not, notQ_bl, w_band, andQ_bl, w_bor, orQ_bl, w_cmp, w_ite, w_tup, w_lst, w_lnew, w_idx, w_slc, w_evo_none, w_evo_some, intQ_int, w_call, w_blt, w_app, w_bitl, bitQ_int, wt_bitl, wi_bitl, wb_shl, w_nil, w_cons,
wt_con, wt_var, wt_bin, wt_neg, wt_cmp, wt_cmp2, wt_tup, wt_lst, wt_lnew, wt_idx, wt_slc, wt_call, wt_blt, wt_lc, wt_app, wi_con, wi_var, wi_bin, wi_neg, wi_cmp, wi_cmp2, wi_tup, wi_lst, wi_lnew, wi_idx, wi_slc, wi_call, wi_blt, wi_lc, wi_app, seqQ_tup, seqQ_lst, seqQ_frz, seqQ_loc, tt_not, tt_band, tt_bor, tt_ite, tstQ_bl, tstQ_non, tstQ_int, tstQ_lst, tstQ_tup, wi_rng, rngQ_int, wi_rng2, rng2Q_int, w_lc,
wF_lt, wF_le, wF_gt, wF_ge, wF_isN, wF_notN, wF_eq_int, wF_eq_bl, wF_eq_str, wF_eq_tup, wF_eq_lst, wF_eq_frz, wF_eq_non, wF_ne_int, wF_ne_bl, wF_ne_str, wF_ne_tup, wF_ne_lst, wF_ne_frz, wF_ne_non, wF_isIn_tup, wF_isIn_lst, wF_isIn_frz, wF_notIn_tup, wF_notIn_lst, wF_notIn_frz, wF_eq_ins, wF_eq_insT, wF_eq_insN, wF_eq_insI, wF_ne_ins, wF_bol_ins, blQ_bl, w_bol, wt_bol, wt_lc2, wi_lc2, wbF_int, wbF_lst, wbF_tup, wbF_str, wb_add, wb_sub, wb_mul, wb_fdiv, wb_mod, wb_pow, wb_ladd, wc_lt, wc_le, wc_gt, wc_ge, wc_eq_int, wc_ne_int, wc_eq_bl, wc_ne_bl, wc_isN_int, wc_isN_bl, wc_isN_non, wc_notN_int, wc_notN_tup, wc_notN_non, w_idxD, seq_lst, seq_tup, seq_frz, seq_0, seq_s, len_lst, len_tup, isLoc_int, isLoc_lst, isLoc_tup, ok_ite, mkQ_eq, tss_nil, tss_cons, bindT, bindTs, wipeE, List.zip_nil_left, List.zip_nil_right, List.zip_cons_cons, List.map_nil, List.map_cons, List.nil_append, List.cons_append, List.length_nil, List.length_cons, List.replicate_zero, List.replicate_succ, List.set_cons_zero, List.set_cons_succ, Nat.reduceAdd, Nat.reduceSub, Bool.false_eq_true, Bool.true_eq_false, if_true, if_false, ite_true, ite_false, idxQ_0, idxQ_1, idxQ_2, idxQ_3, idxQ_4, idxQ_5, idxQ_6, idxQ_7, idxQ_8, idxQ_9, idxQ_10, idxQ_11, putQ_0, putQ_1, putQ_2, putQ_3, putQ_4, putQ_5])
      obtain ⟨n1, n2⟩ := newton hn g0 gi
      have sg : Sm 152 g := Sm.of 152 (by omega) (by
        have : (((2 : Nat) ^ 151 : Nat) : Int) < 2 ^ 152 := by decide +kernel
        omega)
      have lg : g.natAbs.log2 < 9000 := log2_lt (sg.mono (by decide)) (by decide)
      refine ok_cons (ok_asg ?_)
      (try simp only [ok_ok, ok_bind, ok_os, oks_ok, after1_nx, after1_rt, after1_bk, after1_ct, w_con, w_var, varQ_z, varQ_s, w_bin, w_neg, negQ_int, w_not, notQ_bl, w_band, andQ_bl, w_bor, orQ_bl, w_cmp, w_ite, w_tup, w_lst, w_lnew, w_idx, w_slc, w_evo_none, w_evo_some, intQ_int, w_call, w_blt, w_app, w_bitl, bitQ_int, wt_bitl, wi_bitl, wb_shl, w_nil, w_cons,
wt_con, wt_var, wt_bin, wt_neg, wt_cmp, wt_cmp2, wt_tup, wt_lst, wt_lnew, wt_idx, wt_slc, wt_call, wt_blt, wt_lc, wt_app, wi_con, wi_var, wi_bin, wi_neg, wi_cmp, wi_cmp2, wi_tup, wi_lst, wi_lnew, wi_idx, wi_slc, wi_call, wi_blt, wi_lc, wi_app, seqQ_tup, seqQ_lst, seqQ_frz, seqQ_loc, tt_not, tt_band, tt_bor, tt_ite, tstQ_bl, tstQ_non, tstQ_int, tstQ_lst, tstQ_tup, wi_rng, rngQ_int, wi_rng2, rng2Q_int, w_lc,
wF_lt, wF_le, wF_gt, wF_ge, wF_isN, wF_notN, wF_eq_int, wF_eq_bl, wF_eq_str, wF_eq_tup, wF_eq_lst, wF_eq_frz, wF_eq_non, wF_ne_int, wF_ne_bl, wF_ne_str, wF_ne_tup, wF_ne_lst, wF_ne_frz, wF_ne_non, wF_isIn_tup, wF_isIn_lst, wF_isIn_frz, wF_notIn_tup, wF_notIn_lst, wF_notIn_frz, wF_eq_ins, wF_eq_insT, wF_eq_insN, wF_eq_insI, wF_ne_ins, wF_bol_ins, blQ_bl, w_bol, wt_bol, wt_lc2, wi_lc2, wbF_int, wbF_lst, wbF_tup, wbF_str, wb_add, wb_sub, wb_mul, wb_fdiv, wb_mod, wb_pow, wb_ladd, wc_lt, wc_le, wc_gt, wc_ge, wc_eq_int, wc_ne_int, wc_eq_bl, wc_ne_bl, wc_isN_int, wc_isN_bl, wc_isN_non, wc_notN_int, wc_notN_tup, wc_notN_non, w_idxD, seq_lst, seq_tup, seq_frz, seq_0, seq_s, len_lst, len_tup, isLoc_int, isLoc_lst, isLoc_tup, ok_ite, mkQ_eq, tss_nil, tss_cons, bindT, bindTs, wipeE, List.zip_nil_left, List.zip_nil_right, List.zip_cons_cons, List.map_nil, List.map_cons, List.nil_append, List.cons_append, List.length_nil, List.length_cons, List.replicate_zero, List.replicate_succ, List.set_cons_zero, List.set_cons_succ, Nat.reduceAdd, Nat.reduceSub, Bool.false_eq_true, Bool.true_eq_false, if_true, if_false, ite_true, ite_false, idxQ_0, idxQ_1, idxQ_2, idxQ_3, idxQ_4, idxQ_5, idxQ_6, idxQ_7, idxQ_8, idxQ_9, idxQ_10, idxQ_11, putQ_0, putQ_1, putQ_2, putQ_3, putQ_4, putQ_5])
      refine ⟨⟨g0, lg⟩, ⟨by decide, by decide⟩, ?_⟩
      by_cases hb : g ≤ (g + n / g) / 2
      · refine ok_cons (ok_if ?_)
        (try simp only [ok_ok, ok_bind, ok_os, oks_ok, after1_nx, after1_rt, after1_bk, after1_ct, w_con, w_var, varQ_z, varQ_s, w_bin, w_neg, negQ_int, w_not, notQ_bl, w_band, andQ_bl, w_bor, orQ_bl, w_cmp, w_ite, w_tup, w_lst, w_lnew, w_idx, w_slc, w_evo_none, w_evo_some, intQ_int, w_call, w_blt, w_app, w_bitl, bitQ_int, wt_bitl, wi_bitl, wb_shl, w_nil, w_cons,
wt_con, wt_var, wt_bin, wt_neg, wt_cmp, wt_cmp2, wt_tup, wt_lst, wt_lnew, wt_idx, wt_slc, wt_call, wt_blt, wt_lc, wt_app, wi_con, wi_var, wi_bin, wi_neg, wi_cmp, wi_cmp2, wi_tup, wi_lst, wi_lnew, wi_idx, wi_slc, wi_call, wi_blt, wi_lc, wi_app, seqQ_tup, seqQ_lst, seqQ_frz, seqQ_loc, tt_not, tt_band, tt_bor, tt_ite, tstQ_bl, tstQ_non, tstQ_int, tstQ_lst, tstQ_tup, wi_rng, rngQ_int, wi_rng2, rng2Q_int, w_lc,
wF_lt, wF_le, wF_gt, wF_ge, wF_isN, wF_notN, wF_eq_int, wF_eq_bl, wF_eq_str, wF_eq_tup, wF_eq_lst, wF_eq_frz, wF_eq_non, wF_ne_int, wF_ne_bl, wF_ne_str, wF_ne_tup, wF_ne_lst, wF_ne_frz, wF_ne_non, wF_isIn_tup, wF_isIn_lst, wF_isIn_frz, wF_notIn_tup, wF_notIn_lst, wF_notIn_frz, wF_eq_ins, wF_eq_insT, wF_eq_insN, wF_eq_insI, wF_ne_ins, wF_bol_ins, blQ_bl, w_bol, wt_bol, wt_lc2, wi_lc2, wbF_int, wbF_lst, wbF_tup, wbF_str, wb_add, wb_sub, wb_mul, wb_fdiv, wb_mod, wb_pow, wb_ladd, wc_lt, wc_le, wc_gt, wc_ge, wc_eq_int, wc_ne_int, wc_eq_bl, wc_ne_bl, wc_isN_int, wc_isN_bl, wc_isN_non, wc_notN_int, wc_notN_tup, wc_notN_non, w_idxD, seq_lst, seq_tup, seq_frz, seq_0, seq_s, len_lst, len_tup, isLoc_int, isLoc_lst, isLoc_tup, ok_ite, mkQ_eq, tss_nil, tss_cons, bindT, bindTs, wipeE, List.zip_nil_left, List.zip_nil_right, List.zip_cons_cons, List.map_nil, List.map_cons, List.nil_append, List.cons_append, List.length_nil, List.length_cons, List.replicate_zero, List.replicate_succ, List.set_cons_zero, List.set_cons_succ, Nat.reduceAdd, Nat.reduceSub, Bool.false_eq_true, Bool.true_eq_false, if_true, if_false, ite_true, ite_false, idxQ_0, idxQ_1, idxQ_2, idxQ_3, idxQ_4, idxQ_5, idxQ_6, idxQ_7, idxQ_8, idxQ_9, idxQ_10, idxQ_11, putQ_0, putQ_1, putQ_2, putQ_3, putQ_4, putQ_5])
        rw [if_pos (decide_eq_true hb)]
        refine ok_one (ok_ret ?_)
        (try simp only [ok_ok, ok_bind, ok_os, oks_ok, after1_nx, after1_rt, after1_bk, after1_ct, w_con, w_var, varQ_z, varQ_s, w_bin, w_neg, negQ_int, w_not, notQ_bl, w_band, andQ_bl, w_bor, orQ_bl, w_cmp, w_ite, w_tup, w_lst, w_lnew, w_idx, w_slc, w_evo_none, w_evo_some, intQ_int, w_call, w_blt, w_app, w_bitl, bitQ_int, wt_bitl, wi_bitl, wb_shl, w_nil, w_cons,
wt_con, wt_var, wt_bin, wt_neg, wt_cmp, wt_cmp2, wt_tup, wt_lst, wt_lnew, wt_idx, wt_slc, wt_call, wt_blt, wt_lc, wt_app, wi_con, wi_var, wi_bin, wi_neg, wi_cmp, wi_cmp2, wi_tup, wi_lst, wi_lnew, wi_idx, wi_slc, wi_call, wi_blt, wi_lc, wi_app, seqQ_tup, seqQ_lst, seqQ_frz, seqQ_loc, tt_not, tt_band, tt_bor, tt_ite, tstQ_bl, tstQ_non, tstQ_int, tstQ_lst, tstQ_tup, wi_rng, rngQ_int, wi_rng2, rng2Q_int, w_lc,
wF_lt, wF_le, wF_gt, wF_ge, wF_isN, wF_notN, wF_eq_int, wF_eq_bl, wF_eq_str, wF_eq_tup, wF_eq_lst, wF_eq_frz, wF_eq_non, wF_ne_int, wF_ne_bl, wF_ne_str, wF_ne_tup, wF_ne_lst, wF_ne_frz, wF_ne_non, wF_isIn_tup, wF_isIn_lst, wF_isIn_frz, wF_notIn_tup, wF_notIn_lst, wF_notIn_frz, wF_eq_ins, wF_eq_insT, wF_eq_insN, wF_eq_insI, wF_ne_ins, wF_bol_ins, blQ_bl, w_bol, wt_bol, wt_lc2, wi_lc2, wbF_int, wbF_lst, wbF_tup, wbF_str, wb_add, wb_sub, wb_mul, wb_fdiv, wb_mod, wb_pow, wb_ladd, wc_lt, wc_le, wc_gt, wc_ge, wc_eq_int, wc_ne_int, wc_eq_bl, wc_ne_bl, wc_isN_int, wc_isN_bl, wc_isN_non, wc_notN_int, wc_notN_tup, wc_notN_non, w_idxD, seq_lst, seq_tup, seq_frz, seq_0, seq_s, len_lst, len_tup, isLoc_int, isLoc_lst, isLoc_tup, ok_ite, mkQ_eq, tss_nil, tss_cons, bindT, bindTs, wipeE, List.zip_nil_left, List.zip_nil_right, List.zip_cons_cons, List.map_nil, List.map_cons, List.nil_append, List.cons_append, List.length_nil, List.length_cons, List.replicate_zero, List.replicate_succ, List.set_cons_zero, List.set_cons_succ, Nat.reduceAdd, Nat.reduceSub, Bool.false_eq_true, Bool.true_eq_false, if_true, if_false, ite_true, ite_false, idxQ_0, idxQ_1, idxQ_2, idxQ_3, idxQ_4, idxQ_5, idxQ_6, idxQ_7, idxQ_8, idxQ_9, idxQ_10, idxQ_11, putQ_0, putQ_1, putQ_2, putQ_3, putQ_4, putQ_5])
        rw [fin_plain rfl (Nat.le_refl _)]
        exact hQ g (n1 hb)
      · refine ok_cons (ok_skip ?_ ?_)
        · (try simp only [ok_ok, ok_bind, ok_os, oks_ok, after1_nx, after1_rt, after1_bk, after1_ct, w_con, w_var, varQ_z, varQ_s, w_bin, w_neg, negQ_int, w_not, notQ_bl, w_band, andQ_bl, w_bor, orQ_bl, w_cmp, w_ite, w_tup, w_lst, w_lnew, w_idx, w_slc, w_evo_none, w_evo_some, intQ_int, w_call, w_blt, w_app, w_bitl, bitQ_int, wt_bitl, wi_bitl, wb_shl, w_nil, w_cons,
wt_con, wt_var, wt_bin, wt_neg, wt_cmp, wt_cmp2, wt_tup, wt_lst, wt_lnew, wt_idx, wt_slc, wt_call, wt_blt, wt_lc, wt_app, wi_con, wi_var, wi_bin, wi_neg, wi_cmp, wi_cmp2, wi_tup, wi_lst, wi_lnew, wi_idx, wi_slc, wi_call, wi_blt, wi_lc, wi_app, seqQ_tup, seqQ_lst, seqQ_frz, seqQ_loc, tt_not, tt_band, tt_bor, tt_ite, tstQ_bl, tstQ_non, tstQ_int, tstQ_lst, tstQ_tup, wi_rng, rngQ_int, wi_rng2, rng2Q_int, w_lc,
wF_lt, wF_le, wF_gt, wF_ge, wF_isN, wF_notN, wF_eq_int, wF_eq_bl, wF_eq_str, wF_eq_tup, wF_eq_lst, wF_eq_frz, wF_eq_non, wF_ne_int, wF_ne_bl, wF_ne_str, wF_ne_tup, wF_ne_lst, wF_ne_frz, wF_ne_non, wF_isIn_tup, wF_isIn_lst, wF_isIn_frz, wF_notIn_tup, wF_notIn_lst, wF_notIn_frz, wF_eq_ins, wF_eq_insT, wF_eq_insN, wF_eq_insI, wF_ne_ins, wF_bol_ins, blQ_bl, w_bol, wt_bol, wt_lc2, wi_lc2, wbF_int, wbF_lst, wbF_tup, wbF_str, wb_add, wb_sub, wb_mul, wb_fdiv, wb_mod, wb_pow, wb_ladd, wc_lt, wc_le, wc_gt, wc_ge, wc_eq_int, wc_ne_int, wc_eq_bl, wc_ne_bl, wc_isN_int, wc_isN_bl, wc_isN_non, wc_notN_int, wc_notN_tup, wc_notN_non, w_idxD, seq_lst, seq_tup, seq_frz, seq_0, seq_s, len_lst, len_tup, isLoc_int, isLoc_lst, isLoc_tup, ok_ite, mkQ_eq, tss_nil, tss_cons, bindT, bindTs, wipeE, List.zip_nil_left, List.zip_nil_right, List.zip_cons_cons, List.map_nil, List.map_cons, List.nil_append, List.cons_append, List.length_nil, List.length_cons, List.replicate_zero, List.replicate_succ, List.set_cons_zero, List.set_cons_succ, Nat.reduceAdd, Nat.reduceSub, Bool.false_eq_true, Bool.true_eq_false, if_true, if_false, ite_true, ite_false, idxQ_0, idxQ_1, idxQ_2, idxQ_3, idxQ_4, idxQ_5, idxQ_6, idxQ_7, idxQ_8, idxQ_9, idxQ_10, idxQ_11, putQ_0, putQ_1, putQ_2, putQ_3, putQ_4, putQ_5])
          exact ⟨decide_eq_false hb, trivial⟩
        · rw [after1_nx]
          refine ok_one (ok_asg ?_)
          (try simp only [ok_ok, ok_bind, ok_os, oks_ok, after1_nx, after1_rt, after1_bk, after1_ct, w_con, w_var, varQ_z, varQ_s, w_bin, w_neg, negQ_int, w_not, notQ_bl, w_band, andQ_bl, w_bor, orQ_bl, w_cmp, w_ite, w_tup, w_lst, w_lnew, w_idx, w_slc, w_evo_none, w_evo_some, intQ_int, w_call, w_blt, w_app, w_bitl, bitQ_int, wt_bitl, wi_bitl, wb_shl, w_nil, w_cons,
wt_con, wt_var, wt_bin, wt_neg, wt_cmp, wt_cmp2, wt_tup, wt_lst, wt_lnew, wt_idx, wt_slc, wt_call, wt_blt, wt_lc, wt_app, wi_con, wi_var, wi_bin, wi_neg, wi_cmp, wi_cmp2, wi_tup, wi_lst, wi_lnew, wi_idx, wi_slc, wi_call, wi_blt, wi_lc, wi_app, seqQ_tup, seqQ_lst, seqQ_frz, seqQ_loc, tt_not, tt_band, tt_bor, tt_ite, tstQ_bl, tstQ_non, tstQ_int, tstQ_lst, tstQ_tup, wi_rng, rngQ_int, wi_rng2, rng2Q_int, w_lc,
wF_lt, wF_le, wF_gt, wF_ge, wF_isN, wF_notN, wF_eq_int, wF_eq_bl, wF_eq_str, wF_eq_tup, wF_eq_lst, wF_eq_frz, wF_eq_non, wF_ne_int, wF_ne_bl, wF_ne_str, wF_ne_tup, wF_ne_lst, wF_ne_frz, wF_ne_non, wF_isIn_tup, wF_isIn_lst, wF_isIn_frz, wF_notIn_tup, wF_notIn_lst, wF_notIn_frz, wF_eq_ins, wF_eq_insT, wF_eq_insN, wF_eq_insI, wF_ne_ins, wF_bol_ins, blQ_bl, w_bol, wt_bol, wt_lc2, wi_lc2, wbF_int, wbF_lst, wbF_tup, wbF_str, wb_add, wb_sub, wb_mul, wb_fdiv, wb_mod, wb_pow, wb_ladd, wc_lt, wc_le, wc_gt, wc_ge, wc_eq_int, wc_ne_int, wc_eq_bl, wc_ne_bl, wc_isN_int, wc_isN_bl, wc_isN_non, wc_notN_int, wc_notN_tup, wc_notN_non, w_idxD, seq_lst, seq_tup, seq_frz, seq_0, seq_s, len_lst, len_tup, isLoc_int, isLoc_lst, isLoc_tup, ok_ite, mkQ_eq, tss_nil, tss_cons, bindT, bindTs, wipeE, List.zip_nil_left, List.zip_nil_right, List.zip_cons_cons, List.map_nil, List.map_cons, List.nil_append, List.cons_append, List.length_nil, List.length_cons, List.replicate_zero, List.replicate_succ, List.set_cons_zero, List.set_cons_succ, Nat.reduceAdd, Nat.reduceSub, Bool.false_eq_true, Bool.true_eq_false, if_true, if_false, ite_true, ite_false, idxQ_0, idxQ_1, idxQ_2, idxQ_3, idxQ_4, idxQ_5, idxQ_6, idxQ_7, idxQ_8, idxQ_9, idxQ_10, idxQ_11, putQ_0, putQ_1, putQ_2, putQ_3, putQ_4, putQ_5])
          obtain ⟨m1, m2⟩ := n2 (by omega)
          exact ⟨((g + n / g) / 2).toNat, by omega, trivial, _, _, rfl, m1, Nat.le_refl _, by omega, m2⟩
def fdFloor (s : Nat) : Fd where
  npos := 2
  pdf := []
  kdf := []
  star := false
  fresh := false
  ns := 5
  body :=
   [.asg (.tp [.nm 2, .nm 3]) (.var 0),
    .asg (.nm 4) (.call s [.bin .mul (.bin .mul (.var 1) (.var 3)) (.var 3)] [] []),
    .ret (.ite_ (.cmp .ge (.var 3) (.con (.int 0))) (.bin .add (.var 2) (.var 4)) (.bin .sub (.bin .sub (.var 2) (.var 4)) (.con (.int 1))))]
def flP (q : Pr) (w : Int) : Int := if 0 ≤ q.2 then q.1 + w else q.1 - w - 1
theorem floor_ok {s : Nat} (hP : P i = some (fdFloor s)) (hS : P s = some fdIntRoot) {q : Pr} {r : Int} (hr : 0 < r) (hq : SmP 80 q) (sr : Sm 10 r) (hbd : bindD (fdFloor s) us kws = some [pr q, .int r]) (hQ : ∀ w, IsRt (r * q.2 * q.2) w → Q (.int (flP q w)) h) : OkV XQ (callN P (k + 2) i us kws h) Q := by
  obtain ⟨a, b⟩ := q
  obtain ⟨sa, sb⟩ := hq
  dsimp only at sa sb
  refine ok_call hP hbd ?_
  simp only [fdFloor]
  refine ok_cons (ok_asgT ?_)
  (try simp only [ok_ok, ok_bind, ok_os, oks_ok, after1_nx, after1_rt, after1_bk, after1_ct, w_con, w_var, varQ_z, varQ_s, w_bin, w_neg, negQ_int, w_not, notQ_bl, w_band, andQ_bl, w_bor, orQ_bl, w_cmp, w_ite, w_tup, w_lst, w_lnew, w_idx, w_slc, w_evo_none, w_evo_some, intQ_int, w_call, w_blt, w_app, w_bitl, bitQ_int, wt_bitl, wi_bitl, wb_shl, w_nil, w_cons,
wt_con, wt_var, wt_bin, wt_neg, wt_cmp, wt_cmp2, wt_tup, wt_lst, wt_lnew, wt_idx, wt_slc, wt_call, wt_blt, wt_lc, wt_app, wi_con, wi_var, wi_bin, wi_neg, wi_cmp, wi_cmp2, wi_tup, wi_lst, wi_lnew, wi_idx, wi_slc, wi_call, wi_blt, wi_lc, wi_app, seqQ_tup, seqQ_lst, seqQ_frz, seqQ_loc, tt_not, tt_band, tt_bor, tt_ite, tstQ_bl, tstQ_non, tstQ_int, tstQ_lst, tstQ_tup, wi_rng, rngQ_int, wi_rng2, rng2Q_int, w_lc,
wF_lt, wF_le, wF_gt, wF_ge, wF_isN, wF_notN, wF_eq_int, wF_eq_bl, wF_eq_str, wF_eq_tup, wF_eq_lst, wF_eq_frz, wF_eq_non, wF_ne_int, wF_ne_bl, wF_ne_str, wF_ne_tup, wF_ne_lst, wF_ne_frz, wF_ne_non, wF_isIn_tup, wF_isIn_lst, wF_isIn_frz, wF_notIn_tup, wF_notIn_lst, wF_notIn_frz, wF_eq_ins, wF_eq_insT, wF_eq_insN, wF_eq_insI, wF_ne_ins, wF_bol_ins, blQ_bl, w_bol, wt_bol, wt_lc2, wi_lc2, wbF_int, wbF_lst, wbF_tup, wbF_str, wb_add, wb_sub, wb_mul, wb_fdiv, wb_mod, wb_pow, wb_ladd, wc_lt, wc_le, wc_gt, wc_ge, wc_eq_int, wc_ne_int, wc_eq_bl, wc_ne_bl, wc_isN_int, wc_isN_bl, wc_isN_non, wc_notN_int, wc_notN_tup, wc_notN_non, w_idxD, seq_lst, seq_tup, seq_frz, seq_0, seq_s, len_lst, len_tup, isLoc_int, isLoc_lst, isLoc_tup, ok_ite, mkQ_eq, tss_nil, tss_cons, bindT, bindTs, wipeE, List.zip_nil_left, List.zip_nil_right, List.zip_cons_cons, List.map_nil, List.map_cons, List.nil_append, List.cons_append, List.length_nil, List.length_cons, List.replicate_zero, List.replicate_succ, List.set_cons_zero, List.set_cons_succ, Nat.reduceAdd, Nat.reduceSub, Bool.false_eq_true, Bool.true_eq_false, if_true, if_false, ite_true, ite_false, idxQ_0, idxQ_1, idxQ_2, idxQ_3, idxQ_4, idxQ_5, idxQ_6, idxQ_7, idxQ_8, idxQ_9, idxQ_10, idxQ_11, putQ_0, putQ_1, putQ_2, putQ_3, putQ_4, putQ_5, pr])
  refine ⟨_, rfl, ?_⟩
  refine ok_cons (ok_asg ?_)
  (try simp only [ok_ok, ok_bind, ok_os, oks_ok, after1_nx, after1_rt, after1_bk, after1_ct, w_con, w_var, varQ_z, varQ_s, w_bin, w_neg, negQ_int, w_not, notQ_bl, w_band, andQ_bl, w_bor, orQ_bl, w_cmp, w_ite, w_tup, w_lst, w_lnew, w_idx, w_slc, w_evo_none, w_evo_some, intQ_int, w_call, w_blt, w_app, w_bitl, bitQ_int, wt_bitl, wi_bitl, wb_shl, w_nil, w_cons,
wt_con, wt_var, wt_bin, wt_neg, wt_cmp, wt_cmp2, wt_tup, wt_lst, wt_lnew, wt_idx, wt_slc, wt_call, wt_blt, wt_lc, wt_app, wi_con, wi_var, wi_bin, wi_neg, wi_cmp, wi_cmp2, wi_tup, wi_lst, wi_lnew, wi_idx, wi_slc, wi_call, wi_blt, wi_lc, wi_app, seqQ_tup, seqQ_lst, seqQ_frz, seqQ_loc, tt_not, tt_band, tt_bor, tt_ite, tstQ_bl, tstQ_non, tstQ_int, tstQ_lst, tstQ_tup, wi_rng, rngQ_int, wi_rng2, rng2Q_int, w_lc,
wF_lt, wF_le, wF_gt, wF_ge, wF_isN, wF_notN, wF_eq_int, wF_eq_bl, wF_eq_str, wF_eq_tup, wF_eq_lst, wF_eq_frz, wF_eq_non, wF_ne_int, wF_ne_bl, wF_ne_str, wF_ne_tup, wF_ne_lst, wF_ne_frz, wF_ne_non, wF_isIn_tup, wF_isIn_lst, wF_isIn_frz, wF_notIn_tup, wF_notIn_lst, wF_notIn_frz, wF_eq_ins, wF_eq_insT, wF_eq_insN, wF_eq_insI, wF_ne_ins, wF_bol_ins, blQ_bl, w_bol, wt_bol, wt_lc2, wi_lc2, wbF_int, wbF_lst, wbF_tup, wbF_str, wb_add, wb_sub, wb_mul, wb_fdiv, wb_mod, wb_pow, wb_ladd, wc_lt, wc_le, wc_gt, wc_ge, wc_eq_int, wc_ne_int, wc_eq_bl, wc_ne_bl, wc_isN_int, wc_isN_bl, wc_isN_non, wc_notN_int, wc_notN_tup, wc_notN_non, w_idxD, seq_lst, seq_tup, seq_frz, seq_0, seq_s, len_lst, len_tup, isLoc_int, isLoc_lst, isLoc_tup, ok_ite, mkQ_eq, tss_nil, tss_cons, bindT, bindTs, wipeE, List.zip_nil_left, List.zip_nil_right, List.zip_cons_cons, List.map_nil, List.map_cons, List.nil_append, List.cons_append, List.length_nil, List.length_cons, List.replicate_zero, List.replicate_succ, List.set_cons_zero, List.set_cons_succ, Nat.reduceAdd, Nat.reduceSub, Bool.false_eq_true, Bool.true_eq_false, if_true, if_false, ite_true, ite_false, idxQ_0, idxQ_1, idxQ_2, idxQ_3, idxQ_4, idxQ_5, idxQ_6, idxQ_7, idxQ_8, idxQ_9, idxQ_10, idxQ_11, putQ_0, putQ_1, putQ_2, putQ_3, putQ_4, putQ_5])
  refine ⟨sr.big sb (by decide) (by decide), (sr.mul sb).big sb (by decide) (by decide), ?_⟩
  have nn : 0 ≤ r * b * b := by
    have e : r * b * b = r * (b * b) := by grind
    rw [e]
    refine Int.mul_nonneg (Int.le_of_lt hr) ?_
    rcases Int.le_total 0 b with z | z
    · exact Int.mul_nonneg z z
    · have := Int.mul_nonneg (show 0 ≤ -b by omega) (show 0 ≤ -b by omega)
      have e : -b * -b = b * b := by grind
      omega
  refine introot_ok hS nn (((sr.mul sb).mul sb).mono (by decide)) fun w hw => ?_
  have q := hQ w hw
  unfold flP at q
  dsimp only at q
  (try simp only [ok_ok, ok_bind, ok_os, oks_ok, after1_nx, after1_rt, after1_bk, after1_ct, w_con, w_var, varQ_z, varQ_s, w_bin, w_neg, negQ_int, w_not, notQ_bl, w_band, andQ_bl, w_bor, orQ_bl, w_cmp, w_ite, w_tup, w_lst, w_lnew, w_idx, w_slc, w_evo_none, w_evo_some, intQ_int, w_call, w_blt, w_app, w_bitl, bitQ_int, wt_bitl, wi_bitl, wb_shl, w_nil, w_cons,
wt_con, wt_var, wt_bin, wt_neg, wt_cmp, wt_cmp2, wt_tup, wt_lst, wt_lnew, wt_idx, wt_slc, wt_call, wt_blt, wt_lc, wt_app, wi_con, wi_var, wi_bin, wi_neg, wi_cmp, wi_cmp2, wi_tup, wi_lst, wi_lnew, wi_idx, wi_slc, wi_call, wi_blt, wi_lc, wi_app, seqQ_tup, seqQ_lst, seqQ_frz, seqQ_loc, tt_not, tt_band, tt_bor, tt_ite, tstQ_bl, tstQ_non, tstQ_int, tstQ_lst, tstQ_tup, wi_rng, rngQ_int, wi_rng2, rng2Q_int, w_lc,
wF_lt, wF_le, wF_gt, wF_ge, wF_isN, wF_notN, wF_eq_int, wF_eq_bl, wF_eq_str, wF_eq_tup, wF_eq_lst, wF_eq_frz, wF_eq_non, wF_ne_int, wF_ne_bl, wF_ne_str, wF_ne_tup, wF_ne_lst, wF_ne_frz, wF_ne_non, wF_isIn_tup, wF_isIn_lst, wF_isIn_frz, wF_notIn_tup, wF_notIn_lst, wF_notIn_frz, wF_eq_ins, wF_eq_insT, wF_eq_insN, wF_eq_insI, wF_ne_ins, wF_bol_ins, blQ_bl, w_bol, wt_bol, wt_lc2, wi_lc2, wbF_int, wbF_lst, wbF_tup, wbF_str, wb_add, wb_sub, wb_mul, wb_fdiv, wb_mod, wb_pow, wb_ladd, wc_lt, wc_le, wc_gt, wc_ge, wc_eq_int, wc_ne_int, wc_eq_bl, wc_ne_bl, wc_isN_int, wc_isN_bl, wc_isN_non, wc_notN_int, wc_notN_tup, wc_notN_non, w_idxD, seq_lst, seq_tup, seq_frz, seq_0, seq_s, len_lst, len_tup, isLoc_int, isLoc_lst, isLoc_tup, ok_ite, mkQ_eq, tss_nil, tss_cons, bindT, bindTs, wipeE, List.zip_nil_left, List.zip_nil_right, List.zip_cons_cons, List.map_nil, List.map_cons, List.nil_append, List.cons_append, List.length_nil, List.length_cons, List.replicate_zero, List.replicate_succ, List.set_cons_zero, List.set_cons_succ, Nat.reduceAdd, Nat.reduceSub, Bool.false_eq_true, Bool.true_eq_false, if_true, if_false, ite_true, ite_false, idxQ_0, idxQ_1, idxQ_2, idxQ_3, idxQ_4, idxQ_5, idxQ_6, idxQ_7, idxQ_8, idxQ_9, idxQ_10, idxQ_11, putQ_0, putQ_1, putQ_2, putQ_3, putQ_4, putQ_5])
  refine ok_one (ok_ret ?_)
  (try simp only [ok_ok, ok_bind, ok_os, oks_ok, after1_nx, after1_rt, after1_bk, after1_ct, w_con, w_var, varQ_z, varQ_s, w_bin, w_neg, negQ_int, w_not, notQ_bl, w_band, andQ_bl, w_bor, orQ_bl, w_cmp, w_ite, w_tup, w_lst, w_lnew, w_idx, w_slc, w_evo_none, w_evo_some, intQ_int, w_call, w_blt, w_app, w_bitl, bitQ_int, wt_bitl, wi_bitl, wb_shl, w_nil, w_cons,
wt_con, wt_var, wt_bin, wt_neg, wt_cmp, wt_cmp2, wt_tup, wt_lst, wt_lnew, wt_idx, wt_slc, wt_call, wt_blt, wt_lc, wt_app, wi_con, wi_var, wi_bin, wi_neg, wi_cmp, wi_cmp2, wi_tup, wi_lst, wi_lnew, wi_idx, wi_slc, wi_call, wi_blt, wi_lc, wi_app, seqQ_tup, seqQ_lst, seqQ_frz, seqQ_loc, tt_not, tt_band, tt_bor, tt_ite, tstQ_bl, tstQ_non, tstQ_int, tstQ_lst, tstQ_tup, wi_rng, rngQ_int, wi_rng2, rng2Q_int, w_lc,
wF_lt, wF_le, wF_gt, wF_ge, wF_isN, wF_notN, wF_eq_int, wF_eq_bl, wF_eq_str, wF_eq_tup, wF_eq_lst, wF_eq_frz, wF_eq_non, wF_ne_int, wF_ne_bl, wF_ne_str, wF_ne_tup, wF_ne_lst, wF_ne_frz, wF_ne_non, wF_isIn_tup, wF_isIn_lst, wF_isIn_frz, wF_notIn_tup, wF_notIn_lst, wF_notIn_frz, wF_eq_ins, wF_eq_insT, wF_eq_insN, wF_eq_insI, wF_ne_ins, wF_bol_ins, blQ_bl, w_bol, wt_bol, wt_lc2, wi_lc2, wbF_int, wbF_lst, wbF_tup, wbF_str, wb_add, wb_sub, wb_mul, wb_fdiv, wb_mod, wb_pow, wb_ladd, wc_lt, wc_le, wc_gt, wc_ge, wc_eq_int, wc_ne_int, wc_eq_bl, wc_ne_bl, wc_isN_int, wc_isN_bl, wc_isN_non, wc_notN_int, wc_notN_tup, wc_notN_non, w_idxD, seq_lst, seq_tup, seq_frz, seq_0, seq_s, len_lst, len_tup, isLoc_int, isLoc_lst, isLoc_tup, ok_ite, mkQ_eq, tss_nil, tss_cons, bindT, bindTs, wipeE, List.zip_nil_left, List.zip_nil_right, List.zip_cons_cons, List.map_nil, List.map_cons, List.nil_append, List.cons_append, List.length_nil, List.length_cons, List.replicate_zero, List.replicate_succ, List.set_cons_zero, List.set_cons_succ, Nat.reduceAdd, Nat.reduceSub, Bool.false_eq_true, Bool.true_eq_false, if_true, if_false, ite_true, ite_false, idxQ_0, idxQ_1, idxQ_2, idxQ_3, idxQ_4, idxQ_5, idxQ_6, idxQ_7, idxQ_8, idxQ_9, idxQ_10, idxQ_11, putQ_0, putQ_1, putQ_2, putQ_3, putQ_4, putQ_5])
  by_cases hb : 0 ≤ b
  · rw [if_pos (decide_eq_true hb)]
    rw [if_pos hb] at q
    rw [fin_plain rfl (Nat.le_refl _)]
    exact q
  · rw [if_neg (by simpa using hb)]
    rw [if_neg hb] at q
    rw [fin_plain rfl (Nat.le_refl _)]
    exact q
/-- what is left of a number behind its floor -/
theorem rest_sign {a b w r : Int} (h : Rt r) (hw : IsRt (r * b * b) w) : 0 ≤ sgn (valP r (a - flP (a, b) w, b)) ∧ sgn (valP r (a - flP (a, b) w - 1, b)) < 0 := by
  have hr := rt_pos h
  obtain ⟨w0, w1, w2⟩ := hw
  have sp : ∀ v : Int, 0 ≤ v → 0 ≤ sgn v := fun v hv => by unfold sgn; split <;> first | decide | (split <;> omega)
  have sn : ∀ v : Int, v < 0 → sgn v < 0 := fun v hv => by unfold sgn; rw [if_neg (by omega), if_pos hv]; decide
  unfold flP valP
  dsimp only
  by_cases hb : 0 ≤ b
  · rw [if_pos hb]
    have eb : (b.natAbs : Int) = b := by omega
    have e1 : a - (a + w) = -w := by omega
    have e2 : a - (a + w) - 1 = -(w + 1) := by omega
    have n1 : ((-w).natAbs : Int) = w := by omega
    have n2 : ((-(w + 1)).natAbs : Int) = w + 1 := by omega
    rw [e2, e1, eb, n1, n2]
    have g1 : -w * w = -(w * w) := by grind
    have g2 : -(w + 1) * (w + 1) = -((w + 1) * (w + 1)) := by grind
    rw [g1, g2]
    exact ⟨sp _ (by omega), sn _ (by omega)⟩
  · rw [if_neg hb]
    have eb : (b.natAbs : Int) = -b := by omega
    have e1 : a - (a - w - 1) = w + 1 := by omega
    have e2 : w + 1 - 1 = w := by omega
    have n1 : ((w + 1).natAbs : Int) = w + 1 := by omega
    have n2 : (w.natAbs : Int) = w := by omega
    rw [e1, e2, eb, n1, n2]
    have g1 : r * b * -b = -(r * b * b) := by grind
    rw [g1]
    have ne : w * w ≠ r * b * b := fun e => by have := irr h e; omega
    exact ⟨sp _ (by omega), sn _ (by omega)⟩
end
end GY

namespace GY
/-! ### forms a x² + 2 b x y + c y² -/
structure Fm where
  a : Int
  b : Int
  c : Int
def Fm.at_ (f : Fm) (x y : Int) : Int := f.a * x * x + 2 * f.b * x * y + f.c * y * y
def Fm.mid (f : Fm) (p q : Pr) : Int := f.a * p.1 * q.1 + f.b * (p.1 * q.2 + p.2 * q.1) + f.c * p.2 * q.2
/-- the form by other two vectors -/
def Fm.by_ (f : Fm) (p q : Pr) : Fm := ⟨f.at_ p.1 p.2, f.mid p q, f.at_ q.1 q.2⟩
def Fm.ok (f : Fm) : Prop := 0 < f.a ∧ f.b * f.b < f.a * f.c
def unit (p q : Pr) : Prop := p.1 * q.2 - p.2 * q.1 = 1 ∨ p.1 * q.2 - p.2 * q.1 = -1
def Fm.red (f : Fm) : Prop := 0 < f.a ∧ 0 ≤ f.b ∧ 2 * f.b ≤ f.a ∧ f.a ≤ f.c
theorem mul_nn {x y : Int} (a : 0 ≤ x) (b : 0 ≤ y) : 0 ≤ x * y := Int.mul_nonneg a b
theorem sq_nn (x : Int) : 0 ≤ x * x := by
  rcases Int.le_total 0 x with z | z
  · exact Int.mul_nonneg z z
  · have := Int.mul_nonneg (show 0 ≤ -x by omega) (show 0 ≤ -x by omega)
    have e : -x * -x = x * x := by grind
    omega
theorem sq_pos {x : Int} (h : x ≠ 0) : 1 ≤ x * x := by
  rcases Int.lt_or_gt_of_ne h with z | z
  · have := Int.mul_pos (show 0 < -x by omega) (show 0 < -x by omega)
    have e : -x * -x = x * x := by grind
    omega
  · have := Int.mul_pos z z; omega
/-- for naturals u, v: the least value off the axis -/
theorem red_aux {a b c u v : Int} (h0 : 0 < a) (h1 : 0 ≤ b) (h2 : 2 * b ≤ a) (h3 : a ≤ c) (hu : 0 ≤ u) (hv : 1 ≤ v) : c ≤ a * u * u - 2 * b * u * v + c * v * v := by
  have k1 : 2 * b * u * v ≤ a * u * v := by
    have e1 : 2 * b * u * v = 2 * b * (u * v) := by grind
    have e2 : a * u * v = a * (u * v) := by grind
    rw [e1, e2]
    exact Int.mul_le_mul_of_nonneg_right h2 (mul_nn hu (by omega))
  by_cases huv : v ≤ u
  · -- a u (u - v) + c v v
    have e : a * u * u - a * u * v = a * u * (u - v) := by grind
    have p : 0 ≤ a * u * (u - v) := mul_nn (mul_nn (by omega) hu) (by omega)
    have e2 : c * v * v = c * (v * v) := by grind
    have v2 : 1 ≤ v * v := sq_pos (by omega)
    have p2 : c * 1 ≤ c * (v * v) := Int.mul_le_mul_of_nonneg_left v2 (by omega)
    omega
  · -- u < v : c v (v - u) + (c - a) u v + a u u
    have e : a * u * u - a * u * v + c * v * v = c * v * (v - u) + (c - a) * (u * v) + a * (u * u) := by grind
    have p1 : 0 ≤ (c - a) * (u * v) := mul_nn (by omega) (mul_nn hu (by omega))
    have p2 : 0 ≤ a * (u * u) := mul_nn (by omega) (sq_nn u)
    have v1 : 1 ≤ v * (v - u) := by
      have := Int.mul_le_mul_of_nonneg_left (show 1 ≤ v - u by omega) (show 0 ≤ v by omega)
      omega
    have e3 : c * v * (v - u) = c * (v * (v - u)) := by grind
    have p3 : c * 1 ≤ c * (v * (v - u)) := Int.mul_le_mul_of_nonneg_left v1 (by omega)
    omega
theorem Fm.red_y {f : Fm} (h : f.red) {x y : Int} (hy : y ≠ 0) : f.c ≤ f.at_ x y := by
  obtain ⟨h0, h1, h2, h3⟩ := h
  obtain ⟨a, b, c⟩ := f
  dsimp only at h0 h1 h2 h3 ⊢
  unfold Fm.at_
  dsimp only
  have ex : (x.natAbs : Int) * x.natAbs = x * x := by rcases (show (x.natAbs : Int) = x ∨ (x.natAbs : Int) = -x by omega) with z | z <;> rw [z] <;> grind
  have ey : (y.natAbs : Int) * y.natAbs = y * y := by rcases (show (y.natAbs : Int) = y ∨ (y.natAbs : Int) = -y by omega) with z | z <;> rw [z] <;> grind
  have exy : -((x.natAbs : Int) * y.natAbs) ≤ x * y := by
    rcases (show (x.natAbs : Int) = x ∨ (x.natAbs : Int) = -x by omega) with z | z <;> rcases (show (y.natAbs : Int) = y ∨ (y.natAbs : Int) = -y by omega) with w | w <;> rw [z, w]
    · have := mul_nn (show 0 ≤ x by omega) (show 0 ≤ y by omega); omega
    · have e : x * -y = -(x * y) := by grind
      omega
    · have e : -x * y = -(x * y) := by grind
      omega
    · have := mul_nn (show 0 ≤ -x by omega) (show 0 ≤ -y by omega)
      have e : -x * -y = x * y := by grind
      omega
  have := red_aux (u := x.natAbs) (v := y.natAbs) h0 h1 h2 h3 (by omega) (by omega)
  have e1 : a * (x.natAbs : Int) * x.natAbs = a * x * x := by rw [Int.mul_assoc, ex, Int.mul_assoc]
  have e2 : c * (y.natAbs : Int) * y.natAbs = c * y * y := by rw [Int.mul_assoc, ey, Int.mul_assoc]
  have e3 : 2 * b * (x.natAbs : Int) * y.natAbs = 2 * b * ((x.natAbs : Int) * y.natAbs) := by grind
  have e4 : 2 * b * x * y = 2 * b * (x * y) := by grind
  have k := Int.mul_le_mul_of_nonneg_left exy (show 0 ≤ 2 * b by omega)
  have e5 : 2 * b * -((x.natAbs : Int) * y.natAbs) = -(2 * b * ((x.natAbs : Int) * y.natAbs)) := by grind
  rw [e1, e2, e3] at this
  rw [e4]
  omega
theorem Fm.red_any {f : Fm} (h : f.red) {x y : Int} (hxy : x ≠ 0 ∨ y ≠ 0) : f.a ≤ f.at_ x y := by
  by_cases hy : y = 0
  · subst hy
    have hx : x ≠ 0 := by omega
    have e : f.at_ x 0 = f.a * (x * x) := by unfold Fm.at_; grind
    rw [e]
    have := Int.mul_le_mul_of_nonneg_left (sq_pos hx) (show 0 ≤ f.a by have := h.1; omega)
    omega
  · have := Fm.red_y (f := f) h (x := x) hy
    have := h.2.2.2
    omega
/-- two reduced forms of one class are one form -/
theorem Fm.by_at (f : Fm) (p q : Pr) (x y : Int) : (f.by_ p q).at_ x y = f.at_ (x * p.1 + y * q.1) (x * p.2 + y * q.2) := by
  unfold Fm.by_ Fm.at_ Fm.mid
  dsimp only
  grind
theorem Fm.by_by (f : Fm) (p q u v : Pr) : (f.by_ p q).by_ u v = f.by_ (u.1 * p.1 + u.2 * q.1, u.1 * p.2 + u.2 * q.2) (v.1 * p.1 + v.2 * q.1, v.1 * p.2 + v.2 * q.2) := by
  unfold Fm.by_ Fm.at_ Fm.mid
  dsimp only
  congr 1 <;> grind
theorem Fm.disc (f : Fm) {p q : Pr} (h : unit p q) : (f.by_ p q).a * (f.by_ p q).c - (f.by_ p q).b * (f.by_ p q).b = f.a * f.c - f.b * f.b := by
  have e : (f.by_ p q).a * (f.by_ p q).c - (f.by_ p q).b * (f.by_ p q).b = (f.a * f.c - f.b * f.b) * ((p.1 * q.2 - p.2 * q.1) * (p.1 * q.2 - p.2 * q.1)) := by
    unfold Fm.by_ Fm.at_ Fm.mid
    dsimp only
    grind
  rw [e]
  rcases h with h | h <;> rw [h] <;> omega
theorem Fm.low {f : Fm} (h : f.red) {p q : Pr} (u : unit p q) (g : (f.by_ p q).red) : f.a ≤ (f.by_ p q).a ∧ f.c ≤ (f.by_ p q).c := by
  have np : p.1 ≠ 0 ∨ p.2 ≠ 0 := Classical.byContradiction fun z => by
    have z1 : p.1 = 0 := by omega
    have z2 : p.2 = 0 := by omega
    unfold unit at u
    rw [z1, z2] at u
    simp at u
  have a1 : f.a ≤ (f.by_ p q).a := Fm.red_any (f := f) h np
  refine ⟨a1, ?_⟩
  by_cases hs : q.2 = 0
  · have p2 : p.2 ≠ 0 := fun z => by
      unfold unit at u
      rw [z, hs] at u
      simp at u
    have c1 : f.c ≤ (f.by_ p q).a := Fm.red_y (f := f) h p2
    have := g.2.2.2
    omega
  · exact Fm.red_y (f := f) h hs
/-- the way back -/
theorem Fm.back (f : Fm) {p q : Pr} (u : unit p q) : ∃ p' q', unit p' q' ∧ (f.by_ p q).by_ p' q' = f := by
  unfold unit at u
  rcases u with u | u
  · refine ⟨(q.2, -p.2), (-q.1, p.1), .inl (by dsimp only; grind), ?_⟩
    rw [Fm.by_by]
    have e1 : q.2 * p.1 + -p.2 * q.1 = 1 := by grind
    have e2 : q.2 * p.2 + -p.2 * q.2 = 0 := by grind
    have e3 : -q.1 * p.1 + p.1 * q.1 = 0 := by grind
    have e4 : -q.1 * p.2 + p.1 * q.2 = 1 := by grind
    dsimp only
    rw [e1, e2, e3, e4]
    unfold Fm.by_ Fm.at_ Fm.mid
    cases f
    simp
  · refine ⟨(-q.2, p.2), (q.1, -p.1), .inr (by dsimp only; grind), ?_⟩
    rw [Fm.by_by]
    have e1 : -q.2 * p.1 + p.2 * q.1 = 1 := by grind
    have e2 : -q.2 * p.2 + p.2 * q.2 = 0 := by grind
    have e3 : q.1 * p.1 + -p.1 * q.1 = 0 := by grind
    have e4 : q.1 * p.2 + -p.1 * q.2 = 1 := by grind
    dsimp only
    rw [e1, e2, e3, e4]
    unfold Fm.by_ Fm.at_ Fm.mid
    cases f
    simp
theorem Fm.uniq {f : Fm} (h : f.red) {p q : Pr} (u : unit p q) (g : (f.by_ p q).red) : f.by_ p q = f := by
  obtain ⟨a1, c1⟩ := Fm.low h u g
  obtain ⟨p', q', u', e'⟩ := f.back u
  have l2 := Fm.low (f := f.by_ p q) g u' (by rw [e']; exact h)
  rw [e'] at l2
  have d := f.disc u
  have ea : (f.by_ p q).a = f.a := by omega
  have ec : (f.by_ p q).c = f.c := by omega
  rw [ea, ec] at d
  have eb : (f.by_ p q).b * (f.by_ p q).b = f.b * f.b := by omega
  have b0 := g.2.1
  have b1 := h.2.1
  have eb2 : (f.by_ p q).b = f.b := by
    generalize (f.by_ p q).b = x at eb b0
    generalize f.b = y at eb b1
    rcases Int.lt_trichotomy x y with z | z | z
    · have h1 : x * x ≤ x * y := Int.mul_le_mul_of_nonneg_left (by omega) b0
      have h2 : x * y < y * y := Int.mul_lt_mul_of_pos_right z (by omega)
      omega
    · exact z
    · have h1 : y * y ≤ y * x := Int.mul_le_mul_of_nonneg_left (by omega) b1
      have h2 : y * x < x * x := Int.mul_lt_mul_of_pos_right z (by omega)
      omega
  cases hf : f.by_ p q with
  | mk a b c =>
    rw [hf] at ea ec eb2
    cases f
    dsimp only at ea ec eb2
    subst ea ec eb2
    rfl
end GY

namespace GY
/-! ### the steps of the reduction -/
theorem shift_ok {a b c : Int} (ha : 0 < a) (hd : b * b < a * c) (hb : a < 2 * (b.natAbs : Int)) :
    ∃ t : Int, t = (2 * b + a) / (2 * a) ∧ b * b < a * c ∧ (b - t * a) * (b - t * a) < a * (c - 2 * t * b + t * t * a) ∧ c - 2 * t * b + t * t * a < c ∧ 2 * ((b - t * a).natAbs : Int) ≤ a := by
  refine ⟨_, rfl, hd, ?_⟩
  have q1 : (2 * b + a) / (2 * a) * (2 * a) ≤ 2 * b + a := Int.ediv_mul_le _ (by omega)
  have q2 : 2 * b + a < ((2 * b + a) / (2 * a) + 1) * (2 * a) := Int.lt_ediv_add_one_mul_self _ (by omega)
  generalize (2 * b + a) / (2 * a) = t at q1 q2
  have e1 : t * (2 * a) = 2 * (t * a) := by grind
  have e2 : (t + 1) * (2 * a) = 2 * (t * a) + 2 * a := by grind
  rw [e1] at q1
  rw [e2] at q2
  have hab : 2 * ((b - t * a).natAbs : Int) ≤ a := by omega
  have hlt : ((b - t * a).natAbs : Int) < (b.natAbs : Int) := by omega
  have sq : ∀ z : Int, (z.natAbs : Int) * z.natAbs = z * z := fun z => by rcases (show (z.natAbs : Int) = z ∨ (z.natAbs : Int) = -z by omega) with w | w <;> rw [w] <;> grind
  have hsq : (b - t * a) * (b - t * a) < b * b := by
    rw [← sq (b - t * a), ← sq b]
    have h1 := Int.mul_le_mul_of_nonneg_left (show ((b - t * a).natAbs : Int) ≤ (b.natAbs : Int) by omega) (show 0 ≤ ((b - t * a).natAbs : Int) by omega)
    have h2 := Int.mul_lt_mul_of_pos_right hlt (show 0 < (b.natAbs : Int) by omega)
    omega
  have e3 : a * (c - 2 * t * b + t * t * a) = a * c - b * b + (b - t * a) * (b - t * a) := by grind
  refine ⟨by omega, ?_, hab⟩
  refine Classical.byContradiction fun z => ?_
  have z : c ≤ c - 2 * t * b + t * t * a := by omega
  have := Int.mul_le_mul_of_nonneg_left z (show 0 ≤ a by omega)
  omega
theorem Fm.shift (f : Fm) (p q : Pr) (t : Int) : f.by_ p (q.1 - p.1 * t, q.2 - p.2 * t) = ⟨(f.by_ p q).a, (f.by_ p q).b - t * (f.by_ p q).a, (f.by_ p q).c - 2 * t * (f.by_ p q).b + t * t * (f.by_ p q).a⟩ := by
  unfold Fm.by_ Fm.at_ Fm.mid
  dsimp only
  congr 1 <;> grind
theorem unit_shift {p q : Pr} (t : Int) (u : unit p q) : unit p (q.1 - p.1 * t, q.2 - p.2 * t) := by
  unfold unit at *
  dsimp only
  have e : p.1 * (q.2 - p.2 * t) - p.2 * (q.1 - p.1 * t) = p.1 * q.2 - p.2 * q.1 := by grind
  rw [e]; exact u
theorem Fm.swap (f : Fm) (p q : Pr) : f.by_ q p = ⟨(f.by_ p q).c, (f.by_ p q).b, (f.by_ p q).a⟩ := by
  unfold Fm.by_ Fm.at_ Fm.mid
  dsimp only
  congr 1
  grind
theorem unit_swap {p q : Pr} (u : unit p q) : unit q p := by
  unfold unit at *
  have e : q.1 * p.2 - q.2 * p.1 = -(p.1 * q.2 - p.2 * q.1) := by grind
  rw [e]
  omega
theorem Fm.turn (f : Fm) (p q : Pr) : f.by_ p (q.1 * -1, q.2 * -1) = ⟨(f.by_ p q).a, -(f.by_ p q).b, (f.by_ p q).c⟩ := by
  unfold Fm.by_ Fm.at_ Fm.mid
  dsimp only
  congr 1 <;> grind
theorem unit_turn {p q : Pr} (u : unit p q) : unit p (q.1 * -1, q.2 * -1) := by
  unfold unit at *
  dsimp only
  have e : p.1 * (q.2 * -1) - p.2 * (q.1 * -1) = -(p.1 * q.2 - p.2 * q.1) := by grind
  rw [e]
  omega
/-- how far a vector of a small value goes -/
theorem Fm.near {f : Fm} (h : f.ok) (x y : Int) : y * y ≤ f.a * f.at_ x y ∧ x * x ≤ f.c * f.at_ x y := by
  obtain ⟨a, b, c⟩ := f
  obtain ⟨h0, h1⟩ := h
  unfold Fm.at_
  dsimp only at h0 h1 ⊢
  have e1 : a * (a * x * x + 2 * b * x * y + c * y * y) = (a * x + b * y) * (a * x + b * y) + (a * c - b * b) * (y * y) := by grind
  have e2 : c * (a * x * x + 2 * b * x * y + c * y * y) = (b * x + c * y) * (b * x + c * y) + (a * c - b * b) * (x * x) := by grind
  rw [e1, e2]
  have s1 := sq_nn (a * x + b * y)
  have s2 := sq_nn (b * x + c * y)
  have d : 1 ≤ a * c - b * b := by omega
  have m1 := Int.mul_le_mul_of_nonneg_right d (sq_nn y)
  have m2 := Int.mul_le_mul_of_nonneg_right d (sq_nn x)
  omega
end GY

namespace GY
theorem unit_mul {p q u v : Pr} (h : unit p q) (g : unit u v) : unit (u.1 * p.1 + u.2 * q.1, u.1 * p.2 + u.2 * q.2) (v.1 * p.1 + v.2 * q.1, v.1 * p.2 + v.2 * q.2) := by
  unfold unit at *
  dsimp only
  have e : (u.1 * p.1 + u.2 * q.1) * (v.1 * p.2 + v.2 * q.2) - (u.1 * p.2 + u.2 * q.2) * (v.1 * p.1 + v.2 * q.1) = (p.1 * q.2 - p.2 * q.1) * (u.1 * v.2 - u.2 * v.1) := by grind
  rw [e]
  rcases h with h | h <;> rcases g with g | g <;> rw [h, g] <;> decide
theorem unit_ne {p q : Pr} (u : unit p q) {x y : Int} (h : x ≠ 0 ∨ y ≠ 0) : x * p.1 + y * q.1 ≠ 0 ∨ x * p.2 + y * q.2 ≠ 0 := by
  refine Classical.byContradiction fun z => ?_
  have z1 : x * p.1 + y * q.1 = 0 := by omega
  have z2 : x * p.2 + y * q.2 = 0 := by omega
  have e1 : x * (p.1 * q.2 - p.2 * q.1) = 0 := by grind
  have e2 : y * (p.1 * q.2 - p.2 * q.1) = 0 := by grind
  unfold unit at u
  rcases u with u | u <;> rw [u] at e1 e2 <;> omega
theorem Fm.same {f g g' : Fm} {p q r s : Pr} (u : unit p q) (v : unit r s) (e : f.by_ p q = g) (hg : g.red) (e' : f.by_ r s = g') (hg' : g'.red) : g' = g := by
  obtain ⟨p', q', u', w⟩ := f.back u
  rw [e] at w
  rw [← w, Fm.by_by] at e'
  rw [← e']
  exact Fm.uniq hg (unit_mul u' v) (by rw [e']; exact hg')
theorem Fm.least {f g : Fm} {p q : Pr} (u : unit p q) (e : f.by_ p q = g) (hg : g.red) {x y : Int} (h : x ≠ 0 ∨ y ≠ 0) : g.a ≤ f.at_ x y := by
  obtain ⟨p', q', u', w⟩ := f.back u
  rw [e] at w
  rw [← w, Fm.by_at]
  exact Fm.red_any hg (unit_ne u' h)
theorem Fm.by_ok {f : Fm} (h : f.ok) {p q : Pr} (u : unit p q) : (f.by_ p q).ok := by
  have d := f.disc u
  have n := Fm.near h p.1 p.2
  have hc : 0 < f.c := by
    obtain ⟨h0, h1⟩ := h
    refine Classical.byContradiction fun z => ?_
    have := Int.mul_le_mul_of_nonneg_left (show f.c ≤ 0 by omega) (show 0 ≤ f.a by omega)
    have := sq_nn f.b
    omega
  refine ⟨?_, by have := h.2; omega⟩
  show 0 < f.at_ p.1 p.2
  refine Classical.byContradiction fun z => ?_
  have m1 := Int.mul_le_mul_of_nonneg_left (show f.at_ p.1 p.2 ≤ 0 by omega) (show 0 ≤ f.a by have := h.1; omega)
  have m2 := Int.mul_le_mul_of_nonneg_left (show f.at_ p.1 p.2 ≤ 0 by omega) (show 0 ≤ f.c by omega)
  have z1 : p.1 = 0 := Classical.byContradiction fun w => by have := sq_pos w; omega
  have z2 : p.2 = 0 := Classical.byContradiction fun w => by have := sq_pos w; omega
  unfold unit at u
  rw [z1, z2] at u
  simp at u
theorem Fm.red_ok {f : Fm} (h : f.red) : f.ok := by
  obtain ⟨h0, h1, h2, h3⟩ := h
  refine ⟨h0, ?_⟩
  have m1 := Int.mul_le_mul_of_nonneg_left h3 (show 0 ≤ f.a by omega)
  have m2 := Int.mul_le_mul_of_nonneg_left (show f.b ≤ f.a - f.b by omega) h1
  have m3 := Int.mul_le_mul_of_nonneg_right (show f.b ≤ f.a - f.b by omega) (show 0 ≤ f.a by omega)
  by_cases e : f.b = 0
  · rw [e]; have := Int.mul_pos h0 (show 0 < f.c by omega); omega
  · have m4 := Int.mul_pos h0 (show 0 < f.b by omega)
    have e1 : f.b * (f.a - f.b) = f.b * f.a - f.b * f.b := by grind
    have e2 : (f.a - f.b) * f.a = f.a * f.a - f.b * f.a := by grind
    have e3 : f.a * f.b = f.b * f.a := by grind
    omega
end GY

namespace GY
open PySem PySem.Spec PyProof.Rows L2
section
variable {P : Nat → Option Fd} {i j m n N k : Nat} {h : Hs} {ob : Ob} {Q : D → Hs → Prop}
theorem sq_sm {k : Nat} {x v : Int} (h : x * x ≤ v) (hv : v < 2 ^ k) : Sm k x := by
  have s := sq_nn x
  have l : x ≤ x * x ∧ -x ≤ x * x := by
    by_cases z : x = 0
    · subst z; decide
    · rcases Int.lt_or_gt_of_ne z with w | w
      · have := Int.mul_le_mul_of_nonneg_left (show 1 ≤ -x by omega) (show 0 ≤ -x by omega)
        have e : -x * -x = x * x := by grind
        omega
      · have := Int.mul_le_mul_of_nonneg_left (show 1 ≤ x by omega) (show 0 ≤ x by omega)
        omega
  exact Sm.of k (by omega) (by omega)
def fdReduced (l s xc wf : Nat) : Fd where
  npos := 1
  pdf := []
  kdf := []
  star := false
  fresh := false
  ns := 7
  body :=
   [.asg (.tp [.nm 1, .nm 2, .nm 3]) (.var 0),
    .ifs (.bor (.cmp .le (.var 1) (.con (.int 0))) (.cmp .le (.bin .mul (.var 1) (.var 3)) (.bin .mul (.var 2) (.var 2))))
      [.rse0 xc wf "BadForm"]
      [],
    .asg (.tp [.nm 4, .nm 5]) (.tup [.tup [.con (.int 1), .con (.int 0)], .tup [.con (.int 0), .con (.int 1)]]),
    .whl (.bor (.cmp .gt (.bin .mul (.con (.int 2)) (.blt .abs_ [.var 2])) (.var 1)) (.cmp .gt (.var 1) (.var 3)))
      [.ifs (.cmp .gt (.bin .mul (.con (.int 2)) (.blt .abs_ [.var 2])) (.var 1))
         [.asg (.nm 6) (.bin .fdiv (.bin .add (.bin .mul (.con (.int 2)) (.var 2)) (.var 1)) (.bin .mul (.con (.int 2)) (.var 1))),
          .asg (.nm 5) (.call l [.var 5, .call s [.var 4, .var 6] [] []] [] []),
          .par [2, 3] [.bin .sub (.var 2) (.bin .mul (.var 6) (.var 1)), .bin .add (.bin .sub (.var 3) (.bin .mul (.bin .mul (.con (.int 2)) (.var 6)) (.var 2))) (.bin .mul (.bin .mul (.var 6) (.var 6)) (.var 1))]]
         [.asg (.tp [.nm 4, .nm 5, .nm 1, .nm 3]) (.tup [.var 5, .var 4, .var 3, .var 1])]],
    .ifs (.cmp .lt (.var 2) (.con (.int 0)))
      [.par [2, 5] [.neg (.var 2), .call s [.var 5, .neg (.con (.int 1))] [] []]]
      [],
    .ret (.tup [.tup [.var 1, .var 2, .var 3], .var 4, .var 5])]
/-- what the loop keeps -/
structure RI (f0 : Fm) (a b c : Int) (p q : Pr) : Prop where
  u : unit p q
  e : f0.by_ p q = ⟨a, b, c⟩
  ha : 0 < a
  hd : b * b < a * c
  ba : a ≤ 2 ^ 100
  bc : c ≤ 2 ^ 100
theorem RI.c0 {f0 : Fm} {a b c : Int} {p q : Pr} (x : RI f0 a b c p q) : 0 < c := Classical.byContradiction fun z => by
  have := sq_nn b
  have := Int.mul_le_mul_of_nonneg_left (show c ≤ 0 by omega) (show 0 ≤ a by have := x.ha; omega)
  have := x.hd
  omega
theorem mul_le_pow {x y : Int} (x0 : 0 ≤ x) (y0 : 0 ≤ y) (hx : x ≤ 2 ^ 100) (hy : y ≤ 2 ^ 100) : x * y < 2 ^ 201 := by
  have := Int.mul_le_mul hx hy y0 (by decide)
  have e : (2 : Int) ^ 100 * 2 ^ 100 = 2 ^ 200 := by decide +kernel
  have e2 : (2 : Int) ^ 200 < 2 ^ 201 := by decide +kernel
  omega
theorem RI.sms {f0 : Fm} (ok : f0.ok) (b1 : f0.a ≤ 2 ^ 100) (b2 : f0.c ≤ 2 ^ 100) {a b c : Int} {p q : Pr} (x : RI f0 a b c p q) : Sm 101 a ∧ Sm 201 b ∧ Sm 101 c ∧ SmP 201 p ∧ SmP 201 q := by
  have c0 := x.c0
  have ha := x.ha
  have ba := x.ba
  have bc := x.bc
  have h0 := ok.1
  have hc0 : 0 < f0.c := Classical.byContradiction fun z => by
    have := sq_nn f0.b
    have := Int.mul_le_mul_of_nonneg_left (show f0.c ≤ 0 by omega) (show 0 ≤ f0.a by omega)
    have := ok.2
    omega
  have ep : f0.at_ p.1 p.2 = a := congrArg Fm.a x.e
  have eq : f0.at_ q.1 q.2 = c := congrArg Fm.c x.e
  have np := Fm.near ok p.1 p.2
  have nq := Fm.near ok q.1 q.2
  rw [ep] at np
  rw [eq] at nq
  have p2 : (2 : Int) ^ 100 < 2 ^ 101 := by decide +kernel
  refine ⟨Sm.of 101 (by omega) (by omega), sq_sm (Int.le_of_lt x.hd) (mul_le_pow (by omega) (by omega) ba bc), Sm.of 101 (by omega) (by omega), ⟨?_, ?_⟩, ⟨?_, ?_⟩⟩
  · exact sq_sm np.2 (mul_le_pow (by omega) (by omega) b2 ba)
  · exact sq_sm np.1 (mul_le_pow (by omega) (by omega) b1 ba)
  · exact sq_sm nq.2 (mul_le_pow (by omega) (by omega) b2 bc)
  · exact sq_sm nq.1 (mul_le_pow (by omega) (by omega) b1 bc)
end
end GY

namespace GY
open PySem PySem.Spec PyProof.Rows L2
variable {XQ : D → Hs → Prop}
section
variable {P : Nat → Option Fd} {i j m n N k : Nat} {h : Hs} {ob : Ob} {Q : D → Hs → Prop}
theorem reduced_ok {l s xc wf : Nat} (hP : P i = some (fdReduced l s xc wf)) (hL : P l = some fdMinus) (hS : P s = some fdScaled) {f0 : Fm} (ok : f0.ok) (b1 : f0.a ≤ 2 ^ 100) (b2 : f0.c ≤ 2 ^ 100)
    (hQ : ∀ (g : Fm) (p q : Pr), unit p q → f0.by_ p q = g → g.red → SmP 201 p → SmP 202 q → Q (.tup [.tup [.int g.a, .int g.b, .int g.c], pr p, pr q]) h) :
    OkV XQ (callN P (k + 2) i [.tup [.int f0.a, .int f0.b, .int f0.c]] [] h) Q := by
  have R0 : RI f0 f0.a f0.b f0.c (1, 0) (0, 1) := ⟨.inl (by decide), by unfold Fm.by_ Fm.at_ Fm.mid; cases f0; simp, ok.1, ok.2, b1, b2⟩
  obtain ⟨sa0, sb0, sc0, _, _⟩ := R0.sms ok b1 b2
  refine ok_call hP rfl ?_
  simp only [fdReduced]
  refine ok_cons (ok_asgT ?_)
  (try simp only [ok_ok, ok_bind, ok_os, oks_ok, after1_nx, after1_rt, after1_bk, after1_ct, w_con, w_var, varQ_z, varQ_s, w_bin, w_neg, negQ_int, w_not, notQ_bl, w_band, andQ_bl, w_bor, orQ_bl, w_cmp, w_ite, w_tup, w_lst, w_lnew, w_idx, w_slc, w_evo_none, w_evo_some, intQ_int, w_call, w_blt, w_app, w_bitl, bitQ_int, wt_bitl, wi_bitl, wb_shl, w_nil, w_cons,
wt_con, wt_var, wt_bin, wt_neg, wt_cmp, wt_cmp2, wt_tup, wt_lst, wt_lnew, wt_idx, wt_slc, wt_call, wt_blt, wt_lc, wt_app, wi_con, wi_var, wi_bin, wi_neg, wi_cmp, wi_cmp2, wi_tup, wi_lst, wi_lnew, wi_idx, wi_slc, wi_call, wi_blt, wi_lc, wi_app, seqQ_tup, seqQ_lst, seqQ_frz, seqQ_loc, tt_not, tt_band, tt_bor, tt_ite, tstQ_bl, tstQ_non, tstQ_int, tstQ_lst, tstQ_tup, wi_rng, rngQ_int, wi_rng2, rng2Q_int, w_lc,
wF_lt, wF_le, wF_gt, wF_ge, wF_isN, wF_notN, wF_eq_int, wF_eq_bl, wF_eq_str, wF_eq_tup, wF_eq_lst, wF_eq_frz, wF_eq_non, wF_ne_int, wF_ne_bl, wF_ne_str, wF_ne_tup, wF_ne_lst, wF_ne_frz, wF_ne_non, wF_isIn_tup, wF_isIn_lst, wF_isIn_frz, wF_notIn_tup, wF_notIn_lst, wF_notIn_frz, wF_eq_ins, wF_eq_insT, wF_eq_insN, wF_eq_insI, wF_ne_ins, wF_bol_ins, blQ_bl, w_bol, wt_bol, wt_lc2, wi_lc2, wbF_int, wbF_lst, wbF_tup, wbF_str, wb_add, wb_sub, wb_mul, wb_fdiv, wb_mod, wb_pow, wb_ladd, wc_lt, wc_le, wc_gt, wc_ge, wc_eq_int, wc_ne_int, wc_eq_bl, wc_ne_bl, wc_isN_int, wc_isN_bl, wc_isN_non, wc_notN_int, wc_notN_tup, wc_notN_non, w_idxD, seq_lst, seq_tup, seq_frz, seq_0, seq_s, len_lst, len_tup, isLoc_int, isLoc_lst, isLoc_tup, ok_ite, mkQ_eq, tss_nil, tss_cons, bindT, bindTs, wipeE, List.zip_nil_left, List.zip_nil_right, List.zip_cons_cons, List.map_nil, List.map_cons, List.nil_append, List.cons_append, List.length_nil, List.length_cons, List.replicate_zero, List.replicate_succ, List.set_cons_zero, List.set_cons_succ, Nat.reduceAdd, Nat.reduceSub, Bool.false_eq_true, Bool.true_eq_false, if_true, if_false, ite_true, ite_false, idxQ_0, idxQ_1, idxQ_2, idxQ_3, idxQ_4, idxQ_5, idxQ_6, idxQ_7, idxQ_8, idxQ_9, idxQ_10, idxQ_11, putQ_0, putQ_1, putQ_2, putQ_3, putQ_4, putQ_5])
  refine ⟨_, rfl, ?_⟩
  refine ok_cons (ok_skip ?_ ?_)
  · (try simp only [ok_ok, ok_bind, ok_os, oks_ok, after1_nx, after1_rt, after1_bk, after1_ct, w_con, w_var, varQ_z, varQ_s, w_bin, w_neg, negQ_int, w_not, notQ_bl, w_band, andQ_bl, w_bor, orQ_bl, w_cmp, w_ite, w_tup, w_lst, w_lnew, w_idx, w_slc, w_evo_none, w_evo_some, intQ_int, w_call, w_blt, w_app, w_bitl, bitQ_int, wt_bitl, wi_bitl, wb_shl, w_nil, w_cons,
wt_con, wt_var, wt_bin, wt_neg, wt_cmp, wt_cmp2, wt_tup, wt_lst, wt_lnew, wt_idx, wt_slc, wt_call, wt_blt, wt_lc, wt_app, wi_con, wi_var, wi_bin, wi_neg, wi_cmp, wi_cmp2, wi_tup, wi_lst, wi_lnew, wi_idx, wi_slc, wi_call, wi_blt, wi_lc, wi_app, seqQ_tup, seqQ_lst, seqQ_frz, seqQ_loc, tt_not, tt_band, tt_bor, tt_ite, tstQ_bl, tstQ_non, tstQ_int, tstQ_lst, tstQ_tup, wi_rng, rngQ_int, wi_rng2, rng2Q_int, w_lc,
wF_lt, wF_le, wF_gt, wF_ge, wF_isN, wF_notN, wF_eq_int, wF_eq_bl, wF_eq_str, wF_eq_tup, wF_eq_lst, wF_eq_frz, wF_eq_non, wF_ne_int, wF_ne_bl, wF_ne_str, wF_ne_tup, wF_ne_lst, wF_ne_frz, wF_ne_non, wF_isIn_tup, wF_isIn_lst, wF_isIn_frz, wF_notIn_tup, wF_notIn_lst, wF_notIn_frz, wF_eq_ins, wF_eq_insT, wF_eq_insN, wF_eq_insI, wF_ne_ins, wF_bol_ins, blQ_bl, w_bol, wt_bol, wt_lc2, wi_lc2, wbF_int, wbF_lst, wbF_tup, wbF_str, wb_add, wb_sub, wb_mul, wb_fdiv, wb_mod, wb_pow, wb_ladd, wc_lt, wc_le, wc_gt, wc_ge, wc_eq_int, wc_ne_int, wc_eq_bl, wc_ne_bl, wc_isN_int, wc_isN_bl, wc_isN_non, wc_notN_int, wc_notN_tup, wc_notN_non, w_idxD, seq_lst, seq_tup, seq_frz, seq_0, seq_s, len_lst, len_tup, isLoc_int, isLoc_lst, isLoc_tup, ok_ite, mkQ_eq, tss_nil, tss_cons, bindT, bindTs, wipeE, List.zip_nil_left, List.zip_nil_right, List.zip_cons_cons, List.map_nil, List.map_cons, List.nil_append, List.cons_append, List.length_nil, List.length_cons, List.replicate_zero, List.replicate_succ, List.set_cons_zero, List.set_cons_succ, Nat.reduceAdd, Nat.reduceSub, Bool.false_eq_true, Bool.true_eq_false, if_true, if_false, ite_true, ite_false, idxQ_0, idxQ_1, idxQ_2, idxQ_3, idxQ_4, idxQ_5, idxQ_6, idxQ_7, idxQ_8, idxQ_9, idxQ_10, idxQ_11, putQ_0, putQ_1, putQ_2, putQ_3, putQ_4, putQ_5])
    rw [if_neg (by have := ok.1; simp; omega)]
    refine ⟨sa0.big sc0 (by decide) (by decide), sb0.big sb0 (by decide) (by decide), ?_⟩
    exact ⟨decide_eq_false (by have := ok.2; omega), trivial⟩
  rw [after1_nx]
  refine ok_cons (ok_asgT ?_)
  (try simp only [ok_ok, ok_bind, ok_os, oks_ok, after1_nx, after1_rt, after1_bk, after1_ct, w_con, w_var, varQ_z, varQ_s, w_bin, w_neg, negQ_int, w_not, notQ_bl, w_band, andQ_bl, w_bor, orQ_bl, w_cmp, w_ite, w_tup, w_lst, w_lnew, w_idx, w_slc, w_evo_none, w_evo_some, intQ_int, w_call, w_blt, w_app, w_bitl, bitQ_int, wt_bitl, wi_bitl, wb_shl, w_nil, w_cons,
wt_con, wt_var, wt_bin, wt_neg, wt_cmp, wt_cmp2, wt_tup, wt_lst, wt_lnew, wt_idx, wt_slc, wt_call, wt_blt, wt_lc, wt_app, wi_con, wi_var, wi_bin, wi_neg, wi_cmp, wi_cmp2, wi_tup, wi_lst, wi_lnew, wi_idx, wi_slc, wi_call, wi_blt, wi_lc, wi_app, seqQ_tup, seqQ_lst, seqQ_frz, seqQ_loc, tt_not, tt_band, tt_bor, tt_ite, tstQ_bl, tstQ_non, tstQ_int, tstQ_lst, tstQ_tup, wi_rng, rngQ_int, wi_rng2, rng2Q_int, w_lc,
wF_lt, wF_le, wF_gt, wF_ge, wF_isN, wF_notN, wF_eq_int, wF_eq_bl, wF_eq_str, wF_eq_tup, wF_eq_lst, wF_eq_frz, wF_eq_non, wF_ne_int, wF_ne_bl, wF_ne_str, wF_ne_tup, wF_ne_lst, wF_ne_frz, wF_ne_non, wF_isIn_tup, wF_isIn_lst, wF_isIn_frz, wF_notIn_tup, wF_notIn_lst, wF_notIn_frz, wF_eq_ins, wF_eq_insT, wF_eq_insN, wF_eq_insI, wF_ne_ins, wF_bol_ins, blQ_bl, w_bol, wt_bol, wt_lc2, wi_lc2, wbF_int, wbF_lst, wbF_tup, wbF_str, wb_add, wb_sub, wb_mul, wb_fdiv, wb_mod, wb_pow, wb_ladd, wc_lt, wc_le, wc_gt, wc_ge, wc_eq_int, wc_ne_int, wc_eq_bl, wc_ne_bl, wc_isN_int, wc_isN_bl, wc_isN_non, wc_notN_int, wc_notN_tup, wc_notN_non, w_idxD, seq_lst, seq_tup, seq_frz, seq_0, seq_s, len_lst, len_tup, isLoc_int, isLoc_lst, isLoc_tup, ok_ite, mkQ_eq, tss_nil, tss_cons, bindT, bindTs, wipeE, List.zip_nil_left, List.zip_nil_right, List.zip_cons_cons, List.map_nil, List.map_cons, List.nil_append, List.cons_append, List.length_nil, List.length_cons, List.replicate_zero, List.replicate_succ, List.set_cons_zero, List.set_cons_succ, Nat.reduceAdd, Nat.reduceSub, Bool.false_eq_true, Bool.true_eq_false, if_true, if_false, ite_true, ite_false, idxQ_0, idxQ_1, idxQ_2, idxQ_3, idxQ_4, idxQ_5, idxQ_6, idxQ_7, idxQ_8, idxQ_9, idxQ_10, idxQ_11, putQ_0, putQ_1, putQ_2, putQ_3, putQ_4, putQ_5])
  refine ⟨by rfl, by rfl, by rfl, _, rfl, ?_⟩
  (try simp only [ok_ok, ok_bind, ok_os, oks_ok, after1_nx, after1_rt, after1_bk, after1_ct, w_con, w_var, varQ_z, varQ_s, w_bin, w_neg, negQ_int, w_not, notQ_bl, w_band, andQ_bl, w_bor, orQ_bl, w_cmp, w_ite, w_tup, w_lst, w_lnew, w_idx, w_slc, w_evo_none, w_evo_some, intQ_int, w_call, w_blt, w_app, w_bitl, bitQ_int, wt_bitl, wi_bitl, wb_shl, w_nil, w_cons,
wt_con, wt_var, wt_bin, wt_neg, wt_cmp, wt_cmp2, wt_tup, wt_lst, wt_lnew, wt_idx, wt_slc, wt_call, wt_blt, wt_lc, wt_app, wi_con, wi_var, wi_bin, wi_neg, wi_cmp, wi_cmp2, wi_tup, wi_lst, wi_lnew, wi_idx, wi_slc, wi_call, wi_blt, wi_lc, wi_app, seqQ_tup, seqQ_lst, seqQ_frz, seqQ_loc, tt_not, tt_band, tt_bor, tt_ite, tstQ_bl, tstQ_non, tstQ_int, tstQ_lst, tstQ_tup, wi_rng, rngQ_int, wi_rng2, rng2Q_int, w_lc,
wF_lt, wF_le, wF_gt, wF_ge, wF_isN, wF_notN, wF_eq_int, wF_eq_bl, wF_eq_str, wF_eq_tup, wF_eq_lst, wF_eq_frz, wF_eq_non, wF_ne_int, wF_ne_bl, wF_ne_str, wF_ne_tup, wF_ne_lst, wF_ne_frz, wF_ne_non, wF_isIn_tup, wF_isIn_lst, wF_isIn_frz, wF_notIn_tup, wF_notIn_lst, wF_notIn_frz, wF_eq_ins, wF_eq_insT, wF_eq_insN, wF_eq_insI, wF_ne_ins, wF_bol_ins, blQ_bl, w_bol, wt_bol, wt_lc2, wi_lc2, wbF_int, wbF_lst, wbF_tup, wbF_str, wb_add, wb_sub, wb_mul, wb_fdiv, wb_mod, wb_pow, wb_ladd, wc_lt, wc_le, wc_gt, wc_ge, wc_eq_int, wc_ne_int, wc_eq_bl, wc_ne_bl, wc_isN_int, wc_isN_bl, wc_isN_non, wc_notN_int, wc_notN_tup, wc_notN_non, w_idxD, seq_lst, seq_tup, seq_frz, seq_0, seq_s, len_lst, len_tup, isLoc_int, isLoc_lst, isLoc_tup, ok_ite, mkQ_eq, tss_nil, tss_cons, bindT, bindTs, wipeE, List.zip_nil_left, List.zip_nil_right, List.zip_cons_cons, List.map_nil, List.map_cons, List.nil_append, List.cons_append, List.length_nil, List.length_cons, List.replicate_zero, List.replicate_succ, List.set_cons_zero, List.set_cons_succ, Nat.reduceAdd, Nat.reduceSub, Bool.false_eq_true, Bool.true_eq_false, if_true, if_false, ite_true, ite_false, idxQ_0, idxQ_1, idxQ_2, idxQ_3, idxQ_4, idxQ_5, idxQ_6, idxQ_7, idxQ_8, idxQ_9, idxQ_10, idxQ_11, putQ_0, putQ_1, putQ_2, putQ_3, putQ_4, putQ_5])
  refine ok_cons (ok_whl (fun m r h' => h' = h ∧ ∃ (a b c : Int) (p q : Pr) (x : Option D), RI f0 a b c p q ∧ 2 * (a.toNat + c.toNat) + (if c < a then 1 else 0) ≤ m ∧
    r = [some (.tup [.int f0.a, .int f0.b, .int f0.c]), some (.int a), some (.int b), some (.int c), some (pr p), some (pr q), x]) (2 ^ 103) ⟨rfl, _, _, _, _, _, _, R0, ?_, rfl⟩ (by decide) ?_)
  · have e1 : f0.a.toNat ≤ 2 ^ 100 := by
      have : (2 : Int) ^ 100 = ((2 ^ 100 : Nat) : Int) := by decide +kernel
      omega
    have e2 : f0.c.toNat ≤ 2 ^ 100 := by
      have : (2 : Int) ^ 100 = ((2 ^ 100 : Nat) : Int) := by decide +kernel
      omega
    have : (2 : Nat) ^ 103 = 8 * 2 ^ 100 := by decide +kernel
    split <;> omega
  rintro m r h' ⟨rfl, a, b, c, p, q, x, R, hm, rfl⟩
  obtain ⟨sa, sb, sc, sp, sq⟩ := R.sms ok b1 b2
  have c0 := R.c0
  have ha := R.ha
  have hd := R.hd
  have s2 : Sm 2 (2 : Int) := smc
  (try simp only [ok_ok, ok_bind, ok_os, oks_ok, after1_nx, after1_rt, after1_bk, after1_ct, w_con, w_var, varQ_z, varQ_s, w_bin, w_neg, negQ_int, w_not, notQ_bl, w_band, andQ_bl, w_bor, orQ_bl, w_cmp, w_ite, w_tup, w_lst, w_lnew, w_idx, w_slc, w_evo_none, w_evo_some, intQ_int, w_call, w_blt, w_app, w_bitl, bitQ_int, wt_bitl, wi_bitl, wb_shl, w_nil, w_cons,
wt_con, wt_var, wt_bin, wt_neg, wt_cmp, wt_cmp2, wt_tup, wt_lst, wt_lnew, wt_idx, wt_slc, wt_call, wt_blt, wt_lc, wt_app, wi_con, wi_var, wi_bin, wi_neg, wi_cmp, wi_cmp2, wi_tup, wi_lst, wi_lnew, wi_idx, wi_slc, wi_call, wi_blt, wi_lc, wi_app, seqQ_tup, seqQ_lst, seqQ_frz, seqQ_loc, tt_not, tt_band, tt_bor, tt_ite, tstQ_bl, tstQ_non, tstQ_int, tstQ_lst, tstQ_tup, wi_rng, rngQ_int, wi_rng2, rng2Q_int, w_lc,
wF_lt, wF_le, wF_gt, wF_ge, wF_isN, wF_notN, wF_eq_int, wF_eq_bl, wF_eq_str, wF_eq_tup, wF_eq_lst, wF_eq_frz, wF_eq_non, wF_ne_int, wF_ne_bl, wF_ne_str, wF_ne_tup, wF_ne_lst, wF_ne_frz, wF_ne_non, wF_isIn_tup, wF_isIn_lst, wF_isIn_frz, wF_notIn_tup, wF_notIn_lst, wF_notIn_frz, wF_eq_ins, wF_eq_insT, wF_eq_insN, wF_eq_insI, wF_ne_ins, wF_bol_ins, blQ_bl, w_bol, wt_bol, wt_lc2, wi_lc2, wbF_int, wbF_lst, wbF_tup, wbF_str, wb_add, wb_sub, wb_mul, wb_fdiv, wb_mod, wb_pow, wb_ladd, wc_lt, wc_le, wc_gt, wc_ge, wc_eq_int, wc_ne_int, wc_eq_bl, wc_ne_bl, wc_isN_int, wc_isN_bl, wc_isN_non, wc_notN_int, wc_notN_tup, wc_notN_non, w_idxD, seq_lst, seq_tup, seq_frz, seq_0, seq_s, len_lst, len_tup, isLoc_int, isLoc_lst, isLoc_tup, ok_ite, mkQ_eq, tss_nil, tss_cons, bindT, bindTs, wipeE, List.zip_nil_left, List.zip_nil_right, List.zip_cons_cons, List.map_nil, List.map_cons, List.nil_append, List.cons_append, List.length_nil, List.length_cons, List.replicate_zero, List.replicate_succ, List.set_cons_zero, List.set_cons_succ, Nat.reduceAdd, Nat.reduceSub, Bool.false_eq_true, Bool.true_eq_false, if_true, if_false, ite_true, ite_false, idxQ_0, idxQ_1, idxQ_2, idxQ_3, idxQ_4, idxQ_5, idxQ_6, idxQ_7, idxQ_8, idxQ_9, idxQ_10, idxQ_11, putQ_0, putQ_1, putQ_2, putQ_3, putQ_4, putQ_5, abs_int])
  refine ⟨s2.big (sm_abs sb) (by decide) (by decide), ?_⟩
  have body : a < 2 * (b.natAbs : Int) ∨ c < a → OkS noE (exSs (callN P (k + 1)) [.ifs (.cmp .gt (.bin .mul (.con (.int 2)) (.blt .abs_ [.var 2])) (.var 1))
         [.asg (.nm 6) (.bin .fdiv (.bin .add (.bin .mul (.con (.int 2)) (.var 2)) (.var 1)) (.bin .mul (.con (.int 2)) (.var 1))),
          .asg (.nm 5) (.call l [.var 5, .call s [.var 4, .var 6] [] []] [] []),
          .par [2, 3] [.bin .sub (.var 2) (.bin .mul (.var 6) (.var 1)), .bin .add (.bin .sub (.var 3) (.bin .mul (.bin .mul (.con (.int 2)) (.var 6)) (.var 2))) (.bin .mul (.bin .mul (.var 6) (.var 6)) (.var 1))]]
         [.asg (.tp [.nm 4, .nm 5, .nm 1, .nm 3]) (.tup [.var 5, .var 4, .var 3, .var 1])]] [some (.tup [.int f0.a, .int f0.b, .int f0.c]), some (.int a), some (.int b), some (.int c), some (pr p), some (pr q), x] h')
      fun fl r1 h2 => fl = .nx ∧ ∃ m', m' < m ∧ h2 = h' ∧ ∃ (a b c : Int) (p q : Pr) (x : Option D), RI f0 a b c p q ∧ 2 * (a.toNat + c.toNat) + (if c < a then 1 else 0) ≤ m' ∧
        r1 = [some (.tup [.int f0.a, .int f0.b, .int f0.c]), some (.int a), some (.int b), some (.int c), some (pr p), some (pr q), x] := by
    intro hor
    refine ok_one (ok_if ?_)
    (try simp only [ok_ok, ok_bind, ok_os, oks_ok, after1_nx, after1_rt, after1_bk, after1_ct, w_con, w_var, varQ_z, varQ_s, w_bin, w_neg, negQ_int, w_not, notQ_bl, w_band, andQ_bl, w_bor, orQ_bl, w_cmp, w_ite, w_tup, w_lst, w_lnew, w_idx, w_slc, w_evo_none, w_evo_some, intQ_int, w_call, w_blt, w_app, w_bitl, bitQ_int, wt_bitl, wi_bitl, wb_shl, w_nil, w_cons,
wt_con, wt_var, wt_bin, wt_neg, wt_cmp, wt_cmp2, wt_tup, wt_lst, wt_lnew, wt_idx, wt_slc, wt_call, wt_blt, wt_lc, wt_app, wi_con, wi_var, wi_bin, wi_neg, wi_cmp, wi_cmp2, wi_tup, wi_lst, wi_lnew, wi_idx, wi_slc, wi_call, wi_blt, wi_lc, wi_app, seqQ_tup, seqQ_lst, seqQ_frz, seqQ_loc, tt_not, tt_band, tt_bor, tt_ite, tstQ_bl, tstQ_non, tstQ_int, tstQ_lst, tstQ_tup, wi_rng, rngQ_int, wi_rng2, rng2Q_int, w_lc,
wF_lt, wF_le, wF_gt, wF_ge, wF_isN, wF_notN, wF_eq_int, wF_eq_bl, wF_eq_str, wF_eq_tup, wF_eq_lst, wF_eq_frz, wF_eq_non, wF_ne_int, wF_ne_bl, wF_ne_str, wF_ne_tup, wF_ne_lst, wF_ne_frz, wF_ne_non, wF_isIn_tup, wF_isIn_lst, wF_isIn_frz, wF_notIn_tup, wF_notIn_lst, wF_notIn_frz, wF_eq_ins, wF_eq_insT, wF_eq_insN, wF_eq_insI, wF_ne_ins, wF_bol_ins, blQ_bl, w_bol, wt_bol, wt_lc2, wi_lc2, wbF_int, wbF_lst, wbF_tup, wbF_str, wb_add, wb_sub, wb_mul, wb_fdiv, wb_mod, wb_pow, wb_ladd, wc_lt, wc_le, wc_gt, wc_ge, wc_eq_int, wc_ne_int, wc_eq_bl, wc_ne_bl, wc_isN_int, wc_isN_bl, wc_isN_non, wc_notN_int, wc_notN_tup, wc_notN_non, w_idxD, seq_lst, seq_tup, seq_frz, seq_0, seq_s, len_lst, len_tup, isLoc_int, isLoc_lst, isLoc_tup, ok_ite, mkQ_eq, tss_nil, tss_cons, bindT, bindTs, wipeE, List.zip_nil_left, List.zip_nil_right, List.zip_cons_cons, List.map_nil, List.map_cons, List.nil_append, List.cons_append, List.length_nil, List.length_cons, List.replicate_zero, List.replicate_succ, List.set_cons_zero, List.set_cons_succ, Nat.reduceAdd, Nat.reduceSub, Bool.false_eq_true, Bool.true_eq_false, if_true, if_false, ite_true, ite_false, idxQ_0, idxQ_1, idxQ_2, idxQ_3, idxQ_4, idxQ_5, idxQ_6, idxQ_7, idxQ_8, idxQ_9, idxQ_10, idxQ_11, putQ_0, putQ_1, putQ_2, putQ_3, putQ_4, putQ_5, abs_int])
    refine ⟨s2.big (sm_abs sb) (by decide) (by decide), ?_⟩
    by_cases hb : a < 2 * (b.natAbs : Int)
    · rw [if_pos (decide_eq_true hb)]
      obtain ⟨t, ht, _, t1, t2, t3⟩ := shift_ok ha hd hb
      refine ok_cons (ok_asg ?_)
      (try simp only [ok_ok, ok_bind, ok_os, oks_ok, after1_nx, after1_rt, after1_bk, after1_ct, w_con, w_var, varQ_z, varQ_s, w_bin, w_neg, negQ_int, w_not, notQ_bl, w_band, andQ_bl, w_bor, orQ_bl, w_cmp, w_ite, w_tup, w_lst, w_lnew, w_idx, w_slc, w_evo_none, w_evo_some, intQ_int, w_call, w_blt, w_app, w_bitl, bitQ_int, wt_bitl, wi_bitl, wb_shl, w_nil, w_cons,
wt_con, wt_var, wt_bin, wt_neg, wt_cmp, wt_cmp2, wt_tup, wt_lst, wt_lnew, wt_idx, wt_slc, wt_call, wt_blt, wt_lc, wt_app, wi_con, wi_var, wi_bin, wi_neg, wi_cmp, wi_cmp2, wi_tup, wi_lst, wi_lnew, wi_idx, wi_slc, wi_call, wi_blt, wi_lc, wi_app, seqQ_tup, seqQ_lst, seqQ_frz, seqQ_loc, tt_not, tt_band, tt_bor, tt_ite, tstQ_bl, tstQ_non, tstQ_int, tstQ_lst, tstQ_tup, wi_rng, rngQ_int, wi_rng2, rng2Q_int, w_lc,
wF_lt, wF_le, wF_gt, wF_ge, wF_isN, wF_notN, wF_eq_int, wF_eq_bl, wF_eq_str, wF_eq_tup, wF_eq_lst, wF_eq_frz, wF_eq_non, wF_ne_int, wF_ne_bl, wF_ne_str, wF_ne_tup, wF_ne_lst, wF_ne_frz, wF_ne_non, wF_isIn_tup, wF_isIn_lst, wF_isIn_frz, wF_notIn_tup, wF_notIn_lst, wF_notIn_frz, wF_eq_ins, wF_eq_insT, wF_eq_insN, wF_eq_insI, wF_ne_ins, wF_bol_ins, blQ_bl, w_bol, wt_bol, wt_lc2, wi_lc2, wbF_int, wbF_lst, wbF_tup, wbF_str, wb_add, wb_sub, wb_mul, wb_fdiv, wb_mod, wb_pow, wb_ladd, wc_lt, wc_le, wc_gt, wc_ge, wc_eq_int, wc_ne_int, wc_eq_bl, wc_ne_bl, wc_isN_int, wc_isN_bl, wc_isN_non, wc_notN_int, wc_notN_tup, wc_notN_non, w_idxD, seq_lst, seq_tup, seq_frz, seq_0, seq_s, len_lst, len_tup, isLoc_int, isLoc_lst, isLoc_tup, ok_ite, mkQ_eq, tss_nil, tss_cons, bindT, bindTs, wipeE, List.zip_nil_left, List.zip_nil_right, List.zip_cons_cons, List.map_nil, List.map_cons, List.nil_append, List.cons_append, List.length_nil, List.length_cons, List.replicate_zero, List.replicate_succ, List.set_cons_zero, List.set_cons_succ, Nat.reduceAdd, Nat.reduceSub, Bool.false_eq_true, Bool.true_eq_false, if_true, if_false, ite_true, ite_false, idxQ_0, idxQ_1, idxQ_2, idxQ_3, idxQ_4, idxQ_5, idxQ_6, idxQ_7, idxQ_8, idxQ_9, idxQ_10, idxQ_11, putQ_0, putQ_1, putQ_2, putQ_3, putQ_4, putQ_5])
      refine ⟨s2.big sb (by decide) (by decide), s2.big sa (by decide) (by decide), ⟨by omega, log2_lt ((s2.mul sa).mono (by decide)) (by decide)⟩, ?_⟩
      rw [← ht]
      have sb' : Sm 101 (b - t * a) := by
        have := sa.range
        exact Sm.of 101 (by omega) (by omega)
      have sta : Sm 202 (t * a) := by
        have e : t * a = b - (b - t * a) := by omega
        rw [e]
        exact (sb.sub sb').mono (by decide)
      have st : Sm 202 t := by
        unfold Sm at *
        rw [Int.natAbs_mul] at sta
        have : t.natAbs * 1 ≤ t.natAbs * a.natAbs := Nat.mul_le_mul_left _ (by omega)
        omega
      refine ok_cons (ok_asg ?_)
      (try simp only [ok_ok, ok_bind, ok_os, oks_ok, after1_nx, after1_rt, after1_bk, after1_ct, w_con, w_var, varQ_z, varQ_s, w_bin, w_neg, negQ_int, w_not, notQ_bl, w_band, andQ_bl, w_bor, orQ_bl, w_cmp, w_ite, w_tup, w_lst, w_lnew, w_idx, w_slc, w_evo_none, w_evo_some, intQ_int, w_call, w_blt, w_app, w_bitl, bitQ_int, wt_bitl, wi_bitl, wb_shl, w_nil, w_cons,
wt_con, wt_var, wt_bin, wt_neg, wt_cmp, wt_cmp2, wt_tup, wt_lst, wt_lnew, wt_idx, wt_slc, wt_call, wt_blt, wt_lc, wt_app, wi_con, wi_var, wi_bin, wi_neg, wi_cmp, wi_cmp2, wi_tup, wi_lst, wi_lnew, wi_idx, wi_slc, wi_call, wi_blt, wi_lc, wi_app, seqQ_tup, seqQ_lst, seqQ_frz, seqQ_loc, tt_not, tt_band, tt_bor, tt_ite, tstQ_bl, tstQ_non, tstQ_int, tstQ_lst, tstQ_tup, wi_rng, rngQ_int, wi_rng2, rng2Q_int, w_lc,
wF_lt, wF_le, wF_gt, wF_ge, wF_isN, wF_notN, wF_eq_int, wF_eq_bl, wF_eq_str, wF_eq_tup, wF_eq_lst, wF_eq_frz, wF_eq_non, wF_ne_int, wF_ne_bl, wF_ne_str, wF_ne_tup, wF_ne_lst, wF_ne_frz, wF_ne_non, wF_isIn_tup, wF_isIn_lst, wF_isIn_frz, wF_notIn_tup, wF_notIn_lst, wF_notIn_frz, wF_eq_ins, wF_eq_insT, wF_eq_insN, wF_eq_insI, wF_ne_ins, wF_bol_ins, blQ_bl, w_bol, wt_bol, wt_lc2, wi_lc2, wbF_int, wbF_lst, wbF_tup, wbF_str, wb_add, wb_sub, wb_mul, wb_fdiv, wb_mod, wb_pow, wb_ladd, wc_lt, wc_le, wc_gt, wc_ge, wc_eq_int, wc_ne_int, wc_eq_bl, wc_ne_bl, wc_isN_int, wc_isN_bl, wc_isN_non, wc_notN_int, wc_notN_tup, wc_notN_non, w_idxD, seq_lst, seq_tup, seq_frz, seq_0, seq_s, len_lst, len_tup, isLoc_int, isLoc_lst, isLoc_tup, ok_ite, mkQ_eq, tss_nil, tss_cons, bindT, bindTs, wipeE, List.zip_nil_left, List.zip_nil_right, List.zip_cons_cons, List.map_nil, List.map_cons, List.nil_append, List.cons_append, List.length_nil, List.length_cons, List.replicate_zero, List.replicate_succ, List.set_cons_zero, List.set_cons_succ, Nat.reduceAdd, Nat.reduceSub, Bool.false_eq_true, Bool.true_eq_false, if_true, if_false, ite_true, ite_false, idxQ_0, idxQ_1, idxQ_2, idxQ_3, idxQ_4, idxQ_5, idxQ_6, idxQ_7, idxQ_8, idxQ_9, idxQ_10, idxQ_11, putQ_0, putQ_1, putQ_2, putQ_3, putQ_4, putQ_5])
      refine scaled_ok (q := p) (c := t) hS (sp.mono (by decide)) (st.mono (by decide)) rfl ?_
      (try simp only [ok_ok, ok_bind, ok_os, oks_ok, after1_nx, after1_rt, after1_bk, after1_ct, w_con, w_var, varQ_z, varQ_s, w_bin, w_neg, negQ_int, w_not, notQ_bl, w_band, andQ_bl, w_bor, orQ_bl, w_cmp, w_ite, w_tup, w_lst, w_lnew, w_idx, w_slc, w_evo_none, w_evo_some, intQ_int, w_call, w_blt, w_app, w_bitl, bitQ_int, wt_bitl, wi_bitl, wb_shl, w_nil, w_cons,
wt_con, wt_var, wt_bin, wt_neg, wt_cmp, wt_cmp2, wt_tup, wt_lst, wt_lnew, wt_idx, wt_slc, wt_call, wt_blt, wt_lc, wt_app, wi_con, wi_var, wi_bin, wi_neg, wi_cmp, wi_cmp2, wi_tup, wi_lst, wi_lnew, wi_idx, wi_slc, wi_call, wi_blt, wi_lc, wi_app, seqQ_tup, seqQ_lst, seqQ_frz, seqQ_loc, tt_not, tt_band, tt_bor, tt_ite, tstQ_bl, tstQ_non, tstQ_int, tstQ_lst, tstQ_tup, wi_rng, rngQ_int, wi_rng2, rng2Q_int, w_lc,
wF_lt, wF_le, wF_gt, wF_ge, wF_isN, wF_notN, wF_eq_int, wF_eq_bl, wF_eq_str, wF_eq_tup, wF_eq_lst, wF_eq_frz, wF_eq_non, wF_ne_int, wF_ne_bl, wF_ne_str, wF_ne_tup, wF_ne_lst, wF_ne_frz, wF_ne_non, wF_isIn_tup, wF_isIn_lst, wF_isIn_frz, wF_notIn_tup, wF_notIn_lst, wF_notIn_frz, wF_eq_ins, wF_eq_insT, wF_eq_insN, wF_eq_insI, wF_ne_ins, wF_bol_ins, blQ_bl, w_bol, wt_bol, wt_lc2, wi_lc2, wbF_int, wbF_lst, wbF_tup, wbF_str, wb_add, wb_sub, wb_mul, wb_fdiv, wb_mod, wb_pow, wb_ladd, wc_lt, wc_le, wc_gt, wc_ge, wc_eq_int, wc_ne_int, wc_eq_bl, wc_ne_bl, wc_isN_int, wc_isN_bl, wc_isN_non, wc_notN_int, wc_notN_tup, wc_notN_non, w_idxD, seq_lst, seq_tup, seq_frz, seq_0, seq_s, len_lst, len_tup, isLoc_int, isLoc_lst, isLoc_tup, ok_ite, mkQ_eq, tss_nil, tss_cons, bindT, bindTs, wipeE, List.zip_nil_left, List.zip_nil_right, List.zip_cons_cons, List.map_nil, List.map_cons, List.nil_append, List.cons_append, List.length_nil, List.length_cons, List.replicate_zero, List.replicate_succ, List.set_cons_zero, List.set_cons_succ, Nat.reduceAdd, Nat.reduceSub, Bool.false_eq_true, Bool.true_eq_false, if_true, if_false, ite_true, ite_false, idxQ_0, idxQ_1, idxQ_2, idxQ_3, idxQ_4, idxQ_5, idxQ_6, idxQ_7, idxQ_8, idxQ_9, idxQ_10, idxQ_11, putQ_0, putQ_1, putQ_2, putQ_3, putQ_4, putQ_5])
      refine minus_ok (p := q) (q := (p.1 * t, p.2 * t)) hL rfl ?_
      (try simp only [ok_ok, ok_bind, ok_os, oks_ok, after1_nx, after1_rt, after1_bk, after1_ct, w_con, w_var, varQ_z, varQ_s, w_bin, w_neg, negQ_int, w_not, notQ_bl, w_band, andQ_bl, w_bor, orQ_bl, w_cmp, w_ite, w_tup, w_lst, w_lnew, w_idx, w_slc, w_evo_none, w_evo_some, intQ_int, w_call, w_blt, w_app, w_bitl, bitQ_int, wt_bitl, wi_bitl, wb_shl, w_nil, w_cons,
wt_con, wt_var, wt_bin, wt_neg, wt_cmp, wt_cmp2, wt_tup, wt_lst, wt_lnew, wt_idx, wt_slc, wt_call, wt_blt, wt_lc, wt_app, wi_con, wi_var, wi_bin, wi_neg, wi_cmp, wi_cmp2, wi_tup, wi_lst, wi_lnew, wi_idx, wi_slc, wi_call, wi_blt, wi_lc, wi_app, seqQ_tup, seqQ_lst, seqQ_frz, seqQ_loc, tt_not, tt_band, tt_bor, tt_ite, tstQ_bl, tstQ_non, tstQ_int, tstQ_lst, tstQ_tup, wi_rng, rngQ_int, wi_rng2, rng2Q_int, w_lc,
wF_lt, wF_le, wF_gt, wF_ge, wF_isN, wF_notN, wF_eq_int, wF_eq_bl, wF_eq_str, wF_eq_tup, wF_eq_lst, wF_eq_frz, wF_eq_non, wF_ne_int, wF_ne_bl, wF_ne_str, wF_ne_tup, wF_ne_lst, wF_ne_frz, wF_ne_non, wF_isIn_tup, wF_isIn_lst, wF_isIn_frz, wF_notIn_tup, wF_notIn_lst, wF_notIn_frz, wF_eq_ins, wF_eq_insT, wF_eq_insN, wF_eq_insI, wF_ne_ins, wF_bol_ins, blQ_bl, w_bol, wt_bol, wt_lc2, wi_lc2, wbF_int, wbF_lst, wbF_tup, wbF_str, wb_add, wb_sub, wb_mul, wb_fdiv, wb_mod, wb_pow, wb_ladd, wc_lt, wc_le, wc_gt, wc_ge, wc_eq_int, wc_ne_int, wc_eq_bl, wc_ne_bl, wc_isN_int, wc_isN_bl, wc_isN_non, wc_notN_int, wc_notN_tup, wc_notN_non, w_idxD, seq_lst, seq_tup, seq_frz, seq_0, seq_s, len_lst, len_tup, isLoc_int, isLoc_lst, isLoc_tup, ok_ite, mkQ_eq, tss_nil, tss_cons, bindT, bindTs, wipeE, List.zip_nil_left, List.zip_nil_right, List.zip_cons_cons, List.map_nil, List.map_cons, List.nil_append, List.cons_append, List.length_nil, List.length_cons, List.replicate_zero, List.replicate_succ, List.set_cons_zero, List.set_cons_succ, Nat.reduceAdd, Nat.reduceSub, Bool.false_eq_true, Bool.true_eq_false, if_true, if_false, ite_true, ite_false, idxQ_0, idxQ_1, idxQ_2, idxQ_3, idxQ_4, idxQ_5, idxQ_6, idxQ_7, idxQ_8, idxQ_9, idxQ_10, idxQ_11, putQ_0, putQ_1, putQ_2, putQ_3, putQ_4, putQ_5])
      refine ok_one (ok_par ?_)
      (try simp only [ok_ok, ok_bind, ok_os, oks_ok, after1_nx, after1_rt, after1_bk, after1_ct, w_con, w_var, varQ_z, varQ_s, w_bin, w_neg, negQ_int, w_not, notQ_bl, w_band, andQ_bl, w_bor, orQ_bl, w_cmp, w_ite, w_tup, w_lst, w_lnew, w_idx, w_slc, w_evo_none, w_evo_some, intQ_int, w_call, w_blt, w_app, w_bitl, bitQ_int, wt_bitl, wi_bitl, wb_shl, w_nil, w_cons,
wt_con, wt_var, wt_bin, wt_neg, wt_cmp, wt_cmp2, wt_tup, wt_lst, wt_lnew, wt_idx, wt_slc, wt_call, wt_blt, wt_lc, wt_app, wi_con, wi_var, wi_bin, wi_neg, wi_cmp, wi_cmp2, wi_tup, wi_lst, wi_lnew, wi_idx, wi_slc, wi_call, wi_blt, wi_lc, wi_app, seqQ_tup, seqQ_lst, seqQ_frz, seqQ_loc, tt_not, tt_band, tt_bor, tt_ite, tstQ_bl, tstQ_non, tstQ_int, tstQ_lst, tstQ_tup, wi_rng, rngQ_int, wi_rng2, rng2Q_int, w_lc,
wF_lt, wF_le, wF_gt, wF_ge, wF_isN, wF_notN, wF_eq_int, wF_eq_bl, wF_eq_str, wF_eq_tup, wF_eq_lst, wF_eq_frz, wF_eq_non, wF_ne_int, wF_ne_bl, wF_ne_str, wF_ne_tup, wF_ne_lst, wF_ne_frz, wF_ne_non, wF_isIn_tup, wF_isIn_lst, wF_isIn_frz, wF_notIn_tup, wF_notIn_lst, wF_notIn_frz, wF_eq_ins, wF_eq_insT, wF_eq_insN, wF_eq_insI, wF_ne_ins, wF_bol_ins, blQ_bl, w_bol, wt_bol, wt_lc2, wi_lc2, wbF_int, wbF_lst, wbF_tup, wbF_str, wb_add, wb_sub, wb_mul, wb_fdiv, wb_mod, wb_pow, wb_ladd, wc_lt, wc_le, wc_gt, wc_ge, wc_eq_int, wc_ne_int, wc_eq_bl, wc_ne_bl, wc_isN_int, wc_isN_bl, wc_isN_non, wc_notN_int, wc_notN_tup, wc_notN_non, w_idxD, seq_lst, seq_tup, seq_frz, seq_0, seq_s, len_lst, len_tup, isLoc_int, isLoc_lst, isLoc_tup, ok_ite, mkQ_eq, tss_nil, tss_cons, bindT, bindTs, wipeE, List.zip_nil_left, List.zip_nil_right, List.zip_cons_cons, List.map_nil, List.map_cons, List.nil_append, List.cons_append, List.length_nil, List.length_cons, List.replicate_zero, List.replicate_succ, List.set_cons_zero, List.set_cons_succ, Nat.reduceAdd, Nat.reduceSub, Bool.false_eq_true, Bool.true_eq_false, if_true, if_false, ite_true, ite_false, idxQ_0, idxQ_1, idxQ_2, idxQ_3, idxQ_4, idxQ_5, idxQ_6, idxQ_7, idxQ_8, idxQ_9, idxQ_10, idxQ_11, putQ_0, putQ_1, putQ_2, putQ_3, putQ_4, putQ_5])
      refine ⟨st.big sa (by decide) (by decide), s2.big st (by decide) (by decide), (s2.mul st).big sb (by decide) (by decide), st.big st (by decide) (by decide), (st.mul st).big sa (by decide) (by decide), _, rfl, ?_⟩
      (try simp only [ok_ok, ok_bind, ok_os, oks_ok, after1_nx, after1_rt, after1_bk, after1_ct, w_con, w_var, varQ_z, varQ_s, w_bin, w_neg, negQ_int, w_not, notQ_bl, w_band, andQ_bl, w_bor, orQ_bl, w_cmp, w_ite, w_tup, w_lst, w_lnew, w_idx, w_slc, w_evo_none, w_evo_some, intQ_int, w_call, w_blt, w_app, w_bitl, bitQ_int, wt_bitl, wi_bitl, wb_shl, w_nil, w_cons,
wt_con, wt_var, wt_bin, wt_neg, wt_cmp, wt_cmp2, wt_tup, wt_lst, wt_lnew, wt_idx, wt_slc, wt_call, wt_blt, wt_lc, wt_app, wi_con, wi_var, wi_bin, wi_neg, wi_cmp, wi_cmp2, wi_tup, wi_lst, wi_lnew, wi_idx, wi_slc, wi_call, wi_blt, wi_lc, wi_app, seqQ_tup, seqQ_lst, seqQ_frz, seqQ_loc, tt_not, tt_band, tt_bor, tt_ite, tstQ_bl, tstQ_non, tstQ_int, tstQ_lst, tstQ_tup, wi_rng, rngQ_int, wi_rng2, rng2Q_int, w_lc,
wF_lt, wF_le, wF_gt, wF_ge, wF_isN, wF_notN, wF_eq_int, wF_eq_bl, wF_eq_str, wF_eq_tup, wF_eq_lst, wF_eq_frz, wF_eq_non, wF_ne_int, wF_ne_bl, wF_ne_str, wF_ne_tup, wF_ne_lst, wF_ne_frz, wF_ne_non, wF_isIn_tup, wF_isIn_lst, wF_isIn_frz, wF_notIn_tup, wF_notIn_lst, wF_notIn_frz, wF_eq_ins, wF_eq_insT, wF_eq_insN, wF_eq_insI, wF_ne_ins, wF_bol_ins, blQ_bl, w_bol, wt_bol, wt_lc2, wi_lc2, wbF_int, wbF_lst, wbF_tup, wbF_str, wb_add, wb_sub, wb_mul, wb_fdiv, wb_mod, wb_pow, wb_ladd, wc_lt, wc_le, wc_gt, wc_ge, wc_eq_int, wc_ne_int, wc_eq_bl, wc_ne_bl, wc_isN_int, wc_isN_bl, wc_isN_non, wc_notN_int, wc_notN_tup, wc_notN_non, w_idxD, seq_lst, seq_tup, seq_frz, seq_0, seq_s, len_lst, len_tup, isLoc_int, isLoc_lst, isLoc_tup, ok_ite, mkQ_eq, tss_nil, tss_cons, bindT, bindTs, wipeE, List.zip_nil_left, List.zip_nil_right, List.zip_cons_cons, List.map_nil, List.map_cons, List.nil_append, List.cons_append, List.length_nil, List.length_cons, List.replicate_zero, List.replicate_succ, List.set_cons_zero, List.set_cons_succ, Nat.reduceAdd, Nat.reduceSub, Bool.false_eq_true, Bool.true_eq_false, if_true, if_false, ite_true, ite_false, idxQ_0, idxQ_1, idxQ_2, idxQ_3, idxQ_4, idxQ_5, idxQ_6, idxQ_7, idxQ_8, idxQ_9, idxQ_10, idxQ_11, putQ_0, putQ_1, putQ_2, putQ_3, putQ_4, putQ_5])
      have hc' : 0 < c - 2 * t * b + t * t * a := by
        refine Classical.byContradiction fun z => ?_
        have z1 := Int.mul_le_mul_of_nonneg_left (show c - 2 * t * b + t * t * a ≤ 0 by omega) (show 0 ≤ a by omega)
        have z2 := sq_nn (b - t * a)
        omega
      have bc := R.bc
      refine ⟨trivial, 2 * (a.toNat + (c - 2 * t * b + t * t * a).toNat) + 1, ?_, trivial, a, b - t * a, c - 2 * t * b + t * t * a, p, (q.1 - p.1 * t, q.2 - p.2 * t), some (.int t), ⟨unit_shift t R.u, by rw [Fm.shift, R.e], ha, t1, R.ba, by omega⟩, by split <;> omega, rfl⟩
      split at hm <;> omega
    · rw [if_neg (by simpa using hb)]
      have hca : c < a := hor.resolve_left hb
      refine ok_one (ok_asgT ?_)
      (try simp only [ok_ok, ok_bind, ok_os, oks_ok, after1_nx, after1_rt, after1_bk, after1_ct, w_con, w_var, varQ_z, varQ_s, w_bin, w_neg, negQ_int, w_not, notQ_bl, w_band, andQ_bl, w_bor, orQ_bl, w_cmp, w_ite, w_tup, w_lst, w_lnew, w_idx, w_slc, w_evo_none, w_evo_some, intQ_int, w_call, w_blt, w_app, w_bitl, bitQ_int, wt_bitl, wi_bitl, wb_shl, w_nil, w_cons,
wt_con, wt_var, wt_bin, wt_neg, wt_cmp, wt_cmp2, wt_tup, wt_lst, wt_lnew, wt_idx, wt_slc, wt_call, wt_blt, wt_lc, wt_app, wi_con, wi_var, wi_bin, wi_neg, wi_cmp, wi_cmp2, wi_tup, wi_lst, wi_lnew, wi_idx, wi_slc, wi_call, wi_blt, wi_lc, wi_app, seqQ_tup, seqQ_lst, seqQ_frz, seqQ_loc, tt_not, tt_band, tt_bor, tt_ite, tstQ_bl, tstQ_non, tstQ_int, tstQ_lst, tstQ_tup, wi_rng, rngQ_int, wi_rng2, rng2Q_int, w_lc,
wF_lt, wF_le, wF_gt, wF_ge, wF_isN, wF_notN, wF_eq_int, wF_eq_bl, wF_eq_str, wF_eq_tup, wF_eq_lst, wF_eq_frz, wF_eq_non, wF_ne_int, wF_ne_bl, wF_ne_str, wF_ne_tup, wF_ne_lst, wF_ne_frz, wF_ne_non, wF_isIn_tup, wF_isIn_lst, wF_isIn_frz, wF_notIn_tup, wF_notIn_lst, wF_notIn_frz, wF_eq_ins, wF_eq_insT, wF_eq_insN, wF_eq_insI, wF_ne_ins, wF_bol_ins, blQ_bl, w_bol, wt_bol, wt_lc2, wi_lc2, wbF_int, wbF_lst, wbF_tup, wbF_str, wb_add, wb_sub, wb_mul, wb_fdiv, wb_mod, wb_pow, wb_ladd, wc_lt, wc_le, wc_gt, wc_ge, wc_eq_int, wc_ne_int, wc_eq_bl, wc_ne_bl, wc_isN_int, wc_isN_bl, wc_isN_non, wc_notN_int, wc_notN_tup, wc_notN_non, w_idxD, seq_lst, seq_tup, seq_frz, seq_0, seq_s, len_lst, len_tup, isLoc_int, isLoc_lst, isLoc_tup, ok_ite, mkQ_eq, tss_nil, tss_cons, bindT, bindTs, wipeE, List.zip_nil_left, List.zip_nil_right, List.zip_cons_cons, List.map_nil, List.map_cons, List.nil_append, List.cons_append, List.length_nil, List.length_cons, List.replicate_zero, List.replicate_succ, List.set_cons_zero, List.set_cons_succ, Nat.reduceAdd, Nat.reduceSub, Bool.false_eq_true, Bool.true_eq_false, if_true, if_false, ite_true, ite_false, idxQ_0, idxQ_1, idxQ_2, idxQ_3, idxQ_4, idxQ_5, idxQ_6, idxQ_7, idxQ_8, idxQ_9, idxQ_10, idxQ_11, putQ_0, putQ_1, putQ_2, putQ_3, putQ_4, putQ_5, pr])
      refine ⟨by rfl, _, rfl, ?_⟩
      (try simp only [ok_ok, ok_bind, ok_os, oks_ok, after1_nx, after1_rt, after1_bk, after1_ct, w_con, w_var, varQ_z, varQ_s, w_bin, w_neg, negQ_int, w_not, notQ_bl, w_band, andQ_bl, w_bor, orQ_bl, w_cmp, w_ite, w_tup, w_lst, w_lnew, w_idx, w_slc, w_evo_none, w_evo_some, intQ_int, w_call, w_blt, w_app, w_bitl, bitQ_int, wt_bitl, wi_bitl, wb_shl, w_nil, w_cons,
wt_con, wt_var, wt_bin, wt_neg, wt_cmp, wt_cmp2, wt_tup, wt_lst, wt_lnew, wt_idx, wt_slc, wt_call, wt_blt, wt_lc, wt_app, wi_con, wi_var, wi_bin, wi_neg, wi_cmp, wi_cmp2, wi_tup, wi_lst, wi_lnew, wi_idx, wi_slc, wi_call, wi_blt, wi_lc, wi_app, seqQ_tup, seqQ_lst, seqQ_frz, seqQ_loc, tt_not, tt_band, tt_bor, tt_ite, tstQ_bl, tstQ_non, tstQ_int, tstQ_lst, tstQ_tup, wi_rng, rngQ_int, wi_rng2, rng2Q_int, w_lc,
wF_lt, wF_le, wF_gt, wF_ge, wF_isN, wF_notN, wF_eq_int, wF_eq_bl, wF_eq_str, wF_eq_tup, wF_eq_lst, wF_eq_frz, wF_eq_non, wF_ne_int, wF_ne_bl, wF_ne_str, wF_ne_tup, wF_ne_lst, wF_ne_frz, wF_ne_non, wF_isIn_tup, wF_isIn_lst, wF_isIn_frz, wF_notIn_tup, wF_notIn_lst, wF_notIn_frz, wF_eq_ins, wF_eq_insT, wF_eq_insN, wF_eq_insI, wF_ne_ins, wF_bol_ins, blQ_bl, w_bol, wt_bol, wt_lc2, wi_lc2, wbF_int, wbF_lst, wbF_tup, wbF_str, wb_add, wb_sub, wb_mul, wb_fdiv, wb_mod, wb_pow, wb_ladd, wc_lt, wc_le, wc_gt, wc_ge, wc_eq_int, wc_ne_int, wc_eq_bl, wc_ne_bl, wc_isN_int, wc_isN_bl, wc_isN_non, wc_notN_int, wc_notN_tup, wc_notN_non, w_idxD, seq_lst, seq_tup, seq_frz, seq_0, seq_s, len_lst, len_tup, isLoc_int, isLoc_lst, isLoc_tup, ok_ite, mkQ_eq, tss_nil, tss_cons, bindT, bindTs, wipeE, List.zip_nil_left, List.zip_nil_right, List.zip_cons_cons, List.map_nil, List.map_cons, List.nil_append, List.cons_append, List.length_nil, List.length_cons, List.replicate_zero, List.replicate_succ, List.set_cons_zero, List.set_cons_succ, Nat.reduceAdd, Nat.reduceSub, Bool.false_eq_true, Bool.true_eq_false, if_true, if_false, ite_true, ite_false, idxQ_0, idxQ_1, idxQ_2, idxQ_3, idxQ_4, idxQ_5, idxQ_6, idxQ_7, idxQ_8, idxQ_9, idxQ_10, idxQ_11, putQ_0, putQ_1, putQ_2, putQ_3, putQ_4, putQ_5])
      refine ⟨trivial, 2 * (a.toNat + c.toNat), by rw [if_pos hca] at hm; omega, trivial, c, b, a, q, p, x, ⟨unit_swap R.u, by rw [Fm.swap, R.e], c0, by rw [Int.mul_comm c a]; exact hd, R.bc, R.ba⟩, by rw [if_neg (by omega)]; omega, rfl⟩
  by_cases hb : a < 2 * (b.natAbs : Int)
  · rw [if_pos (decide_eq_true hb)]
    exact ((body (.inl hb)).ofNo).mono fun fl r1 h2 ⟨e, x⟩ => by subst e; exact x
  · rw [if_neg (by simpa using hb)]
    by_cases hc : c < a
    · rw [if_pos (decide_eq_true hc)]
      exact ((body (.inr hc)).ofNo).mono fun fl r1 h2 ⟨e, x⟩ => by subst e; exact x
    · rw [if_neg (by simpa using hc)]
      (try simp only [ok_ok, ok_bind, ok_os, oks_ok, after1_nx, after1_rt, after1_bk, after1_ct, w_con, w_var, varQ_z, varQ_s, w_bin, w_neg, negQ_int, w_not, notQ_bl, w_band, andQ_bl, w_bor, orQ_bl, w_cmp, w_ite, w_tup, w_lst, w_lnew, w_idx, w_slc, w_evo_none, w_evo_some, intQ_int, w_call, w_blt, w_app, w_bitl, bitQ_int, wt_bitl, wi_bitl, wb_shl, w_nil, w_cons,
wt_con, wt_var, wt_bin, wt_neg, wt_cmp, wt_cmp2, wt_tup, wt_lst, wt_lnew, wt_idx, wt_slc, wt_call, wt_blt, wt_lc, wt_app, wi_con, wi_var, wi_bin, wi_neg, wi_cmp, wi_cmp2, wi_tup, wi_lst, wi_lnew, wi_idx, wi_slc, wi_call, wi_blt, wi_lc, wi_app, seqQ_tup, seqQ_lst, seqQ_frz, seqQ_loc, tt_not, tt_band, tt_bor, tt_ite, tstQ_bl, tstQ_non, tstQ_int, tstQ_lst, tstQ_tup, wi_rng, rngQ_int, wi_rng2, rng2Q_int, w_lc,
wF_lt, wF_le, wF_gt, wF_ge, wF_isN, wF_notN, wF_eq_int, wF_eq_bl, wF_eq_str, wF_eq_tup, wF_eq_lst, wF_eq_frz, wF_eq_non, wF_ne_int, wF_ne_bl, wF_ne_str, wF_ne_tup, wF_ne_lst, wF_ne_frz, wF_ne_non, wF_isIn_tup, wF_isIn_lst, wF_isIn_frz, wF_notIn_tup, wF_notIn_lst, wF_notIn_frz, wF_eq_ins, wF_eq_insT, wF_eq_insN, wF_eq_insI, wF_ne_ins, wF_bol_ins, blQ_bl, w_bol, wt_bol, wt_lc2, wi_lc2, wbF_int, wbF_lst, wbF_tup, wbF_str, wb_add, wb_sub, wb_mul, wb_fdiv, wb_mod, wb_pow, wb_ladd, wc_lt, wc_le, wc_gt, wc_ge, wc_eq_int, wc_ne_int, wc_eq_bl, wc_ne_bl, wc_isN_int, wc_isN_bl, wc_isN_non, wc_notN_int, wc_notN_tup, wc_notN_non, w_idxD, seq_lst, seq_tup, seq_frz, seq_0, seq_s, len_lst, len_tup, isLoc_int, isLoc_lst, isLoc_tup, ok_ite, mkQ_eq, tss_nil, tss_cons, bindT, bindTs, wipeE, List.zip_nil_left, List.zip_nil_right, List.zip_cons_cons, List.map_nil, List.map_cons, List.nil_append, List.cons_append, List.length_nil, List.length_cons, List.replicate_zero, List.replicate_succ, List.set_cons_zero, List.set_cons_succ, Nat.reduceAdd, Nat.reduceSub, Bool.false_eq_true, Bool.true_eq_false, if_true, if_false, ite_true, ite_false, idxQ_0, idxQ_1, idxQ_2, idxQ_3, idxQ_4, idxQ_5, idxQ_6, idxQ_7, idxQ_8, idxQ_9, idxQ_10, idxQ_11, putQ_0, putQ_1, putQ_2, putQ_3, putQ_4, putQ_5])
      by_cases hn : b < 0
      · refine ok_cons (ok_then ?_ ?_)
        · (try simp only [ok_ok, ok_bind, ok_os, oks_ok, after1_nx, after1_rt, after1_bk, after1_ct, w_con, w_var, varQ_z, varQ_s, w_bin, w_neg, negQ_int, w_not, notQ_bl, w_band, andQ_bl, w_bor, orQ_bl, w_cmp, w_ite, w_tup, w_lst, w_lnew, w_idx, w_slc, w_evo_none, w_evo_some, intQ_int, w_call, w_blt, w_app, w_bitl, bitQ_int, wt_bitl, wi_bitl, wb_shl, w_nil, w_cons,
wt_con, wt_var, wt_bin, wt_neg, wt_cmp, wt_cmp2, wt_tup, wt_lst, wt_lnew, wt_idx, wt_slc, wt_call, wt_blt, wt_lc, wt_app, wi_con, wi_var, wi_bin, wi_neg, wi_cmp, wi_cmp2, wi_tup, wi_lst, wi_lnew, wi_idx, wi_slc, wi_call, wi_blt, wi_lc, wi_app, seqQ_tup, seqQ_lst, seqQ_frz, seqQ_loc, tt_not, tt_band, tt_bor, tt_ite, tstQ_bl, tstQ_non, tstQ_int, tstQ_lst, tstQ_tup, wi_rng, rngQ_int, wi_rng2, rng2Q_int, w_lc,
wF_lt, wF_le, wF_gt, wF_ge, wF_isN, wF_notN, wF_eq_int, wF_eq_bl, wF_eq_str, wF_eq_tup, wF_eq_lst, wF_eq_frz, wF_eq_non, wF_ne_int, wF_ne_bl, wF_ne_str, wF_ne_tup, wF_ne_lst, wF_ne_frz, wF_ne_non, wF_isIn_tup, wF_isIn_lst, wF_isIn_frz, wF_notIn_tup, wF_notIn_lst, wF_notIn_frz, wF_eq_ins, wF_eq_insT, wF_eq_insN, wF_eq_insI, wF_ne_ins, wF_bol_ins, blQ_bl, w_bol, wt_bol, wt_lc2, wi_lc2, wbF_int, wbF_lst, wbF_tup, wbF_str, wb_add, wb_sub, wb_mul, wb_fdiv, wb_mod, wb_pow, wb_ladd, wc_lt, wc_le, wc_gt, wc_ge, wc_eq_int, wc_ne_int, wc_eq_bl, wc_ne_bl, wc_isN_int, wc_isN_bl, wc_isN_non, wc_notN_int, wc_notN_tup, wc_notN_non, w_idxD, seq_lst, seq_tup, seq_frz, seq_0, seq_s, len_lst, len_tup, isLoc_int, isLoc_lst, isLoc_tup, ok_ite, mkQ_eq, tss_nil, tss_cons, bindT, bindTs, wipeE, List.zip_nil_left, List.zip_nil_right, List.zip_cons_cons, List.map_nil, List.map_cons, List.nil_append, List.cons_append, List.length_nil, List.length_cons, List.replicate_zero, List.replicate_succ, List.set_cons_zero, List.set_cons_succ, Nat.reduceAdd, Nat.reduceSub, Bool.false_eq_true, Bool.true_eq_false, if_true, if_false, ite_true, ite_false, idxQ_0, idxQ_1, idxQ_2, idxQ_3, idxQ_4, idxQ_5, idxQ_6, idxQ_7, idxQ_8, idxQ_9, idxQ_10, idxQ_11, putQ_0, putQ_1, putQ_2, putQ_3, putQ_4, putQ_5])
          exact ⟨decide_eq_true hn, trivial⟩
        · refine ok_one (ok_par ?_)
          (try simp only [ok_ok, ok_bind, ok_os, oks_ok, after1_nx, after1_rt, after1_bk, after1_ct, w_con, w_var, varQ_z, varQ_s, w_bin, w_neg, negQ_int, w_not, notQ_bl, w_band, andQ_bl, w_bor, orQ_bl, w_cmp, w_ite, w_tup, w_lst, w_lnew, w_idx, w_slc, w_evo_none, w_evo_some, intQ_int, w_call, w_blt, w_app, w_bitl, bitQ_int, wt_bitl, wi_bitl, wb_shl, w_nil, w_cons,
wt_con, wt_var, wt_bin, wt_neg, wt_cmp, wt_cmp2, wt_tup, wt_lst, wt_lnew, wt_idx, wt_slc, wt_call, wt_blt, wt_lc, wt_app, wi_con, wi_var, wi_bin, wi_neg, wi_cmp, wi_cmp2, wi_tup, wi_lst, wi_lnew, wi_idx, wi_slc, wi_call, wi_blt, wi_lc, wi_app, seqQ_tup, seqQ_lst, seqQ_frz, seqQ_loc, tt_not, tt_band, tt_bor, tt_ite, tstQ_bl, tstQ_non, tstQ_int, tstQ_lst, tstQ_tup, wi_rng, rngQ_int, wi_rng2, rng2Q_int, w_lc,
wF_lt, wF_le, wF_gt, wF_ge, wF_isN, wF_notN, wF_eq_int, wF_eq_bl, wF_eq_str, wF_eq_tup, wF_eq_lst, wF_eq_frz, wF_eq_non, wF_ne_int, wF_ne_bl, wF_ne_str, wF_ne_tup, wF_ne_lst, wF_ne_frz, wF_ne_non, wF_isIn_tup, wF_isIn_lst, wF_isIn_frz, wF_notIn_tup, wF_notIn_lst, wF_notIn_frz, wF_eq_ins, wF_eq_insT, wF_eq_insN, wF_eq_insI, wF_ne_ins, wF_bol_ins, blQ_bl, w_bol, wt_bol, wt_lc2, wi_lc2, wbF_int, wbF_lst, wbF_tup, wbF_str, wb_add, wb_sub, wb_mul, wb_fdiv, wb_mod, wb_pow, wb_ladd, wc_lt, wc_le, wc_gt, wc_ge, wc_eq_int, wc_ne_int, wc_eq_bl, wc_ne_bl, wc_isN_int, wc_isN_bl, wc_isN_non, wc_notN_int, wc_notN_tup, wc_notN_non, w_idxD, seq_lst, seq_tup, seq_frz, seq_0, seq_s, len_lst, len_tup, isLoc_int, isLoc_lst, isLoc_tup, ok_ite, mkQ_eq, tss_nil, tss_cons, bindT, bindTs, wipeE, List.zip_nil_left, List.zip_nil_right, List.zip_cons_cons, List.map_nil, List.map_cons, List.nil_append, List.cons_append, List.length_nil, List.length_cons, List.replicate_zero, List.replicate_succ, List.set_cons_zero, List.set_cons_succ, Nat.reduceAdd, Nat.reduceSub, Bool.false_eq_true, Bool.true_eq_false, if_true, if_false, ite_true, ite_false, idxQ_0, idxQ_1, idxQ_2, idxQ_3, idxQ_4, idxQ_5, idxQ_6, idxQ_7, idxQ_8, idxQ_9, idxQ_10, idxQ_11, putQ_0, putQ_1, putQ_2, putQ_3, putQ_4, putQ_5])
          refine scaled_ok (q := q) (c := -1) hS (sq.mono (by decide)) smc rfl ?_
          (try simp only [ok_ok, ok_bind, ok_os, oks_ok, after1_nx, after1_rt, after1_bk, after1_ct, w_con, w_var, varQ_z, varQ_s, w_bin, w_neg, negQ_int, w_not, notQ_bl, w_band, andQ_bl, w_bor, orQ_bl, w_cmp, w_ite, w_tup, w_lst, w_lnew, w_idx, w_slc, w_evo_none, w_evo_some, intQ_int, w_call, w_blt, w_app, w_bitl, bitQ_int, wt_bitl, wi_bitl, wb_shl, w_nil, w_cons,
wt_con, wt_var, wt_bin, wt_neg, wt_cmp, wt_cmp2, wt_tup, wt_lst, wt_lnew, wt_idx, wt_slc, wt_call, wt_blt, wt_lc, wt_app, wi_con, wi_var, wi_bin, wi_neg, wi_cmp, wi_cmp2, wi_tup, wi_lst, wi_lnew, wi_idx, wi_slc, wi_call, wi_blt, wi_lc, wi_app, seqQ_tup, seqQ_lst, seqQ_frz, seqQ_loc, tt_not, tt_band, tt_bor, tt_ite, tstQ_bl, tstQ_non, tstQ_int, tstQ_lst, tstQ_tup, wi_rng, rngQ_int, wi_rng2, rng2Q_int, w_lc,
wF_lt, wF_le, wF_gt, wF_ge, wF_isN, wF_notN, wF_eq_int, wF_eq_bl, wF_eq_str, wF_eq_tup, wF_eq_lst, wF_eq_frz, wF_eq_non, wF_ne_int, wF_ne_bl, wF_ne_str, wF_ne_tup, wF_ne_lst, wF_ne_frz, wF_ne_non, wF_isIn_tup, wF_isIn_lst, wF_isIn_frz, wF_notIn_tup, wF_notIn_lst, wF_notIn_frz, wF_eq_ins, wF_eq_insT, wF_eq_insN, wF_eq_insI, wF_ne_ins, wF_bol_ins, blQ_bl, w_bol, wt_bol, wt_lc2, wi_lc2, wbF_int, wbF_lst, wbF_tup, wbF_str, wb_add, wb_sub, wb_mul, wb_fdiv, wb_mod, wb_pow, wb_ladd, wc_lt, wc_le, wc_gt, wc_ge, wc_eq_int, wc_ne_int, wc_eq_bl, wc_ne_bl, wc_isN_int, wc_isN_bl, wc_isN_non, wc_notN_int, wc_notN_tup, wc_notN_non, w_idxD, seq_lst, seq_tup, seq_frz, seq_0, seq_s, len_lst, len_tup, isLoc_int, isLoc_lst, isLoc_tup, ok_ite, mkQ_eq, tss_nil, tss_cons, bindT, bindTs, wipeE, List.zip_nil_left, List.zip_nil_right, List.zip_cons_cons, List.map_nil, List.map_cons, List.nil_append, List.cons_append, List.length_nil, List.length_cons, List.replicate_zero, List.replicate_succ, List.set_cons_zero, List.set_cons_succ, Nat.reduceAdd, Nat.reduceSub, Bool.false_eq_true, Bool.true_eq_false, if_true, if_false, ite_true, ite_false, idxQ_0, idxQ_1, idxQ_2, idxQ_3, idxQ_4, idxQ_5, idxQ_6, idxQ_7, idxQ_8, idxQ_9, idxQ_10, idxQ_11, putQ_0, putQ_1, putQ_2, putQ_3, putQ_4, putQ_5])
          refine ⟨_, rfl, ?_⟩
          (try simp only [ok_ok, ok_bind, ok_os, oks_ok, after1_nx, after1_rt, after1_bk, after1_ct, w_con, w_var, varQ_z, varQ_s, w_bin, w_neg, negQ_int, w_not, notQ_bl, w_band, andQ_bl, w_bor, orQ_bl, w_cmp, w_ite, w_tup, w_lst, w_lnew, w_idx, w_slc, w_evo_none, w_evo_some, intQ_int, w_call, w_blt, w_app, w_bitl, bitQ_int, wt_bitl, wi_bitl, wb_shl, w_nil, w_cons,
wt_con, wt_var, wt_bin, wt_neg, wt_cmp, wt_cmp2, wt_tup, wt_lst, wt_lnew, wt_idx, wt_slc, wt_call, wt_blt, wt_lc, wt_app, wi_con, wi_var, wi_bin, wi_neg, wi_cmp, wi_cmp2, wi_tup, wi_lst, wi_lnew, wi_idx, wi_slc, wi_call, wi_blt, wi_lc, wi_app, seqQ_tup, seqQ_lst, seqQ_frz, seqQ_loc, tt_not, tt_band, tt_bor, tt_ite, tstQ_bl, tstQ_non, tstQ_int, tstQ_lst, tstQ_tup, wi_rng, rngQ_int, wi_rng2, rng2Q_int, w_lc,
wF_lt, wF_le, wF_gt, wF_ge, wF_isN, wF_notN, wF_eq_int, wF_eq_bl, wF_eq_str, wF_eq_tup, wF_eq_lst, wF_eq_frz, wF_eq_non, wF_ne_int, wF_ne_bl, wF_ne_str, wF_ne_tup, wF_ne_lst, wF_ne_frz, wF_ne_non, wF_isIn_tup, wF_isIn_lst, wF_isIn_frz, wF_notIn_tup, wF_notIn_lst, wF_notIn_frz, wF_eq_ins, wF_eq_insT, wF_eq_insN, wF_eq_insI, wF_ne_ins, wF_bol_ins, blQ_bl, w_bol, wt_bol, wt_lc2, wi_lc2, wbF_int, wbF_lst, wbF_tup, wbF_str, wb_add, wb_sub, wb_mul, wb_fdiv, wb_mod, wb_pow, wb_ladd, wc_lt, wc_le, wc_gt, wc_ge, wc_eq_int, wc_ne_int, wc_eq_bl, wc_ne_bl, wc_isN_int, wc_isN_bl, wc_isN_non, wc_notN_int, wc_notN_tup, wc_notN_non, w_idxD, seq_lst, seq_tup, seq_frz, seq_0, seq_s, len_lst, len_tup, isLoc_int, isLoc_lst, isLoc_tup, ok_ite, mkQ_eq, tss_nil, tss_cons, bindT, bindTs, wipeE, List.zip_nil_left, List.zip_nil_right, List.zip_cons_cons, List.map_nil, List.map_cons, List.nil_append, List.cons_append, List.length_nil, List.length_cons, List.replicate_zero, List.replicate_succ, List.set_cons_zero, List.set_cons_succ, Nat.reduceAdd, Nat.reduceSub, Bool.false_eq_true, Bool.true_eq_false, if_true, if_false, ite_true, ite_false, idxQ_0, idxQ_1, idxQ_2, idxQ_3, idxQ_4, idxQ_5, idxQ_6, idxQ_7, idxQ_8, idxQ_9, idxQ_10, idxQ_11, putQ_0, putQ_1, putQ_2, putQ_3, putQ_4, putQ_5])
          refine ok_one (ok_ret ?_)
          (try simp only [ok_ok, ok_bind, ok_os, oks_ok, after1_nx, after1_rt, after1_bk, after1_ct, w_con, w_var, varQ_z, varQ_s, w_bin, w_neg, negQ_int, w_not, notQ_bl, w_band, andQ_bl, w_bor, orQ_bl, w_cmp, w_ite, w_tup, w_lst, w_lnew, w_idx, w_slc, w_evo_none, w_evo_some, intQ_int, w_call, w_blt, w_app, w_bitl, bitQ_int, wt_bitl, wi_bitl, wb_shl, w_nil, w_cons,
wt_con, wt_var, wt_bin, wt_neg, wt_cmp, wt_cmp2, wt_tup, wt_lst, wt_lnew, wt_idx, wt_slc, wt_call, wt_blt, wt_lc, wt_app, wi_con, wi_var, wi_bin, wi_neg, wi_cmp, wi_cmp2, wi_tup, wi_lst, wi_lnew, wi_idx, wi_slc, wi_call, wi_blt, wi_lc, wi_app, seqQ_tup, seqQ_lst, seqQ_frz, seqQ_loc, tt_not, tt_band, tt_bor, tt_ite, tstQ_bl, tstQ_non, tstQ_int, tstQ_lst, tstQ_tup, wi_rng, rngQ_int, wi_rng2, rng2Q_int, w_lc,
wF_lt, wF_le, wF_gt, wF_ge, wF_isN, wF_notN, wF_eq_int, wF_eq_bl, wF_eq_str, wF_eq_tup, wF_eq_lst, wF_eq_frz, wF_eq_non, wF_ne_int, wF_ne_bl, wF_ne_str, wF_ne_tup, wF_ne_lst, wF_ne_frz, wF_ne_non, wF_isIn_tup, wF_isIn_lst, wF_isIn_frz, wF_notIn_tup, wF_notIn_lst, wF_notIn_frz, wF_eq_ins, wF_eq_insT, wF_eq_insN, wF_eq_insI, wF_ne_ins, wF_bol_ins, blQ_bl, w_bol, wt_bol, wt_lc2, wi_lc2, wbF_int, wbF_lst, wbF_tup, wbF_str, wb_add, wb_sub, wb_mul, wb_fdiv, wb_mod, wb_pow, wb_ladd, wc_lt, wc_le, wc_gt, wc_ge, wc_eq_int, wc_ne_int, wc_eq_bl, wc_ne_bl, wc_isN_int, wc_isN_bl, wc_isN_non, wc_notN_int, wc_notN_tup, wc_notN_non, w_idxD, seq_lst, seq_tup, seq_frz, seq_0, seq_s, len_lst, len_tup, isLoc_int, isLoc_lst, isLoc_tup, ok_ite, mkQ_eq, tss_nil, tss_cons, bindT, bindTs, wipeE, List.zip_nil_left, List.zip_nil_right, List.zip_cons_cons, List.map_nil, List.map_cons, List.nil_append, List.cons_append, List.length_nil, List.length_cons, List.replicate_zero, List.replicate_succ, List.set_cons_zero, List.set_cons_succ, Nat.reduceAdd, Nat.reduceSub, Bool.false_eq_true, Bool.true_eq_false, if_true, if_false, ite_true, ite_false, idxQ_0, idxQ_1, idxQ_2, idxQ_3, idxQ_4, idxQ_5, idxQ_6, idxQ_7, idxQ_8, idxQ_9, idxQ_10, idxQ_11, putQ_0, putQ_1, putQ_2, putQ_3, putQ_4, putQ_5, pr])
          refine ⟨by rfl, by rfl, ?_⟩
          rw [fin_plain rfl (Nat.le_refl _)]
          exact hQ ⟨a, -b, c⟩ p (q.1 * -1, q.2 * -1) (unit_turn R.u) (by rw [Fm.turn, R.e]) ⟨ha, by dsimp only; omega, by dsimp only; omega, by dsimp only; omega⟩ sp ⟨(sq.1.mul (smc : Sm 1 (-1))), (sq.2.mul (smc : Sm 1 (-1)))⟩
      · refine ok_cons (ok_skip ?_ ?_)
        · (try simp only [ok_ok, ok_bind, ok_os, oks_ok, after1_nx, after1_rt, after1_bk, after1_ct, w_con, w_var, varQ_z, varQ_s, w_bin, w_neg, negQ_int, w_not, notQ_bl, w_band, andQ_bl, w_bor, orQ_bl, w_cmp, w_ite, w_tup, w_lst, w_lnew, w_idx, w_slc, w_evo_none, w_evo_some, intQ_int, w_call, w_blt, w_app, w_bitl, bitQ_int, wt_bitl, wi_bitl, wb_shl, w_nil, w_cons,
wt_con, wt_var, wt_bin, wt_neg, wt_cmp, wt_cmp2, wt_tup, wt_lst, wt_lnew, wt_idx, wt_slc, wt_call, wt_blt, wt_lc, wt_app, wi_con, wi_var, wi_bin, wi_neg, wi_cmp, wi_cmp2, wi_tup, wi_lst, wi_lnew, wi_idx, wi_slc, wi_call, wi_blt, wi_lc, wi_app, seqQ_tup, seqQ_lst, seqQ_frz, seqQ_loc, tt_not, tt_band, tt_bor, tt_ite, tstQ_bl, tstQ_non, tstQ_int, tstQ_lst, tstQ_tup, wi_rng, rngQ_int, wi_rng2, rng2Q_int, w_lc,
wF_lt, wF_le, wF_gt, wF_ge, wF_isN, wF_notN, wF_eq_int, wF_eq_bl, wF_eq_str, wF_eq_tup, wF_eq_lst, wF_eq_frz, wF_eq_non, wF_ne_int, wF_ne_bl, wF_ne_str, wF_ne_tup, wF_ne_lst, wF_ne_frz, wF_ne_non, wF_isIn_tup, wF_isIn_lst, wF_isIn_frz, wF_notIn_tup, wF_notIn_lst, wF_notIn_frz, wF_eq_ins, wF_eq_insT, wF_eq_insN, wF_eq_insI, wF_ne_ins, wF_bol_ins, blQ_bl, w_bol, wt_bol, wt_lc2, wi_lc2, wbF_int, wbF_lst, wbF_tup, wbF_str, wb_add, wb_sub, wb_mul, wb_fdiv, wb_mod, wb_pow, wb_ladd, wc_lt, wc_le, wc_gt, wc_ge, wc_eq_int, wc_ne_int, wc_eq_bl, wc_ne_bl, wc_isN_int, wc_isN_bl, wc_isN_non, wc_notN_int, wc_notN_tup, wc_notN_non, w_idxD, seq_lst, seq_tup, seq_frz, seq_0, seq_s, len_lst, len_tup, isLoc_int, isLoc_lst, isLoc_tup, ok_ite, mkQ_eq, tss_nil, tss_cons, bindT, bindTs, wipeE, List.zip_nil_left, List.zip_nil_right, List.zip_cons_cons, List.map_nil, List.map_cons, List.nil_append, List.cons_append, List.length_nil, List.length_cons, List.replicate_zero, List.replicate_succ, List.set_cons_zero, List.set_cons_succ, Nat.reduceAdd, Nat.reduceSub, Bool.false_eq_true, Bool.true_eq_false, if_true, if_false, ite_true, ite_false, idxQ_0, idxQ_1, idxQ_2, idxQ_3, idxQ_4, idxQ_5, idxQ_6, idxQ_7, idxQ_8, idxQ_9, idxQ_10, idxQ_11, putQ_0, putQ_1, putQ_2, putQ_3, putQ_4, putQ_5])
          exact ⟨decide_eq_false hn, trivial⟩
        · rw [after1_nx]
          refine ok_one (ok_ret ?_)
          (try simp only [ok_ok, ok_bind, ok_os, oks_ok, after1_nx, after1_rt, after1_bk, after1_ct, w_con, w_var, varQ_z, varQ_s, w_bin, w_neg, negQ_int, w_not, notQ_bl, w_band, andQ_bl, w_bor, orQ_bl, w_cmp, w_ite, w_tup, w_lst, w_lnew, w_idx, w_slc, w_evo_none, w_evo_some, intQ_int, w_call, w_blt, w_app, w_bitl, bitQ_int, wt_bitl, wi_bitl, wb_shl, w_nil, w_cons,
wt_con, wt_var, wt_bin, wt_neg, wt_cmp, wt_cmp2, wt_tup, wt_lst, wt_lnew, wt_idx, wt_slc, wt_call, wt_blt, wt_lc, wt_app, wi_con, wi_var, wi_bin, wi_neg, wi_cmp, wi_cmp2, wi_tup, wi_lst, wi_lnew, wi_idx, wi_slc, wi_call, wi_blt, wi_lc, wi_app, seqQ_tup, seqQ_lst, seqQ_frz, seqQ_loc, tt_not, tt_band, tt_bor, tt_ite, tstQ_bl, tstQ_non, tstQ_int, tstQ_lst, tstQ_tup, wi_rng, rngQ_int, wi_rng2, rng2Q_int, w_lc,
wF_lt, wF_le, wF_gt, wF_ge, wF_isN, wF_notN, wF_eq_int, wF_eq_bl, wF_eq_str, wF_eq_tup, wF_eq_lst, wF_eq_frz, wF_eq_non, wF_ne_int, wF_ne_bl, wF_ne_str, wF_ne_tup, wF_ne_lst, wF_ne_frz, wF_ne_non, wF_isIn_tup, wF_isIn_lst, wF_isIn_frz, wF_notIn_tup, wF_notIn_lst, wF_notIn_frz, wF_eq_ins, wF_eq_insT, wF_eq_insN, wF_eq_insI, wF_ne_ins, wF_bol_ins, blQ_bl, w_bol, wt_bol, wt_lc2, wi_lc2, wbF_int, wbF_lst, wbF_tup, wbF_str, wb_add, wb_sub, wb_mul, wb_fdiv, wb_mod, wb_pow, wb_ladd, wc_lt, wc_le, wc_gt, wc_ge, wc_eq_int, wc_ne_int, wc_eq_bl, wc_ne_bl, wc_isN_int, wc_isN_bl, wc_isN_non, wc_notN_int, wc_notN_tup, wc_notN_non, w_idxD, seq_lst, seq_tup, seq_frz, seq_0, seq_s, len_lst, len_tup, isLoc_int, isLoc_lst, isLoc_tup, ok_ite, mkQ_eq, tss_nil, tss_cons, bindT, bindTs, wipeE, List.zip_nil_left, List.zip_nil_right, List.zip_cons_cons, List.map_nil, List.map_cons, List.nil_append, List.cons_append, List.length_nil, List.length_cons, List.replicate_zero, List.replicate_succ, List.set_cons_zero, List.set_cons_succ, Nat.reduceAdd, Nat.reduceSub, Bool.false_eq_true, Bool.true_eq_false, if_true, if_false, ite_true, ite_false, idxQ_0, idxQ_1, idxQ_2, idxQ_3, idxQ_4, idxQ_5, idxQ_6, idxQ_7, idxQ_8, idxQ_9, idxQ_10, idxQ_11, putQ_0, putQ_1, putQ_2, putQ_3, putQ_4, putQ_5, pr])
          refine ⟨by rfl, by rfl, ?_⟩
          rw [fin_plain rfl (Nat.le_refl _)]
          exact hQ ⟨a, b, c⟩ p q R.u R.e ⟨ha, by dsimp only; omega, by dsimp only; omega, by dsimp only; omega⟩ sp (sq.mono (by decide))
end
end GY

namespace GY
open PySem PySem.Spec PyProof.Rows L2
/-- scaled -/
def fd_scaled : Fd where
  npos := 2
  pdf := []
  kdf := []
  star := false
  fresh := false
  ns := 2
  body :=
   [.ret (.tup [.bin .mul (.idx (.var 0) (.con (.int 0))) (.var 1), .bin .mul (.idx (.var 0) (.con (.int 1))) (.var 1)])]
/-- lessened -/
def fd_lessened : Fd where
  npos := 2
  pdf := []
  kdf := []
  star := false
  fresh := false
  ns := 2
  body :=
   [.ret (.tup [.bin .sub (.idx (.var 0) (.con (.int 0))) (.idx (.var 1) (.con (.int 0))), .bin .sub (.idx (.var 0) (.con (.int 1))) (.idx (.var 1) (.con (.int 1)))])]
/-- reduced -/
def fd_reduced : Fd where
  npos := 1
  pdf := []
  kdf := []
  star := false
  fresh := false
  ns := 7
  body :=
   [.asg (.tp [.nm 1, .nm 2, .nm 3]) (.var 0),
    .ifs (.bor (.cmp .le (.var 1) (.con (.int 0))) (.cmp .le (.bin .mul (.var 1) (.var 3)) (.bin .mul (.var 2) (.var 2))))
      [.rse0 111 20 "BadForm"]
      [],
    .asg (.tp [.nm 4, .nm 5]) (.tup [.tup [.con (.int 1), .con (.int 0)], .tup [.con (.int 0), .con (.int 1)]]),
    .whl (.bor (.cmp .gt (.bin .mul (.con (.int 2)) (.blt .abs_ [.var 2])) (.var 1)) (.cmp .gt (.var 1) (.var 3)))
      [.ifs (.cmp .gt (.bin .mul (.con (.int 2)) (.blt .abs_ [.var 2])) (.var 1))
         [.asg (.nm 6) (.bin .fdiv (.bin .add (.bin .mul (.con (.int 2)) (.var 2)) (.var 1)) (.bin .mul (.con (.int 2)) (.var 1))),
          .asg (.nm 5) (.call 16 [.var 5, .call 26 [.var 4, .var 6] [] []] [] []),
          .par [2, 3] [.bin .sub (.var 2) (.bin .mul (.var 6) (.var 1)), .bin .add (.bin .sub (.var 3) (.bin .mul (.bin .mul (.con (.int 2)) (.var 6)) (.var 2))) (.bin .mul (.bin .mul (.var 6) (.var 6)) (.var 1))]]
         [.asg (.tp [.nm 4, .nm 5, .nm 1, .nm 3]) (.tup [.var 5, .var 4, .var 3, .var 1])]],
    .ifs (.cmp .lt (.var 2) (.con (.int 0)))
      [.par [2, 5] [.neg (.var 2), .call 26 [.var 5, .neg (.con (.int 1))] [] []]]
      [],
    .ret (.tup [.tup [.var 1, .var 2, .var 3], .var 4, .var 5])]
/-- _law_source -/
def fd_l_source : Fd where
  npos := 1
  pdf := []
  kdf := []
  star := false
  fresh := true
  ns := 3
  body :=
   [.asg (.nm 1) (.con (.int 3812)),
    .for_ (.nm 2) (.slc (.var 0) none (some (.con (.int 63))))
      [.asg (.nm 1) (.bin .mod (.bin .add (.bin .add (.bin .mul (.var 1) (.con (.int 40692))) (.bin .mod (.var 2) (.con (.int 2147483399)))) (.con (.int 17))) (.con (.int 2147483399)))],
    .ret (.lnew [.blt .list_ [.slc (.var 0) none (some (.con (.int 63)))], .con (.int 0), .con (.int 0), .var 1, .con (.int 0)])]
/-- _law_pull -/
def fd_l_pull : Fd where
  npos := 2
  pdf := []
  kdf := []
  star := false
  fresh := false
  ns := 5
  body :=
   [.put (.var 0) (.con (.int 4)) (.bin .add (.idx (.var 0) (.con (.int 4))) (.con (.int 1))),
    .ifs (.band (.cmp .eq (.idx (.var 0) (.con (.int 2))) (.con (.int 0))) (.cmp .lt (.idx (.var 0) (.con (.int 1))) (.blt .len [.idx (.var 0) (.con (.int 0))])))
      [.asg (.nm 2) (.idx (.idx (.var 0) (.con (.int 0))) (.idx (.var 0) (.con (.int 1)))),
       .put (.var 0) (.con (.int 1)) (.bin .add (.idx (.var 0) (.con (.int 1))) (.con (.int 1))),
       .ifs (.cmp .ge (.var 2) (.bin .pow (.con (.int 10)) (.con (.int 18))))
         [.put (.var 0) (.con (.int 2)) (.var 2)]
         [.asg (.nm 3) (.bin .add (.bin .mul (.idx (.var 0) (.con (.int 3))) (.con (.int 40014))) (.bin .mul (.bin .mod (.var 2) (.con (.int 2147483399))) (.con (.int 69069)))),
          .put (.var 0) (.con (.int 3)) (.bin .mod (.bin .add (.var 3) (.con (.int 11))) (.con (.int 2147483399)))]]
      [],
    .ifs (.cmp .gt (.idx (.var 0) (.con (.int 2))) (.con (.int 0)))
      [.asg (.nm 4) (.bin .mod (.idx (.var 0) (.con (.int 2))) (.var 1)),
       .put (.var 0) (.con (.int 2)) (.bin .fdiv (.idx (.var 0) (.con (.int 2))) (.var 1)),
       .ret (.var 4)]
      [],
    .asg (.nm 3) (.bin .add (.bin .mul (.bin .mul (.idx (.var 0) (.con (.int 3))) (.idx (.var 0) (.con (.int 3)))) (.con (.int 7))) (.bin .mul (.idx (.var 0) (.con (.int 3))) (.con (.int 40692)))),
    .put (.var 0) (.con (.int 3)) (.bin .mod (.bin .add (.var 3) (.bin .mul (.con (.int 1013904223)) (.idx (.var 0) (.con (.int 4))))) (.con (.int 2147483399))),
    .ret (.bin .mod (.bin .fdiv (.idx (.var 0) (.con (.int 3))) (.con (.int 37))) (.var 1))]
/-- _law_of -/
def fd_l_of : Fd where
  npos := 2
  pdf := []
  kdf := []
  star := false
  fresh := false
  ns := 2
  body :=
   [.ret (.idx (.var 1) (.call 9 [.var 0, .blt .len [.var 1]] [] []))]
/-- _law_any_pair -/
def fd_l_any_pair : Fd where
  npos := 1
  pdf := []
  kdf := []
  star := false
  fresh := false
  ns := 2
  body :=
   [.asg (.nm 1) (.call 10 [.var 0, .lst [.con (.int 2), .con (.int 5), .con (.int 9), .con (.int 30), .bin .pow (.con (.int 10)) (.con (.int 6))]] [] []),
    .ret (.tup [.bin .sub (.call 9 [.var 0, .bin .add (.bin .mul (.con (.int 2)) (.var 1)) (.con (.int 1))] [] []) (.var 1), .bin .sub (.call 9 [.var 0, .bin .add (.bin .mul (.con (.int 2)) (.var 1)) (.con (.int 1))] [] []) (.var 1)])]
/-- _law_a_form -/
def fd_l_a_form : Fd where
  npos := 1
  pdf := []
  kdf := []
  star := false
  fresh := false
  ns := 8
  body :=
   [.par [1, 2] [.call 10 [.var 0, .lst [.call 20 [.var 0] [] [], .tup [.con (.int 1), .con (.int 0)]]] [] [], .call 20 [.var 0] [] []],
    .par [3, 4] [.bin .add (.con (.int 1)) (.call 9 [.var 0, .con (.int 9)] [] []), .bin .add (.con (.int 1)) (.call 9 [.var 0, .con (.int 9)] [] [])],
    .par [5, 6, 7] [.bin .mul (.bin .mul (.var 3) (.idx (.var 1) (.con (.int 0)))) (.idx (.var 1) (.con (.int 0))), .bin .mul (.bin .mul (.var 3) (.idx (.var 1) (.con (.int 0)))) (.idx (.var 1) (.con (.int 1))), .bin .mul (.bin .mul (.var 3) (.idx (.var 1) (.con (.int 1)))) (.idx (.var 1) (.con (.int 1)))],
    .par [5, 6, 7] [.bin .add (.var 5) (.bin .mul (.bin .mul (.var 4) (.idx (.var 2) (.con (.int 0)))) (.idx (.var 2) (.con (.int 0)))), .bin .add (.var 6) (.bin .mul (.bin .mul (.var 4) (.idx (.var 2) (.con (.int 0)))) (.idx (.var 2) (.con (.int 1)))), .bin .add (.var 7) (.bin .mul (.bin .mul (.var 4) (.idx (.var 2) (.con (.int 1)))) (.idx (.var 2) (.con (.int 1))))],
    .ret (.ite_ (.band (.cmp .gt (.var 5) (.con (.int 0))) (.cmp .gt (.bin .mul (.var 5) (.var 7)) (.bin .mul (.var 6) (.var 6)))) (.tup [.var 5, .var 6, .var 7]) (.tup [.bin .add (.con (.int 1)) (.call 9 [.var 0, .con (.int 99)] [] []), .con (.int 0), .bin .add (.con (.int 1)) (.call 9 [.var 0, .con (.int 99)] [] [])]))]
/-- _law_edge -/
def fd_l_edge : Fd where
  npos := 1
  pdf := []
  kdf := []
  star := false
  fresh := false
  ns := 3
  body :=
   [.par [1, 2] [.bin .add (.con (.int 2)) (.bin .mul (.con (.int 2)) (.call 9 [.var 0, .con (.int 50)] [] [])), .call 9 [.var 0, .con (.int 50)] [] []],
    .ret (.call 10 [.var 0, .lst [.tup [.var 1, .bin .fdiv (.var 1) (.con (.int 2)), .bin .add (.var 1) (.var 2)], .tup [.var 1, .bin .sub (.con (.int 0)) (.bin .fdiv (.var 1) (.con (.int 2))), .bin .add (.var 1) (.var 2)], .tup [.var 1, .con (.int 1), .var 1], .tup [.var 1, .neg (.con (.int 1)), .var 1], .tup [.bin .add (.var 1) (.var 2), .con (.int 0), .var 1]]] [] [])]
/-- _law_like -/
def fd_l_like : Fd where
  npos := 2
  pdf := []
  kdf := []
  star := false
  fresh := false
  ns := 3
  body :=
   [.ifs (.blt (.isT ["tuple", "list"]) [.var 1])
      [.ifs (.bor (.cmp .ne (.blt (.isT ["tuple"]) [.var 0]) (.blt (.isT ["tuple"]) [.var 1])) (.cmp .ne (.blt (.isT ["list"]) [.var 0]) (.blt (.isT ["list"]) [.var 1])))
         [.ret (.con (.bl false))]
         [],
       .ret (.band (.cmp .eq (.blt .len [.var 0]) (.blt .len [.var 1])) (.blt .all_ [.lc [2] (.nm 2) (.rng1 (.blt .len [.var 1])) [] (.call 12 [.idx (.var 0) (.var 2), .idx (.var 1) (.var 2)] [] [])]))]
      [],
    .ifs (.bor (.cmp .isN (.var 1) (.con .non)) (.cmp .isN (.var 0) (.con .non)))
      [.ret (.band (.cmp .isN (.var 1) (.con .non)) (.cmp .isN (.var 0) (.con .non)))]
      [],
    .ret (.band (.cmp .eq (.blt (.isT ["bool"]) [.var 0]) (.blt (.isT ["bool"]) [.var 1])) (.cmp .eq (.var 0) (.var 1)))]
/-- _law_value_at -/
def fd_l_value_at : Fd where
  npos := 2
  pdf := []
  kdf := []
  star := false
  fresh := false
  ns := 5
  body :=
   [.asg (.tp [.nm 2, .nm 3, .nm 4]) (.var 0),
    .ret (.bin .add (.bin .add (.bin .mul (.bin .mul (.var 2) (.idx (.var 1) (.con (.int 0)))) (.idx (.var 1) (.con (.int 0)))) (.bin .mul (.bin .mul (.bin .mul (.con (.int 2)) (.var 3)) (.idx (.var 1) (.con (.int 0)))) (.idx (.var 1) (.con (.int 1))))) (.bin .mul (.bin .mul (.var 4) (.idx (.var 1) (.con (.int 1)))) (.idx (.var 1) (.con (.int 1)))))]
/-- _law_led -/
def fd_l_led : Fd where
  npos := 3
  pdf := []
  kdf := []
  star := false
  fresh := false
  ns := 7
  body :=
   [.asg (.tp [.nm 3, .nm 4, .nm 5]) (.var 0),
    .asg (.nm 6) (.bin .add (.bin .add (.bin .mul (.bin .mul (.var 3) (.idx (.var 1) (.con (.int 0)))) (.idx (.var 2) (.con (.int 0)))) (.bin .mul (.var 4) (.bin .add (.bin .mul (.idx (.var 1) (.con (.int 0))) (.idx (.var 2) (.con (.int 1)))) (.bin .mul (.idx (.var 1) (.con (.int 1))) (.idx (.var 2) (.con (.int 0))))))) (.bin .mul (.bin .mul (.var 5) (.idx (.var 1) (.con (.int 1)))) (.idx (.var 2) (.con (.int 1))))),
    .ret (.tup [.call 244 [.var 0, .var 1] [] [], .var 6, .call 244 [.var 0, .var 2] [] []])]
/-- _law_is_pair -/
def fd_l_is_pair : Fd where
  npos := 1
  pdf := []
  kdf := []
  star := false
  fresh := false
  ns := 1
  body :=
   [.ret (.band (.blt (.isT ["tuple"]) [.var 0]) (.band (.cmp .eq (.blt .len [.var 0]) (.con (.int 2))) (.band (.blt (.isT ["int"]) [.idx (.var 0) (.con (.int 0))]) (.blt (.isT ["int"]) [.idx (.var 0) (.con (.int 1))]))))]
/-- _law_field_of -/
def fd_l_field_of : Fd where
  npos := 1
  pdf := []
  kdf := []
  star := false
  fresh := false
  ns := 1
  body :=
   [.stk, .stk, .stk, .stk, .stk]
/-- _law_try -/
def fd_l_try : Fd where
  npos := 1
  pdf := []
  kdf := []
  star := false
  fresh := false
  ns := 2
  body :=
   [.stk]
/-- law -/
def fd_law_k47 : Fd where
  npos := 1
  pdf := []
  kdf := []
  star := false
  fresh := false
  ns := 12
  body :=
   [.asg (.nm 1) (.call 7 [.var 0] [] []),
    .for_ (.nm 2) (.rng1 (.con (.int 8)))
      [.asg (.nm 3) (.call 10 [.var 1, .lst [.call 242 [.var 1] [] [], .call 243 [.var 1] [] []]] [] []),
       .asg (.nm 4) (.call 241 [.var 3] [] []),
       .ifs (.bor (.not_ (.blt (.isT ["tuple"]) [.var 4])) (.cmp .ne (.blt .len [.var 4]) (.con (.int 3))))
         [.ret (.con (.bl false))]
         [],
       .asg (.tp [.tp [.nm 9, .nm 10, .nm 11], .nm 7, .nm 8]) (.var 4),
       .ifs (.bor (.not_ (.cmp3 .le .le .le (.con (.int 0)) (.bin .mul (.con (.int 2)) (.var 10)) (.var 9) (.var 11))) (.cmp .ne (.blt .abs_ [.bin .sub (.bin .mul (.idx (.var 7) (.con (.int 0))) (.idx (.var 8) (.con (.int 1)))) (.bin .mul (.idx (.var 7) (.con (.int 1))) (.idx (.var 8) (.con (.int 0))))]) (.con (.int 1))))
         [.ret (.con (.bl false))]
         [],
       .ifs (.bor (.not_ (.call 12 [.idx (.var 4) (.con (.int 0)), .call 245 [.var 3, .var 7, .var 8] [] []] [] [])) (.bor (.not_ (.call 107 [.var 7] [] [])) (.not_ (.call 107 [.var 8] [] []))))
         [.ret (.con (.bl false))]
         [],
       .ifs (.bor (.cmp .ne (.call 241 [] [0] [.var 3]) (.var 4)) (.cmp .ne (.idx (.call 241 [.idx (.var 4) (.con (.int 0))] [] []) (.con (.int 0))) (.idx (.var 4) (.con (.int 0)))))
         [.ret (.con (.bl false))]
         [],
       .asg (.nm 5) (.bin .add (.con (.int 1)) (.call 9 [.var 1, .con (.int 9)] [] [])),
       .asg (.nm 6) (.call 10 [.var 1, .lst [.tup [.con (.int 0), .con (.int 0), .var 5], .tup [.bin .sub (.con (.int 0)) (.var 5), .con (.int 0), .var 5], .tup [.var 5, .var 5, .var 5], .tup [.var 5, .con (.int 0), .con (.int 0)], .tup [.neg (.con (.int 1)), .con (.int 0), .bin .sub (.con (.int 0)) (.var 5)], .tup [.con (.int 1), .var 5, .bin .mul (.var 5) (.var 5)]]] [] []),
       .ifs (.cmp .ne (.tryc [20, 21, 22, 75, 42, 43] [111] (.call 241 [.var 6] [] [])) (.tup [.con (.str "BadForm"), .con .non]))
         [.ret (.con (.bl false))]
         []],
    .ret (.band (.cmp .eq (.idx (.call 241 [.tup [.con (.int 5), .con (.int 7), .con (.int 10)]] [] []) (.con (.int 0))) (.tup [.con (.int 1), .con (.int 0), .con (.int 1)])) (.cmp .eq (.idx (.call 241 [.tup [.con (.int 2), .con (.int 1), .con (.int 2)]] [] []) (.con (.int 0))) (.tup [.con (.int 2), .con (.int 1), .con (.int 2)])))]
def top (i : Nat) : PySem.Stmt := PySem.Challenge.pw_grainyard_k47_reduced_forms.main.body.getD i (.Pass ⟨0, 0, 0, 0⟩)
def inCls (s : PySem.Stmt) (j : Nat) : PySem.Stmt := match s with | .ClassDef _ _ _ b _ _ _ _ _ _ _ => b.getD j (.Pass ⟨0, 0, 0, 0⟩) | _ => .Pass ⟨0, 0, 0, 0⟩
def dx_scaled : DefX := ⟨.glo "scaled", 26, ⟨"scaled", "scaled", defArgs (top 6), defBody (top 6), defScope (top 6), [], []⟩, ["pair", "number"], [], none, ["pair", "number"], fd_scaled, false⟩
def dx_lessened : DefX := ⟨.glo "lessened", 16, ⟨"lessened", "lessened", defArgs (top 7), defBody (top 7), defScope (top 7), [], []⟩, ["one", "other"], [], none, ["one", "other"], fd_lessened, false⟩
def dx_reduced : DefX := ⟨.glo "reduced", 241, ⟨"reduced", "reduced", defArgs (top 9), defBody (top 9), defScope (top 9), [], []⟩, ["form"], [], none, ["form", "a", "b", "c", "first", "second", "times"], fd_reduced, false⟩
def dx_l_source : DefX := ⟨.glo "_law_source", 7, ⟨"_law_source", "_law_source", defArgs (top 11), defBody (top 11), defScope (top 11), [], []⟩, ["_law_script"], [], none, ["_law_script", "_law_mix", "_law_cell"], fd_l_source, false⟩
def dx_l_pull : DefX := ⟨.glo "_law_pull", 9, ⟨"_law_pull", "_law_pull", defArgs (top 12), defBody (top 12), defScope (top 12), [], []⟩, ["_law_bag", "_law_size"], [], none, ["_law_bag", "_law_size", "_law_cell", "_law_mix", "_law_found"], fd_l_pull, false⟩
def dx_l_of : DefX := ⟨.glo "_law_of", 10, ⟨"_law_of", "_law_of", defArgs (top 13), defBody (top 13), defScope (top 13), [], []⟩, ["_law_bag", "_law_some"], [], none, ["_law_bag", "_law_some"], fd_l_of, false⟩
def dx_l_any_pair : DefX := ⟨.glo "_law_any_pair", 20, ⟨"_law_any_pair", "_law_any_pair", defArgs (top 14), defBody (top 14), defScope (top 14), [], []⟩, ["_law_bag"], [], none, ["_law_bag", "_law_size"], fd_l_any_pair, false⟩
def dx_l_a_form : DefX := ⟨.glo "_law_a_form", 242, ⟨"_law_a_form", "_law_a_form", defArgs (top 15), defBody (top 15), defScope (top 15), [], []⟩, ["_law_bag"], [], none, ["_law_bag", "_law_x", "_law_y", "_law_size", "_law_more", "_law_a", "_law_b", "_law_c"], fd_l_a_form, false⟩
def dx_l_edge : DefX := ⟨.glo "_law_edge", 243, ⟨"_law_edge", "_law_edge", defArgs (top 16), defBody (top 16), defScope (top 16), [], []⟩, ["_law_bag"], [], none, ["_law_bag", "_law_a", "_law_more"], fd_l_edge, false⟩
def dx_l_like : DefX := ⟨.glo "_law_like", 12, ⟨"_law_like", "_law_like", defArgs (top 17), defBody (top 17), defScope (top 17), [], []⟩, ["_law_found", "_law_due"], [], none, ["_law_found", "_law_due", "_law_k"], fd_l_like, false⟩
def dx_l_value_at : DefX := ⟨.glo "_law_value_at", 244, ⟨"_law_value_at", "_law_value_at", defArgs (top 18), defBody (top 18), defScope (top 18), [], []⟩, ["_law_form_z", "_law_pair"], [], none, ["_law_form_z", "_law_pair", "_law_a", "_law_b", "_law_c"], fd_l_value_at, false⟩
def dx_l_led : DefX := ⟨.glo "_law_led", 245, ⟨"_law_led", "_law_led", defArgs (top 19), defBody (top 19), defScope (top 19), [], []⟩, ["_law_form_z", "_law_x", "_law_y"], [], none, ["_law_form_z", "_law_x", "_law_y", "_law_a", "_law_b", "_law_c", "_law_middle"], fd_l_led, false⟩
def dx_l_is_pair : DefX := ⟨.glo "_law_is_pair", 107, ⟨"_law_is_pair", "_law_is_pair", defArgs (top 20), defBody (top 20), defScope (top 20), [], []⟩, ["_law_x"], [], none, ["_law_x"], fd_l_is_pair, false⟩
def dx_l_field_of : DefX := ⟨.glo "_law_field_of", 13, ⟨"_law_field_of", "_law_field_of", defArgs (top 21), defBody (top 21), defScope (top 21), [], []⟩, ["_law_e"], [], none, ["_law_e"], fd_l_field_of, false⟩
def dx_l_try : DefX := ⟨.glo "_law_try", 14, ⟨"_law_try", "_law_try", defArgs (top 22), defBody (top 22), defScope (top 22), [], []⟩, ["_law_ask"], [], none, ["_law_ask", "_law_e"], fd_l_try, false⟩
def dx_law_k47 : DefX := ⟨.glo "law", 246, ⟨"law", "law", defArgs (top 23), defBody (top 23), defScope (top 23), [], []⟩, ["_law_script"], [], none, ["_law_script", "_law_bag", "_law_turn", "_law_form_z", "_law_found", "_law_far", "_law_bad", "_law_x", "_law_y", "_law_a", "_law_b", "_law_c"], fd_law_k47, true⟩
def dx_xBadForm : DefX := ⟨.exi "BadForm", 911, ⟨"__init__", "BadForm.__init__", defArgs (inCls (top 3) 0), defBody (inCls (top 3) 0), defScope (inCls (top 3) 0), [], []⟩, ["self"], [], none, ["self"], ⟨1, [], [], false, false, 1, [.stk]⟩, false⟩
def LL : LI where
  tbl := [dx_scaled, dx_lessened, dx_reduced, dx_l_source, dx_l_pull, dx_l_of, dx_l_any_pair, dx_l_a_form, dx_l_edge, dx_l_like, dx_l_value_at, dx_l_led, dx_l_is_pair, dx_l_field_of, dx_l_try, dx_law_k47, dx_xBadForm]
  names := ("__init__" :: "__add__" :: "__sub__" :: "__mul__" :: "__neg__" :: "__getitem__" :: "__eq__" :: "__bool__" :: "__len__" :: "__contains__" :: "__repr__" :: "__call__" :: "of" :: "root" :: "many" :: "area" :: "rows" :: "count" :: "table" :: "replaced" :: "word" :: "number" :: "at" :: "sheet" :: "measure" :: "stock" :: "area_for" :: "marks" :: "weight" :: "determinant" :: "__iter__" :: "grid" :: "steps" :: "turning" :: "chain" :: "spins" :: "add_strip" :: "add_block" :: "add_sheet" :: "turn_strip" :: "tiles" :: "found" :: "most" :: "reason" :: "note" :: "counts" :: "told" :: "notes" :: "by_word" :: "kept" :: "sawn" :: "history" :: "depth" :: "change_depth" :: "do" :: "do_all" :: "take" :: "put" :: "heap_or_new" :: "bring" :: "sell" :: "move" :: "add_order" :: "remove_order" :: "undo" :: "redo" :: "keep_batch" :: "names" :: "orders" :: "heap" :: "order" :: "fillable" :: "attach" :: "tell" :: "twin" :: "name" :: "most_batches" :: "state" :: "earlier" :: "later" :: "listeners" :: "__enter__" :: "__exit__" :: "owner" :: "before" :: "yard" :: "run" :: "answer" :: "told_of" :: "place" :: "lines" :: [])
  flds := []
  prps := []
  mets := []
  clss := []
  subs := []
  xcs := [⟨"BadForm", 111, "BadForm", none⟩]
  tryb := true
  trs := [([20, 21, 22, 75, 42, 43], [111])]
abbrev PP : Nat → Option Fd := tblP LL
theorem P_scaled : PP 26 = some fd_scaled := by rfl
theorem P_lessened : PP 16 = some fd_lessened := by rfl
theorem P_reduced : PP 241 = some fd_reduced := by rfl
theorem P_l_source : PP 7 = some fd_l_source := by rfl
theorem P_l_pull : PP 9 = some fd_l_pull := by rfl
theorem P_l_of : PP 10 = some fd_l_of := by rfl
theorem P_l_any_pair : PP 20 = some fd_l_any_pair := by rfl
theorem P_l_a_form : PP 242 = some fd_l_a_form := by rfl
theorem P_l_edge : PP 243 = some fd_l_edge := by rfl
theorem P_l_like : PP 12 = some fd_l_like := by rfl
theorem P_l_value_at : PP 244 = some fd_l_value_at := by rfl
theorem P_l_led : PP 245 = some fd_l_led := by rfl
theorem P_l_is_pair : PP 107 = some fd_l_is_pair := by rfl
theorem P_l_field_of : PP 13 = some fd_l_field_of := by rfl
theorem P_l_try : PP 14 = some fd_l_try := by rfl
theorem P_law_k47 : PP 246 = some fd_law_k47 := by rfl
theorem chk_tbl : chkTbl 60 LL = true := by kernel_rfl
theorem chk_li : chkLI LL = true := by kernel_rfl

end GY
namespace GY
open PySem PySem.Spec PyProof.Rows L2
variable {XQ : D → Hs → Prop}
theorem SmP.f {k : Nat} {p : Pr} (h : SmP k p) : Sm k p.1 := h.1
theorem SmP.s {k : Nat} {p : Pr} (h : SmP k p) : Sm k p.2 := h.2
local macro_rules | `(tactic| walk_at "w") => `(tactic| simp only [ok_ok, ok_bind, ok_os, oks_ok, after1_nx, after1_rt, after1_bk, after1_ct, sq_nil, sq_cons, sq_asg, bindQ_nm, bindQ_tup, bindQ_lst, bindsQ_nil, bindsQ_cons, sq_par, setQ_nil, setQ_cons, sq_put, sq_setf, sq_ex, sq_ret, sq_retN, sq_pas, sq_brk, sq_cnt, sq_ifs, sq_for, sq_lc, sq_whl, sq_aug, turnQ, compQ, w_con, w_var, varQ_z, varQ_s, w_bin, w_neg, negQ_int, w_not, notQ_bl, w_band, andQ_bl, w_bor, orQ_bl, w_cmp, w_ite, w_tup, w_lst, w_lnew, w_idx, w_slc, w_evo_none, w_evo_some, intQ_int, w_call, w_blt, w_app, w_bitl, bitQ_int, wb_shl, w_nil, w_cons, w_attr, w_prop, propQ_ins, w_meth, methQ_ins, w_new, nonQ_non, w_isI, isN_ins, wt_bitl, wi_bitl, wt_con, wt_var, wt_bin, wt_neg, wt_cmp, wt_cmp2, wt_tup, wt_lst, wt_lnew, wt_idx, wt_slc, wt_call, wt_blt, wt_lc, wt_app, wt_attr, wt_prop, wt_meth, wt_new, wt_isI, wi_con, wi_var, wi_bin, wi_neg, wi_cmp, wi_cmp2, wi_tup, wi_lst, wi_lnew, wi_idx, wi_slc, wi_call, wi_blt, wi_lc, wi_app, wi_attr, wi_prop, wi_meth, wi_new, seqQ_tup, seqQ_lst, seqQ_frz, seqQ_loc, tt_not, tt_band, tt_bor, tt_ite, tstQ_bl, tstQ_non, tstQ_int, tstQ_lst, tstQ_tup, wi_rng, rngQ_int, wi_rng2, rng2Q_int, sq_rse0, sq_rse1, w_tryc, w_cmp3, wt_cmp3, wt_tryc, wi_tryc, blS_bl, sq_lc2, lc2Q_eq, lcA_nil, lcA_cons, lc2A_nil, lc2A_cons, accQ_none, accQ_some, wF_lt, wF_le, wF_gt, wF_ge, wF_isN, wF_notN, wF_eq_int, wF_eq_bl, wF_eq_str, wF_eq_tup, wF_eq_lst, wF_eq_frz, wF_eq_non, wF_ne_int, wF_ne_bl, wF_ne_str, wF_ne_tup, wF_ne_lst, wF_ne_frz, wF_ne_non, wF_isIn_tup, wF_isIn_lst, wF_isIn_frz, wF_notIn_tup, wF_notIn_lst, wF_notIn_frz, wF_eq_ins, wF_eq_insT, wF_eq_insN, wF_eq_insI, wF_ne_ins, wF_bol_ins, blQ_bl, w_bol, wt_bol, wt_lc2, wi_lc2, wbF_int, wbF_lst, wbF_tup, wbF_str, binF_add, binF_sub, binF_mul, negF_ins, wb_add, wb_sub, wb_mul, wb_fdiv, wb_mod, wb_pow, wb_ladd, wc_lt, wc_le, wc_gt, wc_ge, wc_eq_int, wc_ne_int, wc_eq_bl, wc_ne_bl, wc_isN_int, wc_isN_bl, wc_isN_non, wc_notN_int, wc_notN_tup, wc_notN_non, w_idxD, seq_lst, seq_tup, seq_frz, seq_0, seq_s, len_lst, len_tup, isLoc_int, isLoc_lst, isLoc_tup, isLoc_bl, isLoc_str, isLoc_non, isLoc_ins, noLoc_nil, noLoc_cons, mk_0, mk_1, mkQ_eq, ok_ite, tss_nil, tss_cons, wipeE, attr_ins, attr_loc0, attr_last, atQ_same, atQ_ne, setf_last, putFd_nil, putFd_ne, demote_last, fin_int, fin_bl, fin_non, fin_str, fin_tup, fin_lst, fin_ins, List.take_length, take_last, PySem.sizeLine_eq, Nat.reduceLeDiff, Nat.reduceLT, List.take_succ_cons, List.zip_nil_left, List.zip_nil_right, List.zip_cons_cons, List.map_nil, List.map_cons, List.nil_append, List.cons_append, List.length_nil, List.length_cons, List.replicate_zero, List.replicate_succ, List.set_cons_zero, List.set_cons_succ, Nat.reduceAdd, Nat.reduceSub, Nat.reduceBEq, Nat.reduceEqDiff, Nat.zero_add, Bool.false_eq_true, Bool.true_eq_false, if_true, if_false, ite_true, ite_false, reduceIte, decide_eq_true_eq, Bool.not_eq_true', decide_eq_false_iff_not, Bool.and_eq_true, Bool.or_eq_true, beq_iff_eq, Bool.not_true, Bool.not_false, true_and, and_true, true_or, or_true, List.lookup_nil, Option.isNone_none, Bool.and_true, Bool.true_and, decide_true, decide_false, cont_1, cont_2, look_nil, look_cons, isT_int', isT_bl', isT_str', isT_non', isT_tup', isT_lst', abs_', ty_1, ty_2, ty_3, ty_4, ty_5, ty_6, ty_7, ty_8, ty_9, ty_10, ty_11, ty_12, ty_13, ty_14, ty_15, ty_16, ty_17, cst_0, cst_1, cst_2, cst_3, cst_4, cst_5, cst_6, Int.reduceEq, Int.reduceLT, Int.reduceLE, idxQ_0, idxQ_1, idxQ_2, idxQ_3, idxQ_4, idxQ_5, idxQ_6, idxQ_7, idxQ_8, idxQ_9, idxQ_10, idxQ_11, putQ_0, putQ_1, putQ_2, putQ_3, putQ_4, putQ_5])
local macro_rules | `(tactic| walk_at "sm") => `(tactic| first | with_reducible assumption | ((with_reducible apply Sm.mul) <;> walk_at "sm") | ((with_reducible apply Sm.add) <;> walk_at "sm") | ((with_reducible apply Sm.sub) <;> walk_at "sm") | ((with_reducible apply Sm.neg) <;> walk_at "sm") | (with_reducible apply SmP.f; with_reducible assumption) | (with_reducible apply SmP.s; with_reducible assumption) | ((with_reducible apply sm_nabs); walk_at "sm") | exact smc (k := 64))
local macro_rules | `(tactic| walk_at "big") => `(tactic| exact Sm.big (by walk_at "sm") (by walk_at "sm") (by decide) (by decide))
local macro_rules | `(tactic| walk_at "side") => `(tactic| first | with_reducible trivial | assumption | walk_at "big" | omega | decide | (refine ⟨by trivial, ?_⟩; decide) | rfl | trivial)
local macro_rules | `(tactic| walk_at "go") => `(tactic| ((try walk_at "w"); (repeat (first | (with_reducible refine And.intro ?walk_a ?_; case walk_a => walk_at "side") | walk_at "w"))))

section
variable {N k : Nat} {t h : Hs} {ob : Ob} {Q : D → Hs → Prop}
theorem d_pull {s : Int} (b : Bag N ob) (hN : N < 1000000000) (hs : 0 < s) (sm : Sm 8999 s) (hQ : ∀ f ob', 0 ≤ f → f < s → Bag (N + 1) ob' → Q (.int f) (ob' :: t)) : OkV XQ (callN PP (k + 1) 9 [.loc 0, .int s] [] (ob :: t)) Q :=
  pull_ok (h := ob :: t) P_l_pull hN rfl b hs sm fun f ob' => hQ f ob'
theorem d_of {ds : List D} (b : Bag N ob) (hN : N < 1000000000) (h0 : ds ≠ []) (h1 : ds.length < 100000) (nl : noLoc ds = true) (hQ : ∀ d ob', d ∈ ds → Bag (N + 1) ob' → Q d (ob' :: t)) : OkV XQ (callN PP (k + 2) 10 [.loc 0, .lst ds] [] (ob :: t)) Q :=
  of_ok (h := ob :: t) (j := 9) P_l_of P_l_pull hN rfl b (.inl rfl) h0 h1 nl fun d ob' => hQ d ob'
theorem d_ofT {ds : List D} (b : Bag N ob) (hN : N < 1000000000) (h0 : ds ≠ []) (h1 : ds.length < 100000) (nl : noLoc ds = true) (hQ : ∀ d ob', d ∈ ds → Bag (N + 1) ob' → Q d (ob' :: t)) : OkV XQ (callN PP (k + 2) 10 [.loc 0, .tup ds] [] (ob :: t)) Q :=
  of_ok (h := ob :: t) (j := 9) P_l_of P_l_pull hN rfl b (.inr rfl) h0 h1 nl fun d ob' => hQ d ob'
theorem d_any_pair (b : Bag N ob) (hN : N < 100000000) (hQ : ∀ x y ob', Sm 20 x → Sm 20 y → Bag (N + 3) ob' → Q (.tup [.int x, .int y]) (ob' :: t)) : OkV XQ (callN PP (k + 3) 20 [.loc 0] [] (ob :: t)) Q :=
  anypair_ok (h := ob :: t) (o := 10) (p := 9) P_l_any_pair P_l_of P_l_pull hN rfl b fun x y ob' h1 h2 h3 h4 => hQ x y ob' (Sm.of 20 (by omega) (by omega)) (Sm.of 20 (by omega) (by omega))
theorem d_source {ns : List Int} (hQ : ∀ ob, Bag 0 ob → Q (.loc 0) [ob]) : OkV XQ (callN PP (k + 1) 7 [.frz (ns.map .int)] [] []) Q :=
  source_ok (h := []) P_l_source hQ
theorem d_like {m : Nat} {x y : D} (q : Lk h m x y) (hQ : Q (.bl true) h) : OkV XQ (callN PP (k + m + 1) 12 [x, y] [] h) Q := like_ok P_l_like q hQ
/-- data that are alike themselves -/
def plainB : Nat → D → Bool
  | _, .non => true
  | _, .bl _ => true
  | _, .int _ => true
  | _, .str _ => false
  | n + 1, .tup ds => decide (ds.length ≤ 10000000) && plainsB n ds
  | n + 1, .lst ds => decide (ds.length ≤ 10000000) && plainsB n ds
  | _, _ => false
where plainsB : Nat → List D → Bool
  | _, [] => true
  | n, d :: ds => plainB n d && plainsB n ds
theorem plains_get {n : Nat} : ∀ {ds : List D}, plainB.plainsB n ds = true → ∀ (j : Nat) (a : D), ds[j]? = some a → plainB n a = true
  | [], _, j, a, e => by simp at e
  | d :: ds, h, 0, a, e => by
    simp only [plainB.plainsB, Bool.and_eq_true] at h
    simp at e; subst e; exact h.1
  | d :: ds, h, j + 1, a, e => by
    simp only [plainB.plainsB, Bool.and_eq_true] at h
    exact plains_get h.2 j a (by simpa using e)
theorem Lk.self : ∀ {n : Nat} {d : D}, plainB n d = true → Lk h n d d
  | n, .non, _ => .non n
  | n, .bl b, _ => .bl n b
  | n, .int b, _ => .int n b
  | n + 1, .tup ds, q => by
    simp only [plainB, Bool.and_eq_true, decide_eq_true_eq] at q
    exact .tup rfl rfl rfl rfl q.1 rfl fun j a b e1 e2 => by
      rw [e1] at e2; cases e2
      exact Lk.self (plains_get q.2 j a e1)
  | n + 1, .lst ds, q => by
    simp only [plainB, Bool.and_eq_true, decide_eq_true_eq] at q
    exact .lst rfl rfl rfl rfl q.1 rfl fun j a b e1 e2 => by
      rw [e1] at e2; cases e2
      exact Lk.self (plains_get q.2 j a e1)
  | 0, .tup _, q => by simp [plainB] at q
  | 0, .lst _, q => by simp [plainB] at q
  | n, .str _, q => by cases n <;> simp [plainB] at q
  | n, .frz _, q => by cases n <;> simp [plainB] at q
  | n, .ins _ _, q => by cases n <;> simp [plainB] at q
  | n, .exc _ _, q => by cases n <;> simp [plainB] at q
  | n, .loc _, q => by cases n <;> simp [plainB] at q
theorem d_likeE {m : Nat} {x y : D} (e : x = y) (q : plainB m y = true) (hQ : Q (.bl true) h) : OkV XQ (callN PP (k + m + 1) 12 [x, y] [] h) Q := by subst e; exact d_like (Lk.self q) hQ
theorem d_lessened {a b c e : Int} (hQ : Q (.tup [.int (a - c), .int (b - e)]) h) : OkV XQ (callN PP (k + 1) 16 [.tup [.int a, .int b], .tup [.int c, .int e]] [] h) Q :=
  minus_ok (p := (a, b)) (q := (c, e)) P_lessened rfl hQ
theorem d_scaled {a b c : Int} (sa : Sm 1000 a) (sb : Sm 1000 b) (hc : Sm 1000 c) (hQ : Q (.tup [.int (a * c), .int (b * c)]) h) : OkV XQ (callN PP (k + 1) 26 [.tup [.int a, .int b], .int c] [] h) Q :=
  scaled_ok (q := (a, b)) P_scaled ⟨sa, sb⟩ hc rfl hQ
end
end GY

namespace GY
open PySem PySem.Spec PyProof.Rows L2
variable {XQ : D → Hs → Prop}
theorem law_of {F : Fns} {b : List S} {r : Env1} (q : OkS noE (exSs F b r []) fun fl _ _ => fl = .rt (.bl true)) : ∃ r1 h1, exSs F b r [] = .ok (.rt (.bl true)) r1 h1 := by
  obtain ⟨a, r1, h1, e, rfl⟩ := q.ex
  exact ⟨r1, h1, e⟩
theorem ls_0 {α : Type} {l : List α} (h : l.length = 0) : l = [] := List.length_eq_zero_iff.mp h
theorem ls_S {α : Type} {l : List α} {n : Nat} (h : l.length = n + 1) : ∃ x t, t.length = n ∧ l = x :: t := by
  cases l with
  | nil => cases h
  | cons x t => exact ⟨x, t, Nat.succ.inj h, rfl⟩
theorem ls_1 {α : Type} {l : List α} (h : l.length = 1) : ∃ x0, l = x0 :: [] := by
  obtain ⟨x0, t, ht, rfl⟩ := ls_S h
  obtain rfl := ls_0 ht
  exact ⟨x0, rfl⟩
theorem ls_2 {α : Type} {l : List α} (h : l.length = 2) : ∃ x0 x1, l = x0 :: x1 :: [] := by
  obtain ⟨x0, t, ht, rfl⟩ := ls_S h
  obtain ⟨x1, rfl⟩ := ls_1 ht
  exact ⟨x0, x1, rfl⟩
theorem ls_3 {α : Type} {l : List α} (h : l.length = 3) : ∃ x0 x1 x2, l = x0 :: x1 :: x2 :: [] := by
  obtain ⟨x0, t, ht, rfl⟩ := ls_S h
  obtain ⟨x1, x2, rfl⟩ := ls_2 ht
  exact ⟨x0, x1, x2, rfl⟩
theorem ls_4 {α : Type} {l : List α} (h : l.length = 4) : ∃ x0 x1 x2 x3, l = x0 :: x1 :: x2 :: x3 :: [] := by
  obtain ⟨x0, t, ht, rfl⟩ := ls_S h
  obtain ⟨x1, x2, x3, rfl⟩ := ls_3 ht
  exact ⟨x0, x1, x2, x3, rfl⟩
theorem ls_5 {α : Type} {l : List α} (h : l.length = 5) : ∃ x0 x1 x2 x3 x4, l = x0 :: x1 :: x2 :: x3 :: x4 :: [] := by
  obtain ⟨x0, t, ht, rfl⟩ := ls_S h
  obtain ⟨x1, x2, x3, x4, rfl⟩ := ls_4 ht
  exact ⟨x0, x1, x2, x3, x4, rfl⟩
theorem ls_6 {α : Type} {l : List α} (h : l.length = 6) : ∃ x0 x1 x2 x3 x4 x5, l = x0 :: x1 :: x2 :: x3 :: x4 :: x5 :: [] := by
  obtain ⟨x0, t, ht, rfl⟩ := ls_S h
  obtain ⟨x1, x2, x3, x4, x5, rfl⟩ := ls_5 ht
  exact ⟨x0, x1, x2, x3, x4, x5, rfl⟩
theorem ls_7 {α : Type} {l : List α} (h : l.length = 7) : ∃ x0 x1 x2 x3 x4 x5 x6, l = x0 :: x1 :: x2 :: x3 :: x4 :: x5 :: x6 :: [] := by
  obtain ⟨x0, t, ht, rfl⟩ := ls_S h
  obtain ⟨x1, x2, x3, x4, x5, x6, rfl⟩ := ls_6 ht
  exact ⟨x0, x1, x2, x3, x4, x5, x6, rfl⟩
theorem ls_8 {α : Type} {l : List α} (h : l.length = 8) : ∃ x0 x1 x2 x3 x4 x5 x6 x7, l = x0 :: x1 :: x2 :: x3 :: x4 :: x5 :: x6 :: x7 :: [] := by
  obtain ⟨x0, t, ht, rfl⟩ := ls_S h
  obtain ⟨x1, x2, x3, x4, x5, x6, x7, rfl⟩ := ls_7 ht
  exact ⟨x0, x1, x2, x3, x4, x5, x6, x7, rfl⟩
theorem ls_9 {α : Type} {l : List α} (h : l.length = 9) : ∃ x0 x1 x2 x3 x4 x5 x6 x7 x8, l = x0 :: x1 :: x2 :: x3 :: x4 :: x5 :: x6 :: x7 :: x8 :: [] := by
  obtain ⟨x0, t, ht, rfl⟩ := ls_S h
  obtain ⟨x1, x2, x3, x4, x5, x6, x7, x8, rfl⟩ := ls_8 ht
  exact ⟨x0, x1, x2, x3, x4, x5, x6, x7, x8, rfl⟩
theorem ls_10 {α : Type} {l : List α} (h : l.length = 10) : ∃ x0 x1 x2 x3 x4 x5 x6 x7 x8 x9, l = x0 :: x1 :: x2 :: x3 :: x4 :: x5 :: x6 :: x7 :: x8 :: x9 :: [] := by
  obtain ⟨x0, t, ht, rfl⟩ := ls_S h
  obtain ⟨x1, x2, x3, x4, x5, x6, x7, x8, x9, rfl⟩ := ls_9 ht
  exact ⟨x0, x1, x2, x3, x4, x5, x6, x7, x8, x9, rfl⟩
theorem ls_11 {α : Type} {l : List α} (h : l.length = 11) : ∃ x0 x1 x2 x3 x4 x5 x6 x7 x8 x9 x10, l = x0 :: x1 :: x2 :: x3 :: x4 :: x5 :: x6 :: x7 :: x8 :: x9 :: x10 :: [] := by
  obtain ⟨x0, t, ht, rfl⟩ := ls_S h
  obtain ⟨x1, x2, x3, x4, x5, x6, x7, x8, x9, x10, rfl⟩ := ls_10 ht
  exact ⟨x0, x1, x2, x3, x4, x5, x6, x7, x8, x9, x10, rfl⟩
theorem ls_12 {α : Type} {l : List α} (h : l.length = 12) : ∃ x0 x1 x2 x3 x4 x5 x6 x7 x8 x9 x10 x11, l = x0 :: x1 :: x2 :: x3 :: x4 :: x5 :: x6 :: x7 :: x8 :: x9 :: x10 :: x11 :: [] := by
  obtain ⟨x0, t, ht, rfl⟩ := ls_S h
  obtain ⟨x1, x2, x3, x4, x5, x6, x7, x8, x9, x10, x11, rfl⟩ := ls_11 ht
  exact ⟨x0, x1, x2, x3, x4, x5, x6, x7, x8, x9, x10, x11, rfl⟩
theorem ls_13 {α : Type} {l : List α} (h : l.length = 13) : ∃ x0 x1 x2 x3 x4 x5 x6 x7 x8 x9 x10 x11 x12, l = x0 :: x1 :: x2 :: x3 :: x4 :: x5 :: x6 :: x7 :: x8 :: x9 :: x10 :: x11 :: x12 :: [] := by
  obtain ⟨x0, t, ht, rfl⟩ := ls_S h
  obtain ⟨x1, x2, x3, x4, x5, x6, x7, x8, x9, x10, x11, x12, rfl⟩ := ls_12 ht
  exact ⟨x0, x1, x2, x3, x4, x5, x6, x7, x8, x9, x10, x11, x12, rfl⟩
theorem ls_14 {α : Type} {l : List α} (h : l.length = 14) : ∃ x0 x1 x2 x3 x4 x5 x6 x7 x8 x9 x10 x11 x12 x13, l = x0 :: x1 :: x2 :: x3 :: x4 :: x5 :: x6 :: x7 :: x8 :: x9 :: x10 :: x11 :: x12 :: x13 :: [] := by
  obtain ⟨x0, t, ht, rfl⟩ := ls_S h
  obtain ⟨x1, x2, x3, x4, x5, x6, x7, x8, x9, x10, x11, x12, x13, rfl⟩ := ls_13 ht
  exact ⟨x0, x1, x2, x3, x4, x5, x6, x7, x8, x9, x10, x11, x12, x13, rfl⟩
theorem ls_15 {α : Type} {l : List α} (h : l.length = 15) : ∃ x0 x1 x2 x3 x4 x5 x6 x7 x8 x9 x10 x11 x12 x13 x14, l = x0 :: x1 :: x2 :: x3 :: x4 :: x5 :: x6 :: x7 :: x8 :: x9 :: x10 :: x11 :: x12 :: x13 :: x14 :: [] := by
  obtain ⟨x0, t, ht, rfl⟩ := ls_S h
  obtain ⟨x1, x2, x3, x4, x5, x6, x7, x8, x9, x10, x11, x12, x13, x14, rfl⟩ := ls_14 ht
  exact ⟨x0, x1, x2, x3, x4, x5, x6, x7, x8, x9, x10, x11, x12, x13, x14, rfl⟩
theorem ls_16 {α : Type} {l : List α} (h : l.length = 16) : ∃ x0 x1 x2 x3 x4 x5 x6 x7 x8 x9 x10 x11 x12 x13 x14 x15, l = x0 :: x1 :: x2 :: x3 :: x4 :: x5 :: x6 :: x7 :: x8 :: x9 :: x10 :: x11 :: x12 :: x13 :: x14 :: x15 :: [] := by
  obtain ⟨x0, t, ht, rfl⟩ := ls_S h
  obtain ⟨x1, x2, x3, x4, x5, x6, x7, x8, x9, x10, x11, x12, x13, x14, x15, rfl⟩ := ls_15 ht
  exact ⟨x0, x1, x2, x3, x4, x5, x6, x7, x8, x9, x10, x11, x12, x13, x14, x15, rfl⟩
theorem ls_17 {α : Type} {l : List α} (h : l.length = 17) : ∃ x0 x1 x2 x3 x4 x5 x6 x7 x8 x9 x10 x11 x12 x13 x14 x15 x16, l = x0 :: x1 :: x2 :: x3 :: x4 :: x5 :: x6 :: x7 :: x8 :: x9 :: x10 :: x11 :: x12 :: x13 :: x14 :: x15 :: x16 :: [] := by
  obtain ⟨x0, t, ht, rfl⟩ := ls_S h
  obtain ⟨x1, x2, x3, x4, x5, x6, x7, x8, x9, x10, x11, x12, x13, x14, x15, x16, rfl⟩ := ls_16 ht
  exact ⟨x0, x1, x2, x3, x4, x5, x6, x7, x8, x9, x10, x11, x12, x13, x14, x15, x16, rfl⟩
theorem ls_18 {α : Type} {l : List α} (h : l.length = 18) : ∃ x0 x1 x2 x3 x4 x5 x6 x7 x8 x9 x10 x11 x12 x13 x14 x15 x16 x17, l = x0 :: x1 :: x2 :: x3 :: x4 :: x5 :: x6 :: x7 :: x8 :: x9 :: x10 :: x11 :: x12 :: x13 :: x14 :: x15 :: x16 :: x17 :: [] := by
  obtain ⟨x0, t, ht, rfl⟩ := ls_S h
  obtain ⟨x1, x2, x3, x4, x5, x6, x7, x8, x9, x10, x11, x12, x13, x14, x15, x16, x17, rfl⟩ := ls_17 ht
  exact ⟨x0, x1, x2, x3, x4, x5, x6, x7, x8, x9, x10, x11, x12, x13, x14, x15, x16, x17, rfl⟩
theorem ls_19 {α : Type} {l : List α} (h : l.length = 19) : ∃ x0 x1 x2 x3 x4 x5 x6 x7 x8 x9 x10 x11 x12 x13 x14 x15 x16 x17 x18, l = x0 :: x1 :: x2 :: x3 :: x4 :: x5 :: x6 :: x7 :: x8 :: x9 :: x10 :: x11 :: x12 :: x13 :: x14 :: x15 :: x16 :: x17 :: x18 :: [] := by
  obtain ⟨x0, t, ht, rfl⟩ := ls_S h
  obtain ⟨x1, x2, x3, x4, x5, x6, x7, x8, x9, x10, x11, x12, x13, x14, x15, x16, x17, x18, rfl⟩ := ls_18 ht
  exact ⟨x0, x1, x2, x3, x4, x5, x6, x7, x8, x9, x10, x11, x12, x13, x14, x15, x16, x17, x18, rfl⟩
theorem ls_20 {α : Type} {l : List α} (h : l.length = 20) : ∃ x0 x1 x2 x3 x4 x5 x6 x7 x8 x9 x10 x11 x12 x13 x14 x15 x16 x17 x18 x19, l = x0 :: x1 :: x2 :: x3 :: x4 :: x5 :: x6 :: x7 :: x8 :: x9 :: x10 :: x11 :: x12 :: x13 :: x14 :: x15 :: x16 :: x17 :: x18 :: x19 :: [] := by
  obtain ⟨x0, t, ht, rfl⟩ := ls_S h
  obtain ⟨x1, x2, x3, x4, x5, x6, x7, x8, x9, x10, x11, x12, x13, x14, x15, x16, x17, x18, x19, rfl⟩ := ls_19 ht
  exact ⟨x0, x1, x2, x3, x4, x5, x6, x7, x8, x9, x10, x11, x12, x13, x14, x15, x16, x17, x18, x19, rfl⟩
theorem ls_21 {α : Type} {l : List α} (h : l.length = 21) : ∃ x0 x1 x2 x3 x4 x5 x6 x7 x8 x9 x10 x11 x12 x13 x14 x15 x16 x17 x18 x19 x20, l = x0 :: x1 :: x2 :: x3 :: x4 :: x5 :: x6 :: x7 :: x8 :: x9 :: x10 :: x11 :: x12 :: x13 :: x14 :: x15 :: x16 :: x17 :: x18 :: x19 :: x20 :: [] := by
  obtain ⟨x0, t, ht, rfl⟩ := ls_S h
  obtain ⟨x1, x2, x3, x4, x5, x6, x7, x8, x9, x10, x11, x12, x13, x14, x15, x16, x17, x18, x19, x20, rfl⟩ := ls_20 ht
  exact ⟨x0, x1, x2, x3, x4, x5, x6, x7, x8, x9, x10, x11, x12, x13, x14, x15, x16, x17, x18, x19, x20, rfl⟩
theorem ls_22 {α : Type} {l : List α} (h : l.length = 22) : ∃ x0 x1 x2 x3 x4 x5 x6 x7 x8 x9 x10 x11 x12 x13 x14 x15 x16 x17 x18 x19 x20 x21, l = x0 :: x1 :: x2 :: x3 :: x4 :: x5 :: x6 :: x7 :: x8 :: x9 :: x10 :: x11 :: x12 :: x13 :: x14 :: x15 :: x16 :: x17 :: x18 :: x19 :: x20 :: x21 :: [] := by
  obtain ⟨x0, t, ht, rfl⟩ := ls_S h
  obtain ⟨x1, x2, x3, x4, x5, x6, x7, x8, x9, x10, x11, x12, x13, x14, x15, x16, x17, x18, x19, x20, x21, rfl⟩ := ls_21 ht
  exact ⟨x0, x1, x2, x3, x4, x5, x6, x7, x8, x9, x10, x11, x12, x13, x14, x15, x16, x17, x18, x19, x20, x21, rfl⟩
theorem ls_23 {α : Type} {l : List α} (h : l.length = 23) : ∃ x0 x1 x2 x3 x4 x5 x6 x7 x8 x9 x10 x11 x12 x13 x14 x15 x16 x17 x18 x19 x20 x21 x22, l = x0 :: x1 :: x2 :: x3 :: x4 :: x5 :: x6 :: x7 :: x8 :: x9 :: x10 :: x11 :: x12 :: x13 :: x14 :: x15 :: x16 :: x17 :: x18 :: x19 :: x20 :: x21 :: x22 :: [] := by
  obtain ⟨x0, t, ht, rfl⟩ := ls_S h
  obtain ⟨x1, x2, x3, x4, x5, x6, x7, x8, x9, x10, x11, x12, x13, x14, x15, x16, x17, x18, x19, x20, x21, x22, rfl⟩ := ls_22 ht
  exact ⟨x0, x1, x2, x3, x4, x5, x6, x7, x8, x9, x10, x11, x12, x13, x14, x15, x16, x17, x18, x19, x20, x21, x22, rfl⟩
theorem ls_24 {α : Type} {l : List α} (h : l.length = 24) : ∃ x0 x1 x2 x3 x4 x5 x6 x7 x8 x9 x10 x11 x12 x13 x14 x15 x16 x17 x18 x19 x20 x21 x22 x23, l = x0 :: x1 :: x2 :: x3 :: x4 :: x5 :: x6 :: x7 :: x8 :: x9 :: x10 :: x11 :: x12 :: x13 :: x14 :: x15 :: x16 :: x17 :: x18 :: x19 :: x20 :: x21 :: x22 :: x23 :: [] := by
  obtain ⟨x0, t, ht, rfl⟩ := ls_S h
  obtain ⟨x1, x2, x3, x4, x5, x6, x7, x8, x9, x10, x11, x12, x13, x14, x15, x16, x17, x18, x19, x20, x21, x22, x23, rfl⟩ := ls_23 ht
  exact ⟨x0, x1, x2, x3, x4, x5, x6, x7, x8, x9, x10, x11, x12, x13, x14, x15, x16, x17, x18, x19, x20, x21, x22, x23, rfl⟩
theorem ls_25 {α : Type} {l : List α} (h : l.length = 25) : ∃ x0 x1 x2 x3 x4 x5 x6 x7 x8 x9 x10 x11 x12 x13 x14 x15 x16 x17 x18 x19 x20 x21 x22 x23 x24, l = x0 :: x1 :: x2 :: x3 :: x4 :: x5 :: x6 :: x7 :: x8 :: x9 :: x10 :: x11 :: x12 :: x13 :: x14 :: x15 :: x16 :: x17 :: x18 :: x19 :: x20 :: x21 :: x22 :: x23 :: x24 :: [] := by
  obtain ⟨x0, t, ht, rfl⟩ := ls_S h
  obtain ⟨x1, x2, x3, x4, x5, x6, x7, x8, x9, x10, x11, x12, x13, x14, x15, x16, x17, x18, x19, x20, x21, x22, x23, x24, rfl⟩ := ls_24 ht
  exact ⟨x0, x1, x2, x3, x4, x5, x6, x7, x8, x9, x10, x11, x12, x13, x14, x15, x16, x17, x18, x19, x20, x21, x22, x23, x24, rfl⟩
theorem ls_26 {α : Type} {l : List α} (h : l.length = 26) : ∃ x0 x1 x2 x3 x4 x5 x6 x7 x8 x9 x10 x11 x12 x13 x14 x15 x16 x17 x18 x19 x20 x21 x22 x23 x24 x25, l = x0 :: x1 :: x2 :: x3 :: x4 :: x5 :: x6 :: x7 :: x8 :: x9 :: x10 :: x11 :: x12 :: x13 :: x14 :: x15 :: x16 :: x17 :: x18 :: x19 :: x20 :: x21 :: x22 :: x23 :: x24 :: x25 :: [] := by
  obtain ⟨x0, t, ht, rfl⟩ := ls_S h
  obtain ⟨x1, x2, x3, x4, x5, x6, x7, x8, x9, x10, x11, x12, x13, x14, x15, x16, x17, x18, x19, x20, x21, x22, x23, x24, x25, rfl⟩ := ls_25 ht
  exact ⟨x0, x1, x2, x3, x4, x5, x6, x7, x8, x9, x10, x11, x12, x13, x14, x15, x16, x17, x18, x19, x20, x21, x22, x23, x24, x25, rfl⟩
theorem ls_27 {α : Type} {l : List α} (h : l.length = 27) : ∃ x0 x1 x2 x3 x4 x5 x6 x7 x8 x9 x10 x11 x12 x13 x14 x15 x16 x17 x18 x19 x20 x21 x22 x23 x24 x25 x26, l = x0 :: x1 :: x2 :: x3 :: x4 :: x5 :: x6 :: x7 :: x8 :: x9 :: x10 :: x11 :: x12 :: x13 :: x14 :: x15 :: x16 :: x17 :: x18 :: x19 :: x20 :: x21 :: x22 :: x23 :: x24 :: x25 :: x26 :: [] := by
  obtain ⟨x0, t, ht, rfl⟩ := ls_S h
  obtain ⟨x1, x2, x3, x4, x5, x6, x7, x8, x9, x10, x11, x12, x13, x14, x15, x16, x17, x18, x19, x20, x21, x22, x23, x24, x25, x26, rfl⟩ := ls_26 ht
  exact ⟨x0, x1, x2, x3, x4, x5, x6, x7, x8, x9, x10, x11, x12, x13, x14, x15, x16, x17, x18, x19, x20, x21, x22, x23, x24, x25, x26, rfl⟩
theorem ls_28 {α : Type} {l : List α} (h : l.length = 28) : ∃ x0 x1 x2 x3 x4 x5 x6 x7 x8 x9 x10 x11 x12 x13 x14 x15 x16 x17 x18 x19 x20 x21 x22 x23 x24 x25 x26 x27, l = x0 :: x1 :: x2 :: x3 :: x4 :: x5 :: x6 :: x7 :: x8 :: x9 :: x10 :: x11 :: x12 :: x13 :: x14 :: x15 :: x16 :: x17 :: x18 :: x19 :: x20 :: x21 :: x22 :: x23 :: x24 :: x25 :: x26 :: x27 :: [] := by
  obtain ⟨x0, t, ht, rfl⟩ := ls_S h
  obtain ⟨x1, x2, x3, x4, x5, x6, x7, x8, x9, x10, x11, x12, x13, x14, x15, x16, x17, x18, x19, x20, x21, x22, x23, x24, x25, x26, x27, rfl⟩ := ls_27 ht
  exact ⟨x0, x1, x2, x3, x4, x5, x6, x7, x8, x9, x10, x11, x12, x13, x14, x15, x16, x17, x18, x19, x20, x21, x22, x23, x24, x25, x26, x27, rfl⟩
theorem ls_29 {α : Type} {l : List α} (h : l.length = 29) : ∃ x0 x1 x2 x3 x4 x5 x6 x7 x8 x9 x10 x11 x12 x13 x14 x15 x16 x17 x18 x19 x20 x21 x22 x23 x24 x25 x26 x27 x28, l = x0 :: x1 :: x2 :: x3 :: x4 :: x5 :: x6 :: x7 :: x8 :: x9 :: x10 :: x11 :: x12 :: x13 :: x14 :: x15 :: x16 :: x17 :: x18 :: x19 :: x20 :: x21 :: x22 :: x23 :: x24 :: x25 :: x26 :: x27 :: x28 :: [] := by
  obtain ⟨x0, t, ht, rfl⟩ := ls_S h
  obtain ⟨x1, x2, x3, x4, x5, x6, x7, x8, x9, x10, x11, x12, x13, x14, x15, x16, x17, x18, x19, x20, x21, x22, x23, x24, x25, x26, x27, x28, rfl⟩ := ls_28 ht
  exact ⟨x0, x1, x2, x3, x4, x5, x6, x7, x8, x9, x10, x11, x12, x13, x14, x15, x16, x17, x18, x19, x20, x21, x22, x23, x24, x25, x26, x27, x28, rfl⟩
theorem ls_30 {α : Type} {l : List α} (h : l.length = 30) : ∃ x0 x1 x2 x3 x4 x5 x6 x7 x8 x9 x10 x11 x12 x13 x14 x15 x16 x17 x18 x19 x20 x21 x22 x23 x24 x25 x26 x27 x28 x29, l = x0 :: x1 :: x2 :: x3 :: x4 :: x5 :: x6 :: x7 :: x8 :: x9 :: x10 :: x11 :: x12 :: x13 :: x14 :: x15 :: x16 :: x17 :: x18 :: x19 :: x20 :: x21 :: x22 :: x23 :: x24 :: x25 :: x26 :: x27 :: x28 :: x29 :: [] := by
  obtain ⟨x0, t, ht, rfl⟩ := ls_S h
  obtain ⟨x1, x2, x3, x4, x5, x6, x7, x8, x9, x10, x11, x12, x13, x14, x15, x16, x17, x18, x19, x20, x21, x22, x23, x24, x25, x26, x27, x28, x29, rfl⟩ := ls_29 ht
  exact ⟨x0, x1, x2, x3, x4, x5, x6, x7, x8, x9, x10, x11, x12, x13, x14, x15, x16, x17, x18, x19, x20, x21, x22, x23, x24, x25, x26, x27, x28, x29, rfl⟩
theorem ls_31 {α : Type} {l : List α} (h : l.length = 31) : ∃ x0 x1 x2 x3 x4 x5 x6 x7 x8 x9 x10 x11 x12 x13 x14 x15 x16 x17 x18 x19 x20 x21 x22 x23 x24 x25 x26 x27 x28 x29 x30, l = x0 :: x1 :: x2 :: x3 :: x4 :: x5 :: x6 :: x7 :: x8 :: x9 :: x10 :: x11 :: x12 :: x13 :: x14 :: x15 :: x16 :: x17 :: x18 :: x19 :: x20 :: x21 :: x22 :: x23 :: x24 :: x25 :: x26 :: x27 :: x28 :: x29 :: x30 :: [] := by
  obtain ⟨x0, t, ht, rfl⟩ := ls_S h
  obtain ⟨x1, x2, x3, x4, x5, x6, x7, x8, x9, x10, x11, x12, x13, x14, x15, x16, x17, x18, x19, x20, x21, x22, x23, x24, x25, x26, x27, x28, x29, x30, rfl⟩ := ls_30 ht
  exact ⟨x0, x1, x2, x3, x4, x5, x6, x7, x8, x9, x10, x11, x12, x13, x14, x15, x16, x17, x18, x19, x20, x21, x22, x23, x24, x25, x26, x27, x28, x29, x30, rfl⟩
theorem ls_32 {α : Type} {l : List α} (h : l.length = 32) : ∃ x0 x1 x2 x3 x4 x5 x6 x7 x8 x9 x10 x11 x12 x13 x14 x15 x16 x17 x18 x19 x20 x21 x22 x23 x24 x25 x26 x27 x28 x29 x30 x31, l = x0 :: x1 :: x2 :: x3 :: x4 :: x5 :: x6 :: x7 :: x8 :: x9 :: x10 :: x11 :: x12 :: x13 :: x14 :: x15 :: x16 :: x17 :: x18 :: x19 :: x20 :: x21 :: x22 :: x23 :: x24 :: x25 :: x26 :: x27 :: x28 :: x29 :: x30 :: x31 :: [] := by
  obtain ⟨x0, t, ht, rfl⟩ := ls_S h
  obtain ⟨x1, x2, x3, x4, x5, x6, x7, x8, x9, x10, x11, x12, x13, x14, x15, x16, x17, x18, x19, x20, x21, x22, x23, x24, x25, x26, x27, x28, x29, x30, x31, rfl⟩ := ls_31 ht
  exact ⟨x0, x1, x2, x3, x4, x5, x6, x7, x8, x9, x10, x11, x12, x13, x14, x15, x16, x17, x18, x19, x20, x21, x22, x23, x24, x25, x26, x27, x28, x29, x30, x31, rfl⟩
theorem ls_33 {α : Type} {l : List α} (h : l.length = 33) : ∃ x0 x1 x2 x3 x4 x5 x6 x7 x8 x9 x10 x11 x12 x13 x14 x15 x16 x17 x18 x19 x20 x21 x22 x23 x24 x25 x26 x27 x28 x29 x30 x31 x32, l = x0 :: x1 :: x2 :: x3 :: x4 :: x5 :: x6 :: x7 :: x8 :: x9 :: x10 :: x11 :: x12 :: x13 :: x14 :: x15 :: x16 :: x17 :: x18 :: x19 :: x20 :: x21 :: x22 :: x23 :: x24 :: x25 :: x26 :: x27 :: x28 :: x29 :: x30 :: x31 :: x32 :: [] := by
  obtain ⟨x0, t, ht, rfl⟩ := ls_S h
  obtain ⟨x1, x2, x3, x4, x5, x6, x7, x8, x9, x10, x11, x12, x13, x14, x15, x16, x17, x18, x19, x20, x21, x22, x23, x24, x25, x26, x27, x28, x29, x30, x31, x32, rfl⟩ := ls_32 ht
  exact ⟨x0, x1, x2, x3, x4, x5, x6, x7, x8, x9, x10, x11, x12, x13, x14, x15, x16, x17, x18, x19, x20, x21, x22, x23, x24, x25, x26, x27, x28, x29, x30, x31, x32, rfl⟩
theorem ls_34 {α : Type} {l : List α} (h : l.length = 34) : ∃ x0 x1 x2 x3 x4 x5 x6 x7 x8 x9 x10 x11 x12 x13 x14 x15 x16 x17 x18 x19 x20 x21 x22 x23 x24 x25 x26 x27 x28 x29 x30 x31 x32 x33, l = x0 :: x1 :: x2 :: x3 :: x4 :: x5 :: x6 :: x7 :: x8 :: x9 :: x10 :: x11 :: x12 :: x13 :: x14 :: x15 :: x16 :: x17 :: x18 :: x19 :: x20 :: x21 :: x22 :: x23 :: x24 :: x25 :: x26 :: x27 :: x28 :: x29 :: x30 :: x31 :: x32 :: x33 :: [] := by
  obtain ⟨x0, t, ht, rfl⟩ := ls_S h
  obtain ⟨x1, x2, x3, x4, x5, x6, x7, x8, x9, x10, x11, x12, x13, x14, x15, x16, x17, x18, x19, x20, x21, x22, x23, x24, x25, x26, x27, x28, x29, x30, x31, x32, x33, rfl⟩ := ls_33 ht
  exact ⟨x0, x1, x2, x3, x4, x5, x6, x7, x8, x9, x10, x11, x12, x13, x14, x15, x16, x17, x18, x19, x20, x21, x22, x23, x24, x25, x26, x27, x28, x29, x30, x31, x32, x33, rfl⟩
theorem ls_35 {α : Type} {l : List α} (h : l.length = 35) : ∃ x0 x1 x2 x3 x4 x5 x6 x7 x8 x9 x10 x11 x12 x13 x14 x15 x16 x17 x18 x19 x20 x21 x22 x23 x24 x25 x26 x27 x28 x29 x30 x31 x32 x33 x34, l = x0 :: x1 :: x2 :: x3 :: x4 :: x5 :: x6 :: x7 :: x8 :: x9 :: x10 :: x11 :: x12 :: x13 :: x14 :: x15 :: x16 :: x17 :: x18 :: x19 :: x20 :: x21 :: x22 :: x23 :: x24 :: x25 :: x26 :: x27 :: x28 :: x29 :: x30 :: x31 :: x32 :: x33 :: x34 :: [] := by
  obtain ⟨x0, t, ht, rfl⟩ := ls_S h
  obtain ⟨x1, x2, x3, x4, x5, x6, x7, x8, x9, x10, x11, x12, x13, x14, x15, x16, x17, x18, x19, x20, x21, x22, x23, x24, x25, x26, x27, x28, x29, x30, x31, x32, x33, x34, rfl⟩ := ls_34 ht
  exact ⟨x0, x1, x2, x3, x4, x5, x6, x7, x8, x9, x10, x11, x12, x13, x14, x15, x16, x17, x18, x19, x20, x21, x22, x23, x24, x25, x26, x27, x28, x29, x30, x31, x32, x33, x34, rfl⟩
theorem ls_36 {α : Type} {l : List α} (h : l.length = 36) : ∃ x0 x1 x2 x3 x4 x5 x6 x7 x8 x9 x10 x11 x12 x13 x14 x15 x16 x17 x18 x19 x20 x21 x22 x23 x24 x25 x26 x27 x28 x29 x30 x31 x32 x33 x34 x35, l = x0 :: x1 :: x2 :: x3 :: x4 :: x5 :: x6 :: x7 :: x8 :: x9 :: x10 :: x11 :: x12 :: x13 :: x14 :: x15 :: x16 :: x17 :: x18 :: x19 :: x20 :: x21 :: x22 :: x23 :: x24 :: x25 :: x26 :: x27 :: x28 :: x29 :: x30 :: x31 :: x32 :: x33 :: x34 :: x35 :: [] := by
  obtain ⟨x0, t, ht, rfl⟩ := ls_S h
  obtain ⟨x1, x2, x3, x4, x5, x6, x7, x8, x9, x10, x11, x12, x13, x14, x15, x16, x17, x18, x19, x20, x21, x22, x23, x24, x25, x26, x27, x28, x29, x30, x31, x32, x33, x34, x35, rfl⟩ := ls_35 ht
  exact ⟨x0, x1, x2, x3, x4, x5, x6, x7, x8, x9, x10, x11, x12, x13, x14, x15, x16, x17, x18, x19, x20, x21, x22, x23, x24, x25, x26, x27, x28, x29, x30, x31, x32, x33, x34, x35, rfl⟩
theorem ls_37 {α : Type} {l : List α} (h : l.length = 37) : ∃ x0 x1 x2 x3 x4 x5 x6 x7 x8 x9 x10 x11 x12 x13 x14 x15 x16 x17 x18 x19 x20 x21 x22 x23 x24 x25 x26 x27 x28 x29 x30 x31 x32 x33 x34 x35 x36, l = x0 :: x1 :: x2 :: x3 :: x4 :: x5 :: x6 :: x7 :: x8 :: x9 :: x10 :: x11 :: x12 :: x13 :: x14 :: x15 :: x16 :: x17 :: x18 :: x19 :: x20 :: x21 :: x22 :: x23 :: x24 :: x25 :: x26 :: x27 :: x28 :: x29 :: x30 :: x31 :: x32 :: x33 :: x34 :: x35 :: x36 :: [] := by
  obtain ⟨x0, t, ht, rfl⟩ := ls_S h
  obtain ⟨x1, x2, x3, x4, x5, x6, x7, x8, x9, x10, x11, x12, x13, x14, x15, x16, x17, x18, x19, x20, x21, x22, x23, x24, x25, x26, x27, x28, x29, x30, x31, x32, x33, x34, x35, x36, rfl⟩ := ls_36 ht
  exact ⟨x0, x1, x2, x3, x4, x5, x6, x7, x8, x9, x10, x11, x12, x13, x14, x15, x16, x17, x18, x19, x20, x21, x22, x23, x24, x25, x26, x27, x28, x29, x30, x31, x32, x33, x34, x35, x36, rfl⟩
theorem ls_38 {α : Type} {l : List α} (h : l.length = 38) : ∃ x0 x1 x2 x3 x4 x5 x6 x7 x8 x9 x10 x11 x12 x13 x14 x15 x16 x17 x18 x19 x20 x21 x22 x23 x24 x25 x26 x27 x28 x29 x30 x31 x32 x33 x34 x35 x36 x37, l = x0 :: x1 :: x2 :: x3 :: x4 :: x5 :: x6 :: x7 :: x8 :: x9 :: x10 :: x11 :: x12 :: x13 :: x14 :: x15 :: x16 :: x17 :: x18 :: x19 :: x20 :: x21 :: x22 :: x23 :: x24 :: x25 :: x26 :: x27 :: x28 :: x29 :: x30 :: x31 :: x32 :: x33 :: x34 :: x35 :: x36 :: x37 :: [] := by
  obtain ⟨x0, t, ht, rfl⟩ := ls_S h
  obtain ⟨x1, x2, x3, x4, x5, x6, x7, x8, x9, x10, x11, x12, x13, x14, x15, x16, x17, x18, x19, x20, x21, x22, x23, x24, x25, x26, x27, x28, x29, x30, x31, x32, x33, x34, x35, x36, x37, rfl⟩ := ls_37 ht
  exact ⟨x0, x1, x2, x3, x4, x5, x6, x7, x8, x9, x10, x11, x12, x13, x14, x15, x16, x17, x18, x19, x20, x21, x22, x23, x24, x25, x26, x27, x28, x29, x30, x31, x32, x33, x34, x35, x36, x37, rfl⟩
theorem ls_39 {α : Type} {l : List α} (h : l.length = 39) : ∃ x0 x1 x2 x3 x4 x5 x6 x7 x8 x9 x10 x11 x12 x13 x14 x15 x16 x17 x18 x19 x20 x21 x22 x23 x24 x25 x26 x27 x28 x29 x30 x31 x32 x33 x34 x35 x36 x37 x38, l = x0 :: x1 :: x2 :: x3 :: x4 :: x5 :: x6 :: x7 :: x8 :: x9 :: x10 :: x11 :: x12 :: x13 :: x14 :: x15 :: x16 :: x17 :: x18 :: x19 :: x20 :: x21 :: x22 :: x23 :: x24 :: x25 :: x26 :: x27 :: x28 :: x29 :: x30 :: x31 :: x32 :: x33 :: x34 :: x35 :: x36 :: x37 :: x38 :: [] := by
  obtain ⟨x0, t, ht, rfl⟩ := ls_S h
  obtain ⟨x1, x2, x3, x4, x5, x6, x7, x8, x9, x10, x11, x12, x13, x14, x15, x16, x17, x18, x19, x20, x21, x22, x23, x24, x25, x26, x27, x28, x29, x30, x31, x32, x33, x34, x35, x36, x37, x38, rfl⟩ := ls_38 ht
  exact ⟨x0, x1, x2, x3, x4, x5, x6, x7, x8, x9, x10, x11, x12, x13, x14, x15, x16, x17, x18, x19, x20, x21, x22, x23, x24, x25, x26, x27, x28, x29, x30, x31, x32, x33, x34, x35, x36, x37, x38, rfl⟩
theorem ls_40 {α : Type} {l : List α} (h : l.length = 40) : ∃ x0 x1 x2 x3 x4 x5 x6 x7 x8 x9 x10 x11 x12 x13 x14 x15 x16 x17 x18 x19 x20 x21 x22 x23 x24 x25 x26 x27 x28 x29 x30 x31 x32 x33 x34 x35 x36 x37 x38 x39, l = x0 :: x1 :: x2 :: x3 :: x4 :: x5 :: x6 :: x7 :: x8 :: x9 :: x10 :: x11 :: x12 :: x13 :: x14 :: x15 :: x16 :: x17 :: x18 :: x19 :: x20 :: x21 :: x22 :: x23 :: x24 :: x25 :: x26 :: x27 :: x28 :: x29 :: x30 :: x31 :: x32 :: x33 :: x34 :: x35 :: x36 :: x37 :: x38 :: x39 :: [] := by
  obtain ⟨x0, t, ht, rfl⟩ := ls_S h
  obtain ⟨x1, x2, x3, x4, x5, x6, x7, x8, x9, x10, x11, x12, x13, x14, x15, x16, x17, x18, x19, x20, x21, x22, x23, x24, x25, x26, x27, x28, x29, x30, x31, x32, x33, x34, x35, x36, x37, x38, x39, rfl⟩ := ls_39 ht
  exact ⟨x0, x1, x2, x3, x4, x5, x6, x7, x8, x9, x10, x11, x12, x13, x14, x15, x16, x17, x18, x19, x20, x21, x22, x23, x24, x25, x26, x27, x28, x29, x30, x31, x32, x33, x34, x35, x36, x37, x38, x39, rfl⟩
theorem ls_41 {α : Type} {l : List α} (h : l.length = 41) : ∃ x0 x1 x2 x3 x4 x5 x6 x7 x8 x9 x10 x11 x12 x13 x14 x15 x16 x17 x18 x19 x20 x21 x22 x23 x24 x25 x26 x27 x28 x29 x30 x31 x32 x33 x34 x35 x36 x37 x38 x39 x40, l = x0 :: x1 :: x2 :: x3 :: x4 :: x5 :: x6 :: x7 :: x8 :: x9 :: x10 :: x11 :: x12 :: x13 :: x14 :: x15 :: x16 :: x17 :: x18 :: x19 :: x20 :: x21 :: x22 :: x23 :: x24 :: x25 :: x26 :: x27 :: x28 :: x29 :: x30 :: x31 :: x32 :: x33 :: x34 :: x35 :: x36 :: x37 :: x38 :: x39 :: x40 :: [] := by
  obtain ⟨x0, t, ht, rfl⟩ := ls_S h
  obtain ⟨x1, x2, x3, x4, x5, x6, x7, x8, x9, x10, x11, x12, x13, x14, x15, x16, x17, x18, x19, x20, x21, x22, x23, x24, x25, x26, x27, x28, x29, x30, x31, x32, x33, x34, x35, x36, x37, x38, x39, x40, rfl⟩ := ls_40 ht
  exact ⟨x0, x1, x2, x3, x4, x5, x6, x7, x8, x9, x10, x11, x12, x13, x14, x15, x16, x17, x18, x19, x20, x21, x22, x23, x24, x25, x26, x27, x28, x29, x30, x31, x32, x33, x34, x35, x36, x37, x38, x39, x40, rfl⟩
theorem ls_42 {α : Type} {l : List α} (h : l.length = 42) : ∃ x0 x1 x2 x3 x4 x5 x6 x7 x8 x9 x10 x11 x12 x13 x14 x15 x16 x17 x18 x19 x20 x21 x22 x23 x24 x25 x26 x27 x28 x29 x30 x31 x32 x33 x34 x35 x36 x37 x38 x39 x40 x41, l = x0 :: x1 :: x2 :: x3 :: x4 :: x5 :: x6 :: x7 :: x8 :: x9 :: x10 :: x11 :: x12 :: x13 :: x14 :: x15 :: x16 :: x17 :: x18 :: x19 :: x20 :: x21 :: x22 :: x23 :: x24 :: x25 :: x26 :: x27 :: x28 :: x29 :: x30 :: x31 :: x32 :: x33 :: x34 :: x35 :: x36 :: x37 :: x38 :: x39 :: x40 :: x41 :: [] := by
  obtain ⟨x0, t, ht, rfl⟩ := ls_S h
  obtain ⟨x1, x2, x3, x4, x5, x6, x7, x8, x9, x10, x11, x12, x13, x14, x15, x16, x17, x18, x19, x20, x21, x22, x23, x24, x25, x26, x27, x28, x29, x30, x31, x32, x33, x34, x35, x36, x37, x38, x39, x40, x41, rfl⟩ := ls_41 ht
  exact ⟨x0, x1, x2, x3, x4, x5, x6, x7, x8, x9, x10, x11, x12, x13, x14, x15, x16, x17, x18, x19, x20, x21, x22, x23, x24, x25, x26, x27, x28, x29, x30, x31, x32, x33, x34, x35, x36, x37, x38, x39, x40, x41, rfl⟩
theorem ls_43 {α : Type} {l : List α} (h : l.length = 43) : ∃ x0 x1 x2 x3 x4 x5 x6 x7 x8 x9 x10 x11 x12 x13 x14 x15 x16 x17 x18 x19 x20 x21 x22 x23 x24 x25 x26 x27 x28 x29 x30 x31 x32 x33 x34 x35 x36 x37 x38 x39 x40 x41 x42, l = x0 :: x1 :: x2 :: x3 :: x4 :: x5 :: x6 :: x7 :: x8 :: x9 :: x10 :: x11 :: x12 :: x13 :: x14 :: x15 :: x16 :: x17 :: x18 :: x19 :: x20 :: x21 :: x22 :: x23 :: x24 :: x25 :: x26 :: x27 :: x28 :: x29 :: x30 :: x31 :: x32 :: x33 :: x34 :: x35 :: x36 :: x37 :: x38 :: x39 :: x40 :: x41 :: x42 :: [] := by
  obtain ⟨x0, t, ht, rfl⟩ := ls_S h
  obtain ⟨x1, x2, x3, x4, x5, x6, x7, x8, x9, x10, x11, x12, x13, x14, x15, x16, x17, x18, x19, x20, x21, x22, x23, x24, x25, x26, x27, x28, x29, x30, x31, x32, x33, x34, x35, x36, x37, x38, x39, x40, x41, x42, rfl⟩ := ls_42 ht
  exact ⟨x0, x1, x2, x3, x4, x5, x6, x7, x8, x9, x10, x11, x12, x13, x14, x15, x16, x17, x18, x19, x20, x21, x22, x23, x24, x25, x26, x27, x28, x29, x30, x31, x32, x33, x34, x35, x36, x37, x38, x39, x40, x41, x42, rfl⟩
theorem ls_44 {α : Type} {l : List α} (h : l.length = 44) : ∃ x0 x1 x2 x3 x4 x5 x6 x7 x8 x9 x10 x11 x12 x13 x14 x15 x16 x17 x18 x19 x20 x21 x22 x23 x24 x25 x26 x27 x28 x29 x30 x31 x32 x33 x34 x35 x36 x37 x38 x39 x40 x41 x42 x43, l = x0 :: x1 :: x2 :: x3 :: x4 :: x5 :: x6 :: x7 :: x8 :: x9 :: x10 :: x11 :: x12 :: x13 :: x14 :: x15 :: x16 :: x17 :: x18 :: x19 :: x20 :: x21 :: x22 :: x23 :: x24 :: x25 :: x26 :: x27 :: x28 :: x29 :: x30 :: x31 :: x32 :: x33 :: x34 :: x35 :: x36 :: x37 :: x38 :: x39 :: x40 :: x41 :: x42 :: x43 :: [] := by
  obtain ⟨x0, t, ht, rfl⟩ := ls_S h
  obtain ⟨x1, x2, x3, x4, x5, x6, x7, x8, x9, x10, x11, x12, x13, x14, x15, x16, x17, x18, x19, x20, x21, x22, x23, x24, x25, x26, x27, x28, x29, x30, x31, x32, x33, x34, x35, x36, x37, x38, x39, x40, x41, x42, x43, rfl⟩ := ls_43 ht
  exact ⟨x0, x1, x2, x3, x4, x5, x6, x7, x8, x9, x10, x11, x12, x13, x14, x15, x16, x17, x18, x19, x20, x21, x22, x23, x24, x25, x26, x27, x28, x29, x30, x31, x32, x33, x34, x35, x36, x37, x38, x39, x40, x41, x42, x43, rfl⟩
theorem ls_45 {α : Type} {l : List α} (h : l.length = 45) : ∃ x0 x1 x2 x3 x4 x5 x6 x7 x8 x9 x10 x11 x12 x13 x14 x15 x16 x17 x18 x19 x20 x21 x22 x23 x24 x25 x26 x27 x28 x29 x30 x31 x32 x33 x34 x35 x36 x37 x38 x39 x40 x41 x42 x43 x44, l = x0 :: x1 :: x2 :: x3 :: x4 :: x5 :: x6 :: x7 :: x8 :: x9 :: x10 :: x11 :: x12 :: x13 :: x14 :: x15 :: x16 :: x17 :: x18 :: x19 :: x20 :: x21 :: x22 :: x23 :: x24 :: x25 :: x26 :: x27 :: x28 :: x29 :: x30 :: x31 :: x32 :: x33 :: x34 :: x35 :: x36 :: x37 :: x38 :: x39 :: x40 :: x41 :: x42 :: x43 :: x44 :: [] := by
  obtain ⟨x0, t, ht, rfl⟩ := ls_S h
  obtain ⟨x1, x2, x3, x4, x5, x6, x7, x8, x9, x10, x11, x12, x13, x14, x15, x16, x17, x18, x19, x20, x21, x22, x23, x24, x25, x26, x27, x28, x29, x30, x31, x32, x33, x34, x35, x36, x37, x38, x39, x40, x41, x42, x43, x44, rfl⟩ := ls_44 ht
  exact ⟨x0, x1, x2, x3, x4, x5, x6, x7, x8, x9, x10, x11, x12, x13, x14, x15, x16, x17, x18, x19, x20, x21, x22, x23, x24, x25, x26, x27, x28, x29, x30, x31, x32, x33, x34, x35, x36, x37, x38, x39, x40, x41, x42, x43, x44, rfl⟩
end GY

namespace GY
open PySem PySem.Spec PyProof.Rows L2
variable {XQ : D → Hs → Prop}
local macro_rules | `(tactic| walk_at "w") => `(tactic| simp only [ok_ok, ok_bind, ok_os, oks_ok, after1_nx, after1_rt, after1_bk, after1_ct, sq_nil, sq_cons, sq_asg, bindQ_nm, bindQ_tup, bindQ_lst, bindsQ_nil, bindsQ_cons, sq_par, setQ_nil, setQ_cons, sq_put, sq_setf, sq_ex, sq_ret, sq_retN, sq_pas, sq_brk, sq_cnt, sq_ifs, sq_for, sq_lc, sq_whl, sq_aug, turnQ, compQ, w_con, w_var, varQ_z, varQ_s, w_bin, w_neg, negQ_int, w_not, notQ_bl, w_band, andQ_bl, w_bor, orQ_bl, w_cmp, w_ite, w_tup, w_lst, w_lnew, w_idx, w_slc, w_evo_none, w_evo_some, intQ_int, w_call, w_blt, w_app, w_bitl, bitQ_int, wb_shl, w_nil, w_cons, w_attr, w_prop, propQ_ins, w_meth, methQ_ins, w_new, nonQ_non, w_isI, isN_ins, wt_bitl, wi_bitl, wt_con, wt_var, wt_bin, wt_neg, wt_cmp, wt_cmp2, wt_tup, wt_lst, wt_lnew, wt_idx, wt_slc, wt_call, wt_blt, wt_lc, wt_app, wt_attr, wt_prop, wt_meth, wt_new, wt_isI, wi_con, wi_var, wi_bin, wi_neg, wi_cmp, wi_cmp2, wi_tup, wi_lst, wi_lnew, wi_idx, wi_slc, wi_call, wi_blt, wi_lc, wi_app, wi_attr, wi_prop, wi_meth, wi_new, seqQ_tup, seqQ_lst, seqQ_frz, seqQ_loc, tt_not, tt_band, tt_bor, tt_ite, tstQ_bl, tstQ_non, tstQ_int, tstQ_lst, tstQ_tup, wi_rng, rngQ_int, wi_rng2, rng2Q_int, sq_rse0, sq_rse1, w_tryc, w_cmp3, wt_cmp3, wt_tryc, wi_tryc, blS_bl, sq_lc2, lc2Q_eq, lcA_nil, lcA_cons, lc2A_nil, lc2A_cons, accQ_none, accQ_some, wF_lt, wF_le, wF_gt, wF_ge, wF_isN, wF_notN, wF_eq_int, wF_eq_bl, wF_eq_str, wF_eq_tup, wF_eq_lst, wF_eq_frz, wF_eq_non, wF_ne_int, wF_ne_bl, wF_ne_str, wF_ne_tup, wF_ne_lst, wF_ne_frz, wF_ne_non, wF_isIn_tup, wF_isIn_lst, wF_isIn_frz, wF_notIn_tup, wF_notIn_lst, wF_notIn_frz, wF_eq_ins, wF_eq_insT, wF_eq_insN, wF_eq_insI, wF_ne_ins, wF_bol_ins, blQ_bl, w_bol, wt_bol, wt_lc2, wi_lc2, wbF_int, wbF_lst, wbF_tup, wbF_str, binF_add, binF_sub, binF_mul, negF_ins, wb_add, wb_sub, wb_mul, wb_fdiv, wb_mod, wb_pow, wb_ladd, wc_lt, wc_le, wc_gt, wc_ge, wc_eq_int, wc_ne_int, wc_eq_bl, wc_ne_bl, wc_isN_int, wc_isN_bl, wc_isN_non, wc_notN_int, wc_notN_tup, wc_notN_non, w_idxD, seq_lst, seq_tup, seq_frz, seq_0, seq_s, len_lst, len_tup, isLoc_int, isLoc_lst, isLoc_tup, isLoc_bl, isLoc_str, isLoc_non, isLoc_ins, noLoc_nil, noLoc_cons, mk_0, mk_1, mkQ_eq, ok_ite, tss_nil, tss_cons, wipeE, attr_ins, attr_loc0, attr_last, atQ_same, atQ_ne, setf_last, putFd_nil, putFd_ne, demote_last, fin_int, fin_bl, fin_non, fin_str, fin_tup, fin_lst, fin_ins, List.take_length, take_last, PySem.sizeLine_eq, Nat.reduceLeDiff, Nat.reduceLT, List.take_succ_cons, List.zip_nil_left, List.zip_nil_right, List.zip_cons_cons, List.map_nil, List.map_cons, List.nil_append, List.cons_append, List.length_nil, List.length_cons, List.replicate_zero, List.replicate_succ, List.set_cons_zero, List.set_cons_succ, Nat.reduceAdd, Nat.reduceSub, Nat.reduceBEq, Nat.reduceEqDiff, Nat.zero_add, Bool.false_eq_true, Bool.true_eq_false, if_true, if_false, ite_true, ite_false, reduceIte, decide_eq_true_eq, Bool.not_eq_true', decide_eq_false_iff_not, Bool.and_eq_true, Bool.or_eq_true, beq_iff_eq, Bool.not_true, Bool.not_false, true_and, and_true, true_or, or_true, List.lookup_nil, Option.isNone_none, Bool.and_true, Bool.true_and, decide_true, decide_false, cont_1, cont_2, look_nil, look_cons, isT_int', isT_bl', isT_str', isT_non', isT_tup', isT_lst', abs_', ty_1, ty_2, ty_3, ty_4, ty_5, ty_6, ty_7, ty_8, ty_9, ty_10, ty_11, ty_12, ty_13, ty_14, ty_15, ty_16, ty_17, cst_0, cst_1, cst_2, cst_3, cst_4, cst_5, cst_6, Int.reduceEq, Int.reduceLT, Int.reduceLE, idxQ_0, idxQ_1, idxQ_2, idxQ_3, idxQ_4, idxQ_5, idxQ_6, idxQ_7, idxQ_8, idxQ_9, idxQ_10, idxQ_11, putQ_0, putQ_1, putQ_2, putQ_3, putQ_4, putQ_5])
local macro_rules | `(tactic| walk_at "sm") => `(tactic| first | with_reducible assumption | ((with_reducible apply Sm.mul) <;> walk_at "sm") | ((with_reducible apply Sm.add) <;> walk_at "sm") | ((with_reducible apply Sm.sub) <;> walk_at "sm") | ((with_reducible apply Sm.neg) <;> walk_at "sm") | (with_reducible apply SmP.f; with_reducible assumption) | (with_reducible apply SmP.s; with_reducible assumption) | ((with_reducible apply sm_nabs); walk_at "sm") | exact smc (k := 64))
local macro_rules | `(tactic| walk_at "big") => `(tactic| exact Sm.big (by walk_at "sm") (by walk_at "sm") (by decide) (by decide))
local macro_rules | `(tactic| walk_at "side") => `(tactic| first | with_reducible trivial | assumption | walk_at "big" | omega | decide | (refine ⟨by trivial, ?_⟩; decide) | rfl | trivial)
local macro_rules | `(tactic| walk_at "go") => `(tactic| ((try walk_at "w"); (repeat (first | (with_reducible refine And.intro ?walk_a ?_; case walk_a => walk_at "side") | walk_at "w"))))

section
variable {N k : Nat} {t h : Hs} {ob : Ob} {Q : D → Hs → Prop}
def SmF (k : Nat) (f : Fm) : Prop := Sm k f.a ∧ Sm k f.b ∧ Sm k f.c
theorem d_reduced {a b c : Int} (ok : Fm.ok ⟨a, b, c⟩) (b1 : a ≤ 2 ^ 100) (b2 : c ≤ 2 ^ 100) (hQ : ∀ (g : Fm) (p q : Pr), unit p q → Fm.by_ ⟨a, b, c⟩ p q = g → g.red → SmP 201 p → SmP 202 q → Q (.tup [.tup [.int g.a, .int g.b, .int g.c], .tup [.int p.1, .int p.2], .tup [.int q.1, .int q.2]]) h) :
    OkV XQ (callN PP (k + 2) 241 [.tup [.int a, .int b, .int c]] [] h) Q := reduced_ok (f0 := ⟨a, b, c⟩) P_reduced P_lessened P_scaled ok b1 b2 hQ
theorem d_a_form (b : Bag N ob) (hN : N < 10000000) (hQ : ∀ (a b c : Int) ob', Fm.ok ⟨a, b, c⟩ → Sm 60 a → Sm 60 b → Sm 60 c → Bag (N + 11) ob' → Q (.tup [.int a, .int b, .int c]) (ob' :: t)) : OkV XQ (callN PP (k + 4) 242 [.loc 0] [] (ob :: t)) Q := by
  refine ok_call P_l_a_form (by rfl) ?_
  simp only [fd_l_a_form]
  walk_at "go"
  refine d_any_pair b (by omega) fun x1 x2 ob1 s1 s2 b1 => ?_
  walk_at "go"
  refine d_of b1 (by omega) (by simp) (by simp) (by rfl) fun d ob2 m2 b2 => ?_
  obtain ⟨u, v, rfl, su, sv⟩ : ∃ u v : Int, d = .tup [.int u, .int v] ∧ Sm 20 u ∧ Sm 20 v := by
    simp only [List.mem_cons, List.not_mem_nil, or_false] at m2
    rcases m2 with rfl | rfl
    · exact ⟨_, _, rfl, s1, s2⟩
    · exact ⟨_, _, rfl, smc, smc⟩
  walk_at "go"
  refine d_any_pair b2 (by omega) fun y1 y2 ob3 t1 t2 b3 => ?_
  walk_at "go"
  refine d_pull b3 (by omega) (by decide) smc fun s ob4 s3 s4 b4 => ?_
  walk_at "go"
  refine d_pull b4 (by omega) (by decide) smc fun r ob5 r3 r4 b5 => ?_
  have ss : Sm 5 (1 + s) := Sm.of 5 (by omega) (by omega)
  have sr : Sm 5 (1 + r) := Sm.of 5 (by omega) (by omega)
  walk_at "go"
  have h1 : Sm 60 ((1 + s) * u * u + (1 + r) * y1 * y1) := Sm.mono (by walk_at "sm") (by decide)
  have h2 : Sm 60 ((1 + s) * u * v + (1 + r) * y1 * y2) := Sm.mono (by walk_at "sm") (by decide)
  have h3 : Sm 60 ((1 + s) * v * v + (1 + r) * y2 * y2) := Sm.mono (by walk_at "sm") (by decide)
  by_cases e1 : 0 < (1 + s) * u * u + (1 + r) * y1 * y1
  · rw [if_pos e1]
    walk_at "go"
    by_cases e2 : ((1 + s) * u * v + (1 + r) * y1 * y2) * ((1 + s) * u * v + (1 + r) * y1 * y2) < ((1 + s) * u * u + (1 + r) * y1 * y1) * ((1 + s) * v * v + (1 + r) * y2 * y2)
    · rw [if_pos e2]
      exact hQ _ _ _ _ ⟨e1, e2⟩ h1 h2 h3 (b5.mono (by omega))
    · rw [if_neg e2]
      refine d_pull b5 (by omega) (by decide) smc fun p ob6 p1 p2 b6 => ?_
      walk_at "go"
      refine d_pull b6 (by omega) (by decide) smc fun q ob7 q1 q2 b7 => ?_
      walk_at "go"
      exact hQ _ _ _ _ ⟨by dsimp only; omega, by dsimp only; have := Int.mul_pos (show 0 < 1 + p by omega) (show 0 < 1 + q by omega); omega⟩ (Sm.of _ (by omega) (by omega)) smc (Sm.of _ (by omega) (by omega)) b7
  · rw [if_neg e1]
    refine d_pull b5 (by omega) (by decide) smc fun p ob6 p1 p2 b6 => ?_
    walk_at "go"
    refine d_pull b6 (by omega) (by decide) smc fun q ob7 q1 q2 b7 => ?_
    walk_at "go"
    exact hQ _ _ _ _ ⟨by dsimp only; omega, by dsimp only; have := Int.mul_pos (show 0 < 1 + p by omega) (show 0 < 1 + q by omega); omega⟩ (Sm.of _ (by omega) (by omega)) smc (Sm.of _ (by omega) (by omega)) b7
end
end GY

namespace GY
open PySem PySem.Spec PyProof.Rows L2
variable {XQ : D → Hs → Prop}
local macro_rules | `(tactic| walk_at "w") => `(tactic| simp only [ok_ok, ok_bind, ok_os, oks_ok, after1_nx, after1_rt, after1_bk, after1_ct, sq_nil, sq_cons, sq_asg, bindQ_nm, bindQ_tup, bindQ_lst, bindsQ_nil, bindsQ_cons, sq_par, setQ_nil, setQ_cons, sq_put, sq_setf, sq_ex, sq_ret, sq_retN, sq_pas, sq_brk, sq_cnt, sq_ifs, sq_for, sq_lc, sq_whl, sq_aug, turnQ, compQ, w_con, w_var, varQ_z, varQ_s, w_bin, w_neg, negQ_int, w_not, notQ_bl, w_band, andQ_bl, w_bor, orQ_bl, w_cmp, w_ite, w_tup, w_lst, w_lnew, w_idx, w_slc, w_evo_none, w_evo_some, intQ_int, w_call, w_blt, w_app, w_bitl, bitQ_int, wb_shl, w_nil, w_cons, w_attr, w_prop, propQ_ins, w_meth, methQ_ins, w_new, nonQ_non, w_isI, isN_ins, wt_bitl, wi_bitl, wt_con, wt_var, wt_bin, wt_neg, wt_cmp, wt_cmp2, wt_tup, wt_lst, wt_lnew, wt_idx, wt_slc, wt_call, wt_blt, wt_lc, wt_app, wt_attr, wt_prop, wt_meth, wt_new, wt_isI, wi_con, wi_var, wi_bin, wi_neg, wi_cmp, wi_cmp2, wi_tup, wi_lst, wi_lnew, wi_idx, wi_slc, wi_call, wi_blt, wi_lc, wi_app, wi_attr, wi_prop, wi_meth, wi_new, seqQ_tup, seqQ_lst, seqQ_frz, seqQ_loc, tt_not, tt_band, tt_bor, tt_ite, tstQ_bl, tstQ_non, tstQ_int, tstQ_lst, tstQ_tup, wi_rng, rngQ_int, wi_rng2, rng2Q_int, sq_rse0, sq_rse1, w_tryc, w_cmp3, wt_cmp3, wt_tryc, wi_tryc, blS_bl, sq_lc2, lc2Q_eq, lcA_nil, lcA_cons, lc2A_nil, lc2A_cons, accQ_none, accQ_some, wF_lt, wF_le, wF_gt, wF_ge, wF_isN, wF_notN, wF_eq_int, wF_eq_bl, wF_eq_str, wF_eq_tup, wF_eq_lst, wF_eq_frz, wF_eq_non, wF_ne_int, wF_ne_bl, wF_ne_str, wF_ne_tup, wF_ne_lst, wF_ne_frz, wF_ne_non, wF_isIn_tup, wF_isIn_lst, wF_isIn_frz, wF_notIn_tup, wF_notIn_lst, wF_notIn_frz, wF_eq_ins, wF_eq_insT, wF_eq_insN, wF_eq_insI, wF_ne_ins, wF_bol_ins, blQ_bl, w_bol, wt_bol, wt_lc2, wi_lc2, wbF_int, wbF_lst, wbF_tup, wbF_str, binF_add, binF_sub, binF_mul, negF_ins, wb_add, wb_sub, wb_mul, wb_fdiv, wb_mod, wb_pow, wb_ladd, wc_lt, wc_le, wc_gt, wc_ge, wc_eq_int, wc_ne_int, wc_eq_bl, wc_ne_bl, wc_isN_int, wc_isN_bl, wc_isN_non, wc_notN_int, wc_notN_tup, wc_notN_non, w_idxD, seq_lst, seq_tup, seq_frz, seq_0, seq_s, len_lst, len_tup, isLoc_int, isLoc_lst, isLoc_tup, isLoc_bl, isLoc_str, isLoc_non, isLoc_ins, noLoc_nil, noLoc_cons, mk_0, mk_1, mkQ_eq, ok_ite, tss_nil, tss_cons, wipeE, attr_ins, attr_loc0, attr_last, atQ_same, atQ_ne, setf_last, putFd_nil, putFd_ne, demote_last, fin_int, fin_bl, fin_non, fin_str, fin_tup, fin_lst, fin_ins, List.take_length, take_last, PySem.sizeLine_eq, Nat.reduceLeDiff, Nat.reduceLT, List.take_succ_cons, List.zip_nil_left, List.zip_nil_right, List.zip_cons_cons, List.map_nil, List.map_cons, List.nil_append, List.cons_append, List.length_nil, List.length_cons, List.replicate_zero, List.replicate_succ, List.set_cons_zero, List.set_cons_succ, Nat.reduceAdd, Nat.reduceSub, Nat.reduceBEq, Nat.reduceEqDiff, Nat.zero_add, Bool.false_eq_true, Bool.true_eq_false, if_true, if_false, ite_true, ite_false, reduceIte, decide_eq_true_eq, Bool.not_eq_true', decide_eq_false_iff_not, Bool.and_eq_true, Bool.or_eq_true, beq_iff_eq, Bool.not_true, Bool.not_false, true_and, and_true, true_or, or_true, List.lookup_nil, Option.isNone_none, Bool.and_true, Bool.true_and, decide_true, decide_false, cont_1, cont_2, look_nil, look_cons, isT_int', isT_bl', isT_str', isT_non', isT_tup', isT_lst', abs_', ty_1, ty_2, ty_3, ty_4, ty_5, ty_6, ty_7, ty_8, ty_9, ty_10, ty_11, ty_12, ty_13, ty_14, ty_15, ty_16, ty_17, cst_0, cst_1, cst_2, cst_3, cst_4, cst_5, cst_6, Int.reduceEq, Int.reduceLT, Int.reduceLE, idxQ_0, idxQ_1, idxQ_2, idxQ_3, idxQ_4, idxQ_5, idxQ_6, idxQ_7, idxQ_8, idxQ_9, idxQ_10, idxQ_11, putQ_0, putQ_1, putQ_2, putQ_3, putQ_4, putQ_5])
local macro_rules | `(tactic| walk_at "sm") => `(tactic| first | with_reducible assumption | ((with_reducible apply Sm.mul) <;> walk_at "sm") | ((with_reducible apply Sm.add) <;> walk_at "sm") | ((with_reducible apply Sm.sub) <;> walk_at "sm") | ((with_reducible apply Sm.neg) <;> walk_at "sm") | (with_reducible apply SmP.f; with_reducible assumption) | (with_reducible apply SmP.s; with_reducible assumption) | ((with_reducible apply sm_nabs); walk_at "sm") | exact smc (k := 64))
local macro_rules | `(tactic| walk_at "big") => `(tactic| exact Sm.big (by walk_at "sm") (by walk_at "sm") (by decide) (by decide))
local macro_rules | `(tactic| walk_at "side") => `(tactic| first | with_reducible trivial | assumption | walk_at "big" | omega | decide | (refine ⟨by trivial, ?_⟩; decide) | rfl | trivial)
local macro_rules | `(tactic| walk_at "go") => `(tactic| ((try walk_at "w"); (repeat (first | (with_reducible refine And.intro ?walk_a ?_; case walk_a => walk_at "side") | walk_at "w"))))

section
variable {N k : Nat} {t h : Hs} {ob : Ob} {Q : D → Hs → Prop}
theorem edge1 {x : Int} (h : 0 ≤ x) : (1 + x) * (1 + x) < (2 + 2 * x) * (2 + 2 * x) := by
  have e : (2 + 2 * x) * (2 + 2 * x) = 4 * ((1 + x) * (1 + x)) := by grind
  have := Int.mul_pos (show 0 < 1 + x by omega) (show 0 < 1 + x by omega)
  omega
theorem edge2 {x : Int} (h : 0 ≤ x) : 1 * 1 < (2 + 2 * x) * (2 + 2 * x) := by
  have e : (2 + 2 * x) * (2 + 2 * x) = 4 * ((1 + x) * (1 + x)) := by grind
  have := Int.mul_pos (show 0 < 1 + x by omega) (show 0 < 1 + x by omega)
  omega
theorem d_value_at {a b c x y : Int} (sa : Sm 2000 a) (sb : Sm 2000 b) (sc : Sm 2000 c) (sx : Sm 2000 x) (sy : Sm 2000 y) (hQ : Q (.int (Fm.at_ ⟨a, b, c⟩ x y)) h) : OkV XQ (callN PP (k + 1) 244 [.tup [.int a, .int b, .int c], .tup [.int x, .int y]] [] h) Q := by
  refine ok_call P_l_value_at (by rfl) ?_
  simp only [fd_l_value_at]
  walk_at "go"
  exact hQ
theorem d_led {a b c x y z w : Int} (sa : Sm 2000 a) (sb : Sm 2000 b) (sc : Sm 2000 c) (sx : Sm 2000 x) (sy : Sm 2000 y) (sz : Sm 2000 z) (sw : Sm 2000 w) (hQ : Q (.tup [.int (Fm.by_ ⟨a, b, c⟩ (x, y) (z, w)).a, .int (Fm.by_ ⟨a, b, c⟩ (x, y) (z, w)).b, .int (Fm.by_ ⟨a, b, c⟩ (x, y) (z, w)).c]) h) :
    OkV XQ (callN PP (k + 2) 245 [.tup [.int a, .int b, .int c], .tup [.int x, .int y], .tup [.int z, .int w]] [] h) Q := by
  refine ok_call P_l_led (by rfl) ?_
  simp only [fd_l_led]
  walk_at "go"
  refine d_value_at sa sb sc sx sy ?_
  walk_at "go"
  refine d_value_at sa sb sc sz sw ?_
  walk_at "go"
  exact hQ
theorem d_is_pair {x y : Int} (hQ : Q (.bl true) h) : OkV XQ (callN PP (k + 1) 107 [.tup [.int x, .int y]] [] h) Q := by
  refine ok_call P_l_is_pair (by rfl) ?_
  simp only [fd_l_is_pair]
  walk_at "go"
  exact hQ
theorem d_reduced_bad {a b c : Int} (sa : Sm 2000 a) (sb : Sm 2000 b) (sc : Sm 2000 c) (bad : a ≤ 0 ∨ a * c ≤ b * b) (hX : XQ (.exc 111 [(20, .str "BadForm")]) h) : OkV XQ (callN PP (k + 1) 241 [.tup [.int a, .int b, .int c]] [] h) Q := by
  refine ok_call P_reduced (by rfl) ?_
  simp only [fd_reduced]
  walk_at "go"
  by_cases e : a ≤ 0
  · rw [if_pos e]; exact hX
  · rw [if_neg e]
    refine ⟨by walk_at "big", by walk_at "big", ?_⟩
    rw [if_pos (bad.resolve_left e)]
    exact hX
theorem d_edge (b : Bag N ob) (hN : N < 10000000) (hQ : ∀ (a b c : Int) ob', Fm.ok ⟨a, b, c⟩ → Sm 60 a → Sm 60 b → Sm 60 c → Bag (N + 3) ob' → Q (.tup [.int a, .int b, .int c]) (ob' :: t)) : OkV XQ (callN PP (k + 4) 243 [.loc 0] [] (ob :: t)) Q := by
  refine ok_call P_l_edge (by rfl) ?_
  simp only [fd_l_edge]
  walk_at "go"
  refine d_pull b (by omega) (by decide) smc fun x ob1 x1 x2 b1 => ?_
  have sx : Sm 10 x := Sm.of 10 (by omega) (by omega)
  walk_at "go"
  refine d_pull b1 (by omega) (by decide) smc fun y ob2 y1 y2 b2 => ?_
  have sy : Sm 10 y := Sm.of 10 (by omega) (by omega)
  walk_at "go"
  refine d_of b2 (by omega) (by simp) (by simp) (by rfl) fun d ob3 m3 b3 => ?_
  obtain ⟨a, b, c, rfl, ok, s1, s2, s3⟩ : ∃ a b c : Int, d = .tup [.int a, .int b, .int c] ∧ Fm.ok ⟨a, b, c⟩ ∧ Sm 60 a ∧ Sm 60 b ∧ Sm 60 c := by
    simp only [List.mem_cons, List.not_mem_nil, or_false] at m3
    have d1 : (2 + 2 * x) / 2 = 1 + x := by omega
    have d2 : (2 + 2 * x) + y = 2 + 2 * x + y := rfl
    have k1 : (1 + x) * (1 + x) < (2 + 2 * x) * (2 + 2 * x + y) := by
      have h1 : (1 + x) * (1 + x) < (2 + 2 * x) * (2 + 2 * x) := edge1 x1
      have h2 : (2 + 2 * x) * (2 + 2 * x) ≤ (2 + 2 * x) * (2 + 2 * x + y) := Int.mul_le_mul_of_nonneg_left (by omega) (by omega)
      omega
    have k2 : 1 * 1 < (2 + 2 * x) * (2 + 2 * x) := edge2 x1
    have k3 : 0 * 0 < (2 + 2 * x + y) * (2 + 2 * x) := by
      have := Int.mul_pos (show 0 < 2 + 2 * x + y by omega) (show 0 < 2 + 2 * x by omega)
      omega
    rcases m3 with rfl | rfl | rfl | rfl | rfl
    · exact ⟨_, _, _, rfl, ⟨by dsimp only; omega, by dsimp only; rw [d1]; exact k1⟩, Sm.of _ (by omega) (by omega), Sm.of _ (by omega) (by omega), Sm.of _ (by omega) (by omega)⟩
    · exact ⟨_, _, _, rfl, ⟨by dsimp only; omega, by dsimp only; rw [d1, show (0 - (1 + x)) * (0 - (1 + x)) = (1 + x) * (1 + x) by grind]; exact k1⟩, Sm.of _ (by omega) (by omega), Sm.of _ (by omega) (by omega), Sm.of _ (by omega) (by omega)⟩
    · exact ⟨_, _, _, rfl, ⟨by dsimp only; omega, by dsimp only; exact k2⟩, Sm.of _ (by omega) (by omega), Sm.of _ (by omega) (by omega), Sm.of _ (by omega) (by omega)⟩
    · exact ⟨_, _, _, rfl, ⟨by dsimp only; omega, by dsimp only; exact k2⟩, Sm.of _ (by omega) (by omega), Sm.of _ (by omega) (by omega), Sm.of _ (by omega) (by omega)⟩
    · exact ⟨_, _, _, rfl, ⟨by dsimp only; omega, by dsimp only; exact k3⟩, Sm.of _ (by omega) (by omega), Sm.of _ (by omega) (by omega), Sm.of _ (by omega) (by omega)⟩
  walk_at "go"
  exact hQ _ _ _ _ ok s1 s2 s3 b3
end
theorem kwd_call {n f : Nat} {x : D} {h : Hs} {fd : Fd} (hP : PP f = some fd) (hb : bindD fd [] [(0, x)] = bindD fd [x] []) : callN PP n f [] [(0, x)] h = callN PP n f [x] [] h := by
  cases n with
  | zero => rw [callN_zero, callN_zero]
  | succ n =>
    rw [callN_succ, callN_succ, hP]
    dsimp only
    rw [hb]
theorem eqDf {h : Hs} (a b c p q r s : Int) : eqD (.tup [.tup [.int a, .int b, .int c], .tup [.int p, .int q], .tup [.int r, .int s]]) (.tup [.tup [.int a, .int b, .int c], .tup [.int p, .int q], .tup [.int r, .int s]]) h = some true := by
  have sh : SeqAt.shaped (.tuple [.tuple [.int a, .int b, .int c], .tuple [.int p, .int q], .tuple [.int r, .int s]]) = true := by rfl
  show (if SeqAt.shaped (.tuple [.tuple [.int a, .int b, .int c], .tuple [.int p, .int q], .tuple [.int r, .int s]]) && SeqAt.shaped (.tuple [.tuple [.int a, .int b, .int c], .tuple [.int p, .int q], .tuple [.int r, .int s]]) then some (PyData.eqv (.tuple [.tuple [.int a, .int b, .int c], .tuple [.int p, .int q], .tuple [.int r, .int s]]) (.tuple [.tuple [.int a, .int b, .int c], .tuple [.int p, .int q], .tuple [.int r, .int s]])) else none) = _
  rw [sh]
  have ev : PyData.eqv (.tuple [.tuple [.int a, .int b, .int c], .tuple [.int p, .int q], .tuple [.int r, .int s]]) (.tuple [.tuple [.int a, .int b, .int c], .tuple [.int p, .int q], .tuple [.int r, .int s]]) = true := by
    show ((a == a && (b == b && (c == c && true))) && ((p == p && (q == q && true)) && ((r == r && (s == s && true)) && true))) = true
    simp
  rw [ev]
  rfl
theorem eqD3 {h : Hs} (a b c d e f : Int) : eqD (.tup [.int a, .int b, .int c]) (.tup [.int d, .int e, .int f]) h = some (a == d && (b == e && c == f)) := by
  have s : ∀ a b c : Int, SeqAt.shaped (.tuple [.int a, .int b, .int c]) = true := fun a b c => by rfl
  show (if SeqAt.shaped (.tuple [.int a, .int b, .int c]) && SeqAt.shaped (.tuple [.int d, .int e, .int f]) then some (PyData.eqv (.tuple [.int a, .int b, .int c]) (.tuple [.int d, .int e, .int f])) else none) = _
  rw [s, s]
  have ev : (PyData.tuple [.int a, .int b, .int c]).eqv (.tuple [.int d, .int e, .int f]) = (a == d && (b == e && c == f)) := by
    show (a == d && (b == e && (c == f && true))) = _
    rw [Bool.and_true]
  rw [ev]
  rfl
theorem eqDw {h : Hs} (w : Str) (hs : SeqAt.shaped (.tuple [.str w, .none]) = true) : eqD (.tup [.str w, .non]) (.tup [.str w, .non]) h = some true := by
  show (if SeqAt.shaped (.tuple [.str w, .none]) && SeqAt.shaped (.tuple [.str w, .none]) then some (PyData.eqv (.tuple [.str w, .none]) (.tuple [.str w, .none])) else none) = _
  rw [hs]
  have ev : PyData.eqv (.tuple [.str w, .none]) (.tuple [.str w, .none]) = true := by
    show (w == w && (true && true)) = true
    simp
  rw [ev]
  rfl
theorem Fm.c_le {f g : Fm} {p q : Pr} (u : unit p q) (e : f.by_ p q = g) (hg : g.red) : g.c ≤ f.a ∨ g.c ≤ f.c := by
  obtain ⟨p', q', u', w⟩ := f.back u
  rw [e] at w
  have ea : g.at_ p'.1 p'.2 = f.a := congrArg Fm.a w
  have ec : g.at_ q'.1 q'.2 = f.c := congrArg Fm.c w
  by_cases z : p'.2 = 0
  · refine .inr ?_
    rw [← ec]
    refine Fm.red_y hg fun z2 => ?_
    unfold unit at u'
    rw [z, z2] at u'
    simp at u'
  · refine .inl ?_
    rw [← ea]
    exact Fm.red_y hg z
theorem pure_law (ns : List Int) (h : ns.length ≤ 63) : ∃ r h', exSs (callN PP 20) fd_law_k47.body (some (.frz (ns.map .int)) :: List.replicate (fd_law_k47.ns - 1) none) [] = .ok (.rt (.bl true)) r h' := by
  refine law_of ?_
  simp only [fd_law_k47]
  walk_at "go"
  refine d_source fun ob b => ?_
  walk_at "go"
  refine ok_for_ (fun ds r h' => ∃ (M : Nat) (ob' : Ob) (rest : Env1), M + 40 * ds.length ≤ 1000 ∧ Bag M ob' ∧ h' = [ob'] ∧ rest.length = 10 ∧ r = some (.frz (ns.map .int)) :: some (.loc 0) :: rest) ?_ ?_ ?_
  · exact ⟨0, ob, _, by decide, b, rfl, by rfl, rfl⟩
  · rintro r h' ⟨M, ob', rest, hM, b', rfl, hl, rfl⟩
    walk_at "go"
    refine d_reduced ⟨by decide, by decide⟩ (by decide) (by decide) fun g p q u e gr _ _ => ?_
    have eg : g = ⟨1, 0, 1⟩ := Fm.same (f := ⟨5, 7, 10⟩) (p := (1, -1)) (q := (3, -2)) (.inl (by decide)) u (by rfl) ⟨by decide, by decide, by decide, by decide⟩ e gr
    subst eg
    walk_at "go"
    simp only [eqD3, eq_of (eqD3 _ _ _ _ _ _)]
    walk_at "go"
    refine d_reduced ⟨by decide, by decide⟩ (by decide) (by decide) fun g p q u e gr _ _ => ?_
    have eg : g = ⟨2, 1, 2⟩ := Fm.same (f := ⟨2, 1, 2⟩) (p := (1, 0)) (q := (0, 1)) (.inl (by decide)) u (by rfl) ⟨by decide, by decide, by decide, by decide⟩ e gr
    subst eg
    walk_at "go"
    simp only [eq_of (eqD3 _ _ _ _ _ _)]
    walk_at "go"
    rfl
  · rintro d ds r h' ⟨M, ob', rest, hM, b', rfl, hl, rfl⟩
    obtain ⟨_, _, _, _, _, _, _, _, _, _, rfl⟩ := ls_10 hl
    simp only [List.length_cons] at hM
    walk_at "go"
    refine d_a_form b' (by omega) fun a1 b1 c1 ob1 ok1 sa1 sb1 sc1 m1 => ?_
    walk_at "go"
    refine d_edge m1 (by omega) fun a2 b2 c2 ob2 ok2 sa2 sb2 sc2 m2 => ?_
    walk_at "go"
    refine d_of m2 (by omega) (by simp) (by simp) (by rfl) fun fo ob3 mf m3 => ?_
    obtain ⟨a, b, c, rfl, ok, sa, sb, sc⟩ : ∃ a b c : Int, fo = .tup [.int a, .int b, .int c] ∧ Fm.ok ⟨a, b, c⟩ ∧ Sm 60 a ∧ Sm 60 b ∧ Sm 60 c := by
      simp only [List.mem_cons, List.not_mem_nil, or_false] at mf
      rcases mf with rfl | rfl
      · exact ⟨_, _, _, rfl, ok1, sa1, sb1, sc1⟩
      · exact ⟨_, _, _, rfl, ok2, sa2, sb2, sc2⟩
    have ba : a ≤ 2 ^ 100 := by have := sa; unfold Sm at this; omega
    have bc : c ≤ 2 ^ 100 := by have := sc; unfold Sm at this; omega
    obtain ⟨dv, hv, ev, g, p1, p2, q1, q2, rfl, rfl, u, e, gr, sp, sq⟩ := (d_reduced (XQ := noE) (k := 18) (h := [ob3]) (Q := fun d h1 => ∃ (g : Fm) (p1 p2 q1 q2 : Int), d = .tup [.tup [.int g.a, .int g.b, .int g.c], .tup [.int p1, .int p2], .tup [.int q1, .int q2]] ∧ h1 = [ob3] ∧ unit (p1, p2) (q1, q2) ∧ Fm.by_ ⟨a, b, c⟩ (p1, p2) (q1, q2) = g ∧ g.red ∧ SmP 201 (p1, p2) ∧ SmP 202 (q1, q2)) ok ba bc fun g p q u e gr sp sq => ⟨g, p.1, p.2, q.1, q.2, rfl, rfl, u, e, gr, sp, sq⟩).ex
    walk_at "go"
    rw [okv_congr ev]
    walk_at "go"
    rw [if_neg (show ¬ ((3 : Int) == 3) = false by decide)]
    have ga : g.a ≤ a := by
      have := Fm.least u e gr (x := 1) (y := 0) (.inl (by decide))
      have z : Fm.at_ ⟨a, b, c⟩ 1 0 = a := by unfold Fm.at_; simp
      omega
    have gc : g.c ≤ a ∨ g.c ≤ c := Fm.c_le u e gr
    have gr' := gr
    obtain ⟨g1, g2, g3, g4⟩ := gr'
    have sgb : Sm 210 g.b := Sm.of 210 (by omega) (by omega)
    have s1 := sp.1; have s2 := sp.2; have s3 := sq.1; have s4 := sq.2
    dsimp only at s1 s2 s3 s4
    refine ⟨by walk_at "big", ?_⟩
    rw [if_pos (by omega), if_pos g3, if_neg (by omega)]
    refine ⟨by walk_at "big", by walk_at "big", ?_⟩
    rw [if_neg (show ¬ (((p1 * q2 - p2 * q1).natAbs : Int) == 1) = false by
      unfold unit at u; dsimp only at u
      simp only [beq_eq_false_iff_ne, ne_eq, Classical.not_not]
      omega)]
    refine d_led (sa.mono (by decide)) (sb.mono (by decide)) (sc.mono (by decide)) (s1.mono (by decide)) (s2.mono (by decide)) (s3.mono (by decide)) (s4.mono (by decide)) ?_
    rw [e]
    refine d_likeE (m := 2) rfl (by rfl) ?_
    walk_at "go"
    refine d_is_pair ?_
    walk_at "go"
    refine d_is_pair ?_
    walk_at "go"
    rw [kwd_call P_reduced (by rfl), okv_congr ev]
    walk_at "go"
    simp only [ne_of (eqDf _ _ _ _ _ _ _)]
    walk_at "go"
    refine d_reduced (Fm.red_ok gr) (by omega) (by omega) fun n2 p3 q3 u3 e3 gr3 _ _ => ?_
    have en : n2 = g := by rw [← e3]; exact Fm.uniq gr u3 (by rw [e3]; exact gr3)
    subst en
    walk_at "go"
    simp only [ne_of (eqD3 _ _ _ _ _ _), beq_self_eq_true, Bool.and_self]
    walk_at "go"
    refine d_pull m3 (by omega) (by decide) smc fun w ob4 w1 w2 m4 => ?_
    have sw : Sm 10 (1 + w) := Sm.of 10 (by omega) (by omega)
    walk_at "go"
    refine d_of m4 (by omega) (by simp) (by simp) (by rfl) fun fo ob5 mf m5 => ?_
    obtain ⟨x, y, z, rfl, bad, sx, sy, sz⟩ : ∃ x y z : Int, fo = .tup [.int x, .int y, .int z] ∧ (x ≤ 0 ∨ x * z ≤ y * y) ∧ Sm 2000 x ∧ Sm 2000 y ∧ Sm 2000 z := by
      simp only [List.mem_cons, List.not_mem_nil, or_false] at mf
      have s0 : Sm 2000 (1 + w) := sw.mono (by decide)
      have sm : Sm 2000 (0 - (1 + w)) := Sm.mono (j := 12) (Sm.of 12 (by omega) (by omega)) (by decide)
      rcases mf with rfl | rfl | rfl | rfl | rfl | rfl
      · exact ⟨_, _, _, rfl, .inl (by omega), smc, smc, s0⟩
      · exact ⟨_, _, _, rfl, .inl (by omega), sm, smc, s0⟩
      · exact ⟨_, _, _, rfl, .inr (Int.le_refl _), s0, s0, s0⟩
      · exact ⟨_, _, _, rfl, .inr (by simp), s0, smc, smc⟩
      · exact ⟨_, _, _, rfl, .inl (by decide), smc, smc, sm⟩
      · exact ⟨_, _, _, rfl, .inr (by simp), smc, s0, (Sm.mul sw sw).mono (by decide)⟩
    walk_at "go"
    refine d_reduced_bad sx sy sz bad ?_
    refine tellQ_of (by rfl) ?_
    walk_at "go"
    simp only [ne_of (eqDw "BadForm" (by decide +kernel))]
    walk_at "go"
    exact ⟨trivial, _, ob5, _, by omega, m5, rfl, by rfl, rfl⟩
end GY

namespace GY
open PySem PySem.Spec PyProof.Rows L2
abbrev RR : PySem.W.OpenRow := PySem.W.OpenLaw.row PySem.Challenge.rw_grainyard_k47_reduced_forms
abbrev hkk : PySem.W.Hook := hookL 7 LL
def obb (s : PySem.W.SharedT) : He.AlD := obsLG 7 LL (HandSHeadRun.getT s)
theorem ob_eq (s : PySem.W.SharedT) : obb s = hkk.obs s.abs := obsLG_eq (HandSHeadRun.getT_eq s)
theorem run_eq (w : World) : HandSHeadRun.RunEq RR (PySem.W.view RR.prog [23]) hkk obb 30000 ["GrainError", "GrainMissing", "BadForm", "NothingLeft", "scaled", "lessened", "reduced", "_law_source", "_law_pull", "_law_of", "_law_any_pair", "_law_a_form", "_law_edge", "_law_like", "_law_value_at", "_law_led", "_law_is_pair", "_law_field_of", "_law_try"] w := by
  intro os
  kernel_rfl
end GY
open PySem PySem.W PySem.Calls PyProof.Rows
theorem PySem.Challenge.cw_grainyard_k47_reduced_forms_holds : PySem.Challenge.rw_grainyard_k47_reduced_forms.Holds := by
  w_on; o_law
  refine HandSHeadRun.head_any (r := OpenLaw.row PySem.Challenge.rw_grainyard_k47_reduced_forms) (q := view (OpenLaw.row PySem.Challenge.rw_grainyard_k47_reduced_forms).prog [23]) (H := GY.hkk) (ob := GY.obb) (M := 30000) (loose := ["GrainError", "GrainMissing", "BadForm", "NothingLeft", "scaled", "lessened", "reduced", "_law_source", "_law_pull", "_law_of", "_law_any_pair", "_law_a_form", "_law_edge", "_law_like", "_law_value_at", "_law_led", "_law_is_pair", "_law_field_of", "_law_try"]) (d := HandSHeadRun.topDef (OpenLaw.row PySem.Challenge.rw_grainyard_k47_reduced_forms).prog 23) (kwd := []) GY.ob_eq
    (by kernel_rfl) (fun s => by kernel_rfl) GY.run_eq (by kernel_rfl) (by kernel_rfl) (by kernel_rfl) (by rfl) (by first | assumption | decide +kernel) (by decide +kernel) ⟨rfl, rfl, rfl, rfl, rfl, by decide +kernel⟩ ?hw ?hc
  case hw => w_witness2
  case hc =>
    refine GY.walk_gy (l := PySem.Challenge.rw_grainyard_k47_reduced_forms) (n := 63) (k := 20) (fuel := 60) (i := 246) (arg := "_law_script") (nm := "law") (L := GY.LL) (x := GY.dx_law_k47) rfl (by decide) (by kernel_rfl) ⟨rfl, by decide, by decide⟩ GY.chk_tbl GY.chk_li (by rfl) rfl (by kernel_rfl) rfl rfl rfl ?hb ?hY GY.pure_law
    case hb =>
      intro K f fd F
      have b := L2.FunD.bindsA (ps := ["_law_script"]) F fun _ _ _ _ _ _ us hl => match us, hl with | [_], _ => rfl
      exact fun s u => b s [u] rfl
    case hY =>
      intro w h Y
      exact Y

