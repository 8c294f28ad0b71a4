import PyProof.Rows.All
import Wide.All
import OpenK.AllK
import Wide.FinOn
import HandS.ForMost
import HandS.ForExc
import HandS.Walk
import HandS.Lambda
import HandS.EndTab
import HandS.IsInst
import HandS.ExcIs
import HandS.TupAny
import HandS.TupMul
import HandS.TupLe
import HandS.SortInts
import HandS.Defaults
import HandS.CallLocal
import HandS.Comp
import HandS.Rev
import HandS.Zip
import HandS.Flow
import HandS.Wide
import HandS.Style
import HandS.WideMore
import HandS.ExcCtx
import HandS.HotCalls
import HandS.HeadHook4
import HandS.HeadWalk
import HandS.Head0
import HandS.Head1
import HandS.Head2
import PySem.Challenge.RW_humless_k54_whole_digits
set_option Elab.async false
set_option linter.all false
set_option maxRecDepth 100000
/-! # P1: deep values, ghost state, readings of expressions as functions of an environment -/
namespace Hm
open PySem PySem.Spec PyProof.Rows L2

inductive D where
  | non | bl (b : Bool) | int (i : Int) | str (x : Str) | tup (xs : List D) | lst (xs : List D) | cup | scr (ns : List Int) | obj (a : Addr)
  deriving Inhabited
abbrev Cup := List Int
structure Exn where
  nm : Str
  arg : Option (Str × Int) := none
inductive Res (α : Type) where
  | ok (a : α) (c : Cup) | exc (e : Exn) (c : Cup) | bad
def Res.bnd {α β : Type} (r : Res α) (k : α → Cup → Res β) : Res β :=
  match r with
  | .ok a c => k a c
  | .exc e c => .exc e c
  | .bad => .bad
abbrev M (α : Type) := Cup → Res α
def ofO {α : Type} (o : Option α) (c : Cup) : Res α :=
  match o with
  | some a => .ok a c
  | none => .bad
@[simp] theorem bnd_ok {α β : Type} (a : α) (c : Cup) (k : α → Cup → Res β) : (Res.ok a c).bnd k = k a c := rfl
@[simp] theorem bnd_exc {α β : Type} (e : Exn) (c : Cup) (k : α → Cup → Res β) : (Res.exc e c : Res α).bnd k = .exc e c := rfl
@[simp] theorem bnd_bad {α β : Type} (k : α → Cup → Res β) : (Res.bad : Res α).bnd k = .bad := rfl
@[simp] theorem ofO_some {α : Type} (a : α) (c : Cup) : ofO (some a) c = .ok a c := rfl
@[simp] theorem ofO_none {α : Type} (c : Cup) : (ofO none c : Res α) = .bad := rfl

/-- a slot: nothing, a frozen value, a list of the frame's own -/
inductive Sl where
  | no | fz (d : D) | ow (ds : List D)
  deriving Inhabited
abbrev Ev := List Sl

structure Wd where
  K : PySem.W.Frag
  mg : Str → Option Value
  T : List (Addr × Str)

/-- a tuple of the written part -/
def KT (K : PySem.W.Frag) (a : Addr) (xs : List V) : Prop :=
  ∃ (o : Obj) (its : Array Value) (n : Nat), K.lookup a = some o ∧ o.cls = .type "tuple" ∧ o.data = .seq its n ∧ its.size ≤ sizeLine ∧ Vals xs its.toList

mutual
inductive DF (K : PySem.W.Frag) (ca : Option Addr) (F : Addr → Prop) (H : Hp) : V → D → Prop
  | non : DF K ca F H .non .non
  | bl (b : Bool) : DF K ca F H (.bl b) (.bl b)
  | int (i : Int) : DF K ca F H (.int i) (.int i)
  | str (x : Str) : DF K ca F H (.str x) (.str x)
  | lst {a : Addr} {xs : List V} {ds : List D} : F a → H a = some (.lst xs) → DFs K ca F H xs ds → DF K ca F H (.ref a) (.lst ds)
  | tup {a : Addr} {xs : List V} {ds : List D} : F a → H a = some (.tup xs) → DFs K ca F H xs ds → DF K ca F H (.ref a) (.tup ds)
  | tupK {a : Addr} {xs : List V} {ds : List D} : KT K a xs → DFs K ca F H xs ds → DF K ca F H (.ref a) (.tup ds)
  | cup {a : Addr} : ca = some a → DF K ca F H (.ref a) .cup
  | scr {a : Addr} {o : Obj} {ns : List Int} : F a → H a = some (.frz o (.lst (ns.map V.int))) → DF K ca F H (.ref a) (.scr ns)
  | scrK {a : Addr} {ns : List Int} {o : Obj} {its : Array Value} {n : Nat} : K.lookup a = some o → o.cls = .type "list" → o.dict = none → o.data = .seq its n → its.size ≤ sizeLine → Vals (ns.map V.int) its.toList → DF K ca F H (.ref a) (.scr ns)
  | scrL {a : Addr} {ns : List Int} : F a → H a = some (.lst (ns.map V.int)) → DF K ca F H (.ref a) (.scr ns)
  | obj (a : Addr) : DF K ca F H (.ref a) (.obj a)
inductive DFs (K : PySem.W.Frag) (ca : Option Addr) (F : Addr → Prop) (H : Hp) : List V → List D → Prop
  | nil : DFs K ca F H [] []
  | cons {v : V} {vs : List V} {d : D} {ds : List D} : DF K ca F H v d → DFs K ca F H vs ds → DFs K ca F H (v :: vs) (d :: ds)
end

section
variable {K : PySem.W.Frag} {ca : Option Addr} {F F' : Addr → Prop} {H H' : Hp}
/-- F's objects stay -/
def Fr (F : Addr → Prop) (H : Hp) (F' : Addr → Prop) (H' : Hp) : Prop :=
  (∀ b, F b → F' b) ∧ ∀ b o, F b → H b = some o → (∀ ps, o ≠ .tbl ps) → H' b = some o
mutual
theorem DF.mono (k : Fr F H F' H') : ∀ {d : D} {v : V}, DF K ca F H v d → DF K ca F' H' v d
  | .non, _, h => by cases h; exact .non
  | .bl b, _, h => by cases h; exact .bl b
  | .int i, _, h => by cases h; exact .int i
  | .str x, _, h => by cases h; exact .str x
  | .obj a, _, h => by cases h; exact .obj a
  | .cup, _, h => by
    cases h with
    | cup e => exact .cup e
  | .scr _, _, h => by
    cases h with
    | scr f e => exact .scr (k.1 _ f) (k.2 _ _ f e fun ps z => nomatch z)
    | scrK a b c d e f => exact .scrK a b c d e f
    | scrL f e => exact .scrL (k.1 _ f) (k.2 _ _ f e fun ps z => nomatch z)
  | .lst ds, _, h => by
    cases h with
    | lst f e r => exact .lst (k.1 _ f) (k.2 _ _ f e fun ps z => nomatch z) (DFs.mono k r)
  | .tup ds, _, h => by
    cases h with
    | tup f e r => exact .tup (k.1 _ f) (k.2 _ _ f e fun ps z => nomatch z) (DFs.mono k r)
    | tupK e r => exact .tupK e (DFs.mono k r)
theorem DFs.mono (k : Fr F H F' H') : ∀ {ds : List D} {vs : List V}, DFs K ca F H vs ds → DFs K ca F' H' vs ds
  | [], _, h => by cases h; exact .nil
  | d :: ds, _, h => by
    cases h with
    | cons a b => exact .cons (DF.mono k a) (DFs.mono k b)
end
theorem DFs.length : ∀ {ds : List D} {vs : List V}, DFs K ca F H vs ds → vs.length = ds.length
  | [], _, h => by cases h; rfl
  | d :: ds, _, h => by
    cases h with
    | cons a b => simp [DFs.length b]
theorem DFs.get : ∀ {ds : List D} {vs : List V} {i : Nat}, DFs K ca F H vs ds → ∀ {d : D}, ds[i]? = some d → ∃ v, vs[i]? = some v ∧ DF K ca F H v d
  | [], _, _, h, _, e => by simp at e
  | d :: ds, _, 0, h, _, e => by
    cases h with
    | cons a b => simp at e; subst e; exact ⟨_, rfl, a⟩
  | d :: ds, _, i + 1, h, _, e => by
    cases h with
    | cons a b =>
      obtain ⟨v, h1, h2⟩ := DFs.get (i := i) b (by simpa using e)
      exact ⟨v, by simpa using h1, h2⟩
theorem DFs.get' : ∀ {ds : List D} {vs : List V} {i : Nat}, DFs K ca F H vs ds → ∀ {v : V}, vs[i]? = some v → ∃ d, ds[i]? = some d ∧ DF K ca F H v d := by
  intro ds vs i h v e
  have hl := h.length
  have hi : i < ds.length := by
    have := (List.getElem?_eq_some_iff.mp e).1
    omega
  obtain ⟨u, h1, h2⟩ := h.get (i := i) (d := ds[i]) (by simp [hi])
  rw [e] at h1; cases h1
  exact ⟨_, by simp [hi], h2⟩
theorem DFs.append : ∀ {ds es : List D} {vs us : List V}, DFs K ca F H vs ds → DFs K ca F H us es → DFs K ca F H (vs ++ us) (ds ++ es)
  | [], _, _, _, h, r => by cases h; exact r
  | d :: ds, _, _, _, h, r => by
    cases h with
    | cons a b => exact .cons a (DFs.append b r)
theorem DFs.take : ∀ {ds : List D} {vs : List V} (n : Nat), DFs K ca F H vs ds → DFs K ca F H (vs.take n) (ds.take n)
  | _, _, 0, _ => .nil
  | [], _, n + 1, h => by cases h; exact .nil
  | d :: ds, _, n + 1, h => by
    cases h with
    | cons a b => exact .cons a (DFs.take n b)
theorem DFs.drop : ∀ {ds : List D} {vs : List V} (n : Nat), DFs K ca F H vs ds → DFs K ca F H (vs.drop n) (ds.drop n)
  | _, _, 0, h => h
  | [], _, n + 1, h => by cases h; exact .nil
  | d :: ds, _, n + 1, h => by
    cases h with
    | cons a b => exact DFs.drop n b
theorem DFs.reverse : ∀ {ds : List D} {vs : List V}, DFs K ca F H vs ds → DFs K ca F H vs.reverse ds.reverse
  | [], _, h => by cases h; exact .nil
  | d :: ds, _, h => by
    cases h with
    | cons a b =>
      rw [List.reverse_cons, List.reverse_cons]
      exact DFs.append (DFs.reverse b) (.cons a .nil)
theorem DFs.set : ∀ {ds : List D} {vs : List V} (i : Nat) {d : D} {v : V}, DFs K ca F H vs ds → DF K ca F H v d → DFs K ca F H (vs.set i v) (ds.set i d)
  | [], _, _, _, _, h, _ => by cases h; exact .nil
  | d :: ds, _, 0, _, _, h, r => by
    cases h with
    | cons a b => exact .cons r b
  | d :: ds, _, i + 1, _, _, h, r => by
    cases h with
    | cons a b => exact .cons a (DFs.set i b r)
theorem DFs.dropLast {ds : List D} {vs : List V} (h : DFs K ca F H vs ds) : DFs K ca F H vs.dropLast ds.dropLast := by
  rw [List.dropLast_eq_take, List.dropLast_eq_take, h.length]
  exact h.take _
theorem DFs.rep {ds : List D} {vs : List V} (h : DFs K ca F H vs ds) : ∀ n : Nat, DFs K ca F H (List.replicate n vs).flatten (List.replicate n ds).flatten
  | 0 => .nil
  | n + 1 => by
    rw [List.replicate_succ, List.replicate_succ, List.flatten_cons, List.flatten_cons]
    exact h.append (DFs.rep h n)
theorem DFs.ints (ns : List Int) : DFs K ca F H (ns.map V.int) (ns.map D.int) := by
  induction ns with
  | nil => exact .nil
  | cons n r ih => exact .cons (.int n) ih
end

/-- a value, or a list whose items are frozen -/
def DB (K : PySem.W.Frag) (ca : Option Addr) (F : Addr → Prop) (H : Hp) (v : V) (d : D) : Prop :=
  DF K ca F H v d ∨ ∃ a xs ds, v = .ref a ∧ d = .lst ds ∧ ca ≠ some a ∧ H a = some (.lst xs) ∧ DFs K ca F H xs ds

structure Step (ca : Option Addr) (F : Addr → Prop) (H : Hp) (F' : Addr → Prop) (H' : Hp) : Prop where
  sub : ∀ b, F b → F' b
  keep : ∀ b o, H b = some o → ca ≠ some b → (∀ ps, o ≠ .tbl ps) → H' b = some o
  there : ∀ b o, H b = some o → ∃ o', H' b = some o'
  new : ∀ b, F' b → F b ∨ H b = none
  dom : ∀ b, F' b → ∃ o, H' b = some o
def CupAt (ca : Option Addr) (c : Cup) (H : Hp) : Prop := ∀ a, ca = some a → H a = some (.lst (c.map V.int))
structure GS where
  ca : Option Addr
  H0 : Hp
  F0 : Addr → Prop
def SlR (w : Wd) (G : GS) (F : Addr → Prop) (H : Hp) (o : Option V) : Sl → Prop
  | .no => True
  | .fz d => ∃ v, o = some v ∧ DF w.K G.ca F H v d
  | .ow ds => ∃ a xs, o = some (.ref a) ∧ H a = some (.lst xs) ∧ DFs w.K G.ca F H xs ds ∧ ¬ F a ∧ G.ca ≠ some a ∧ G.H0 a = none
structure SR (w : Wd) (G : GS) (F : Addr → Prop) (σ : L2.St) (env : Ev) (c : Cup) (H : Hp) : Prop where
  len : σ.length = env.length
  slot : ∀ (i : Nat) (s : Sl), env[i]? = some s → SlR w G F H (σ[i]?.join) s
  apart : ∀ (i j : Nat) (ds es : List D) (a : Addr), i ≠ j → env[i]? = some (.ow ds) → env[j]? = some (.ow es) → σ[i]?.join = some (.ref a) → σ[j]?.join = some (.ref a) → False
  cup : CupAt G.ca c H
  cupF : ∀ a, G.ca = some a → ¬ F a
  tabs : LamX.Tabs w.T H
  dom : ∀ b, F b → ∃ o, H b = some o
  sub : ∀ b, F b → G.F0 b ∨ G.H0 b = none
  ext : ∀ b o, G.H0 b = some o → G.ca ≠ some b → (∀ ps, o ≠ .tbl ps) → H b = some o
  there : ∀ b o, G.H0 b = some o → ∃ o', H b = some o'

section
variable {w : Wd} {G : GS} {F F' F1 F2 : Addr → Prop} {σ : L2.St} {env : Ev} {c c' : Cup} {H H' H1 H2 : Hp} {ca : Option Addr}
theorem Step.refl (hd : ∀ b, F b → ∃ o, H b = some o) : Step ca F H F H :=
  ⟨fun _ h => h, fun _ _ h _ _ => h, fun _ o h => ⟨o, h⟩, fun _ h => .inl h, hd⟩
theorem Step.trans (a : Step ca F H F1 H1) (b : Step ca F1 H1 F2 H2) : Step ca F H F2 H2 where
  sub := fun x h => b.sub x (a.sub x h)
  keep := fun x o h n t => b.keep x o (a.keep x o h n t) n t
  there := fun x o h => by
    obtain ⟨o1, h1⟩ := a.there x o h
    exact b.there x o1 h1
  new := fun x h => by
    rcases b.new x h with q | q
    · exact a.new x q
    · cases e : H x with
      | none => exact .inr rfl
      | some o =>
        obtain ⟨o1, h1⟩ := a.there x o e
        rw [q] at h1; cases h1
  dom := b.dom
theorem Step.fr (s : Step ca F H F' H') (hc : ∀ a, ca = some a → ¬ F a) : Fr F H F' H' :=
  ⟨s.sub, fun b o f e t => s.keep b o e (fun z => hc b z f) t⟩
theorem DF.step {K : PySem.W.Frag} {v : V} {d : D} (h : DF K ca F H v d) (s : Step ca F H F' H') (hc : ∀ a, ca = some a → ¬ F a) : DF K ca F' H' v d := DF.mono (s.fr hc) h
theorem DFs.step {K : PySem.W.Frag} {v : List V} {d : List D} (h : DFs K ca F H v d) (s : Step ca F H F' H') (hc : ∀ a, ca = some a → ¬ F a) : DFs K ca F' H' v d := DFs.mono (s.fr hc) h
theorem DB.step {K : PySem.W.Frag} {v : V} {d : D} (h : DB K ca F H v d) (s : Step ca F H F' H') (hc : ∀ a, ca = some a → ¬ F a) : DB K ca F' H' v d := by
  rcases h with h | ⟨a, xs, ds, e1, e2, n, ha, hd⟩
  · exact .inl (h.step s hc)
  · exact .inr ⟨a, xs, ds, e1, e2, n, s.keep a _ ha n (fun ps z => nomatch z), hd.step s hc⟩
theorem SR.step (S : SR w G F σ env c H) (s : Step G.ca F H F' H') (hcup : CupAt G.ca c' H') (ht : LamX.Tabs w.T H') : SR w G F' σ env c' H' where
  len := S.len
  slot := fun i sl e => by
    have q := S.slot i sl e
    cases sl with
    | no => trivial
    | fz d =>
      obtain ⟨v, h1, h2⟩ := q
      exact ⟨v, h1, h2.step s S.cupF⟩
    | ow ds =>
      obtain ⟨a, xs, h1, h2, h3, h4, h5, h6⟩ := q
      refine ⟨a, xs, h1, s.keep a _ h2 h5 (fun ps z => nomatch z), h3.step s S.cupF, fun f => ?_, h5, h6⟩
      rcases s.new a f with z | z
      · exact h4 z
      · rw [h2] at z; cases z
  apart := S.apart
  cup := hcup
  cupF := fun a e f => by
    rcases s.new a f with z | z
    · exact S.cupF a e z
    · rw [S.cup a e] at z; cases z
  tabs := ht
  dom := s.dom
  sub := fun b f => by
    rcases s.new b f with z | z
    · exact S.sub b z
    · cases e : G.H0 b with
      | none => exact .inr rfl
      | some o =>
        obtain ⟨o', h⟩ := S.there b o e
        rw [z] at h; cases h
  ext := fun b o e n t => s.keep b o (S.ext b o e n t) n t
  there := fun b o e => by
    obtain ⟨o', h⟩ := S.there b o e
    exact s.there b o' h
/-- only new objects, frozen -/
structure Grow (F : Addr → Prop) (H : Hp) (F' : Addr → Prop) (H' : Hp) : Prop where
  sub : ∀ b, F b → F' b
  same : ∀ b o, H b = some o → H' b = some o
  new : ∀ b, F' b → F b ∨ H b = none
  dom : ∀ b, F' b → ∃ o, H' b = some o
theorem Grow.step (g : Grow F H F' H') : Step ca F H F' H' := ⟨g.sub, fun b o h _ _ => g.same b o h, fun b o h => ⟨o, g.same b o h⟩, g.new, g.dom⟩
theorem Grow.refl (hd : ∀ b, F b → ∃ o, H b = some o) : Grow F H F H := ⟨fun _ h => h, fun _ _ h => h, fun _ h => .inl h, hd⟩
theorem Grow.trans (a : Grow F H F1 H1) (b : Grow F1 H1 F2 H2) : Grow F H F2 H2 where
  sub := fun x h => b.sub x (a.sub x h)
  same := fun x o h => b.same x o (a.same x o h)
  new := fun x h => by
    rcases b.new x h with q | q
    · exact a.new x q
    · cases e : H x with
      | none => exact .inr rfl
      | some o => rw [a.same x o e] at q; cases q
  dom := b.dom
theorem SR.grow (S : SR w G F σ env c H) (g : Grow F H F' H') : SR w G F' σ env c H' :=
  S.step g.step (fun a e => g.same a _ (S.cup a e)) (S.tabs.ext g.same)
theorem SR.lay (S : SR w G F σ env c H) {p : Addr} {o : HO} (hp : H p = none) : SR w G F σ env c (upd H p o) :=
  S.grow ⟨fun _ h => h, fun b u h => by rw [upd_ne (ne_of_none h hp)]; exact h, fun _ h => .inl h, fun b h => by
    obtain ⟨u, e⟩ := S.dom b h
    exact ⟨u, by rw [upd_ne (ne_of_none e hp)]; exact e⟩⟩
/-- one new object, frozen -/
def addF (F : Addr → Prop) (p : Addr) : Addr → Prop := fun b => F b ∨ b = p
theorem grow_one {p : Addr} {o : HO} (hd : ∀ b, F b → ∃ o, H b = some o) (hp : H p = none) : Grow F H (addF F p) (upd H p o) where
  sub := fun _ h => .inl h
  same := fun b u h => by rw [upd_ne (ne_of_none h hp)]; exact h
  new := fun b h => by
    rcases h with h | h
    · exact .inl h
    · rw [h]; exact .inr hp
  dom := fun b h => by
    by_cases e : b = p
    · rw [e]; exact ⟨o, upd_same⟩
    · rcases h with h | h
      · obtain ⟨u, q⟩ := hd b h
        exact ⟨u, by rw [upd_ne e]; exact q⟩
      · exact absurd h e
end

def ExR (w : Wd) (e : Exn) (cls : Value) (dd : Option Addr) (H : Hp) : Prop :=
  ∃ C, w.mg e.nm = some (.ref C) ∧ cls = .ref C ∧ match e.arg with
    | none => dd = none
    | some (f, i) => ∃ a, dd = some a ∧ H a = some (.xd [(f, .int i)])

/-- what is wanted behind an expression -/
def Post (w : Wd) (G : GS) (W : XK) (F : Addr → Prop) (σ : L2.St) (env : Ev) (H : Hp) {α β : Type} (R : (Addr → Prop) → Hp → β → α → Prop) (r : Res α) (Q : β → Hp → Prop) : Prop :=
  match r with
  | .ok d c' => ∀ F' v H', Step G.ca F H F' H' → SR w G F' σ env c' H' → R F' H' v d → Q v H'
  | .exc e c' => ∀ F' cls dd H', Step G.ca F H F' H' → SR w G F' σ env c' H' → ExR w e cls dd H' → W cls dd H'
  | .bad => False

abbrev Rl (α β : Type) := GS → (Addr → Prop) → Hp → (Addr → Prop) → Hp → β → α → Prop
def tX (w : Wd) (W : XK) {α β : Type} (R : Rl α β) (f : Ev → M α) : L2.St → Hp → (β → Hp → Prop) → Prop := fun σ H Q =>
  ∃ G F env c, SR w G F σ env c H ∧ Post w G W F σ env H (R G F H) (f env c) Q
def Sh {α β : Type} (R : Rl α β) : Prop := ∀ G F H F1 H1 F' H' v d, Step G.ca F H F1 H1 → Step G.ca F1 H1 F' H' → R G F1 H1 F' H' v d → R G F H F' H' v d
section
variable {w : Wd} {G : GS} {W : XK} {F F1 : Addr → Prop} {σ : L2.St} {env : Ev} {c : Cup} {H H1 : Hp} {α α' β β' : Type}
theorem Post.shift {R : Rl α β} {r : Res α} {Q : β → Hp → Prop} (sh : Sh R) (h : Post w G W F σ env H (R G F H) r Q) (s : Step G.ca F H F1 H1) : Post w G W F1 σ env H1 (R G F1 H1) r Q := by
  cases r with
  | ok d c' => exact fun F' v H' s' S' q => h F' v H' (s.trans s') S' (sh _ _ _ _ _ _ _ _ _ s s' q)
  | exc e c' => exact fun F' cls dd H' s' S' q => h F' cls dd H' (s.trans s') S' q
  | bad => exact h
theorem Post.bnd {R1 : Rl α β} {R2 : Rl α' β'} {r : Res α} {k : α → Cup → Res α'} {Q : β' → Hp → Prop} (sh : Sh R2) (h : Post w G W F σ env H (R2 G F H) (r.bnd k) Q) :
    Post w G W F σ env H (R1 G F H) r (fun v H1 => ∃ F1 d c1, Step G.ca F H F1 H1 ∧ SR w G F1 σ env c1 H1 ∧ R1 G F H F1 H1 v d ∧ Post w G W F1 σ env H1 (R2 G F1 H1) (k d c1) Q) := by
  cases r with
  | ok d c' => exact fun F' v H' s' S' q => ⟨F', d, c', s', S', q, Post.shift sh h s'⟩
  | exc e c' => exact h
  | bad => exact h
theorem Post.imp {R R' : (Addr → Prop) → Hp → β → α → Prop} {r : Res α} {Q Q' : β → Hp → Prop} (h : Post w G W F σ env H R r Q) (hR : ∀ F' v H' d, Step G.ca F H F' H' → R' F' H' v d → R F' H' v d) (hQ : ∀ v H', Q v H' → Q' v H') : Post w G W F σ env H R' r Q' := by
  cases r with
  | ok d c' => exact fun F' v H' s' S' q => hQ v H' (h F' v H' s' S' (hR F' v H' d s' q))
  | exc e c' => exact h
  | bad => exact h
end

/-! ### the relations -/
def RD (w : Wd) : Rl D V := fun G _ _ F' H' v d => DF w.K G.ca F' H' v d
def RB (w : Wd) : Rl D V := fun G _ _ F' H' v d => DB w.K G.ca F' H' v d
def RF (w : Wd) : Rl (List D) V := fun G _ H F' H' v ds => ∃ a xs, v = .ref a ∧ H a = none ∧ ¬ F' a ∧ H' a = some (.lst xs) ∧ DFs w.K G.ca F' H' xs ds
def RT : Rl Bool Bool := fun _ _ _ _ _ v d => v = d
def RDs (w : Wd) : Rl (List D) (List V) := fun G _ _ F' H' v d => DFs w.K G.ca F' H' v d
def DBs (K : PySem.W.Frag) (ca : Option Addr) (F : Addr → Prop) (H : Hp) : List V → List D → Prop := Paired (DB K ca F H)
def RBs (w : Wd) : Rl (List D) (List V) := fun G _ _ F' H' v d => DBs w.K G.ca F' H' v d
theorem sh_RD {w : Wd} : Sh (RD w) := fun _ _ _ _ _ _ _ _ _ _ _ h => h
theorem sh_RB {w : Wd} : Sh (RB w) := fun _ _ _ _ _ _ _ _ _ _ _ h => h
theorem sh_RT : Sh RT := fun _ _ _ _ _ _ _ _ _ _ _ h => h
theorem sh_RDs {w : Wd} : Sh (RDs w) := fun _ _ _ _ _ _ _ _ _ _ _ h => h
theorem sh_RBs {w : Wd} : Sh (RBs w) := fun _ _ _ _ _ _ _ _ _ _ _ h => h
theorem Step.back {ca : Option Addr} {F F' : Addr → Prop} {H H' : Hp} (s : Step ca F H F' H') {a : Addr} (n : H' a = none) : H a = none := by
  cases q : H a with
  | none => rfl
  | some o =>
    obtain ⟨o', z⟩ := s.there a o q
    rw [n] at z; cases z
theorem sh_RF {w : Wd} : Sh (RF w) := fun G F H F1 H1 F' H' v d s s' ⟨a, xs, e, n, f, h, r⟩ => ⟨a, xs, e, s.back n, f, h, r⟩
abbrev tP (w : Wd) (W : XK) (f : Ev → M D) : TE := tX w W (RD w) f
abbrev tB (w : Wd) (W : XK) (f : Ev → M D) : TE := tX w W (RB w) f
abbrev tF (w : Wd) (W : XK) (f : Ev → M (List D)) : TE := tX w W (RF w) f
abbrev tT (w : Wd) (W : XK) (f : Ev → M Bool) : TT := tX w W RT f
abbrev tA (w : Wd) (W : XK) (f : Ev → M (List D)) : TA := tX w W (RDs w) f
abbrev tAB (w : Wd) (W : XK) (f : Ev → M (List D)) : TA := tX w W (RBs w) f

structure Ctx (X : Cx) (w : Wd) (W : XK) (k : Nat) : Prop where
  hK : X.K = w.K
  hmg : X.mg = w.mg
  tk : L2N.Takes X (fun cls d _ H => W cls d H)
  calm : X.calm = true
  nd : X.N.Nodup
  room : Room k X.A
  pas : PassesOwn (model X.prog X.w) X.A X.env X.xe

section
variable {X : Cx} {e : Expr}
theorem PE.imp {t t' : TE} (h : PE X e t) (hm : ∀ σ H Q, t' σ H Q → t σ H Q) : PE X e t' := ⟨fun pins s σ H Q I q => h.run pins s σ H Q I (hm σ H Q q)⟩
theorem PT.imp {t t' : TT} (h : PT X e t) (hm : ∀ σ H Q, t' σ H Q → t σ H Q) : PT X e t' := ⟨fun pins s σ H Q I q => h.run pins s σ H Q I (hm σ H Q q)⟩
theorem PA.imp {es : List Expr} {t t' : TA} (h : PA X es t) (hm : ∀ σ H Q, t' σ H Q → t σ H Q) : PA X es t' := ⟨fun pos pins s σ H Q I q => h.run pos pins s σ H Q I (hm σ H Q q)⟩
theorem PS.imp {st : Stmt} {t t' : TS} (h : PS X st t) (hm : ∀ D σ H, t' D σ H → t D σ H) : PS X st t' := ⟨fun pins s σ H D I q => h.run pins s σ H D I (hm D σ H q)⟩
theorem PSs.imp {st : List Stmt} {t t' : TS} (h : PSs X st t) (hm : ∀ D σ H, t' D σ H → t D σ H) : PSs X st t' := ⟨fun pins s σ H D I q => h.run pins s σ H D I (hm D σ H q)⟩
theorem PE.b {w : Wd} {W : XK} {f : Ev → M D} (h : PE X e (tP w W f)) : PE X e (tB w W f) := PE.imp h fun σ H Q ⟨G, F, env, c, S, q⟩ => ⟨G, F, env, c, S, q.imp (fun _ _ _ _ _ z => .inl z) fun _ _ z => z⟩
/-- a new list, frozen -/
def cFz (f : Ev → M (List D)) : Ev → M D := fun env c => (f env c).bnd fun ds c1 => .ok (.lst ds) c1
theorem fz_read {w : Wd} {W : XK} {f : Ev → M (List D)} : ∀ (σ : L2.St) (H : Hp) (Q : VK), tP w W (cFz f) σ H Q → tF w W f σ H Q := fun σ H Q ⟨G, F, env, c, S, q⟩ => by
  refine ⟨G, F, env, c, S, ?_⟩
  unfold cFz at q
  cases hf : f env c with
  | bad => rw [hf] at q; exact q
  | exc e c' => rw [hf] at q; exact q
  | ok ds c' =>
    rw [hf] at q
    rintro F' v H' s S' ⟨a, xs, ev, hn, hF, ha, hd⟩
    have s2 : Step G.ca F H (addF F' a) H' := ⟨fun b f => .inl (s.sub b f), s.keep, s.there, fun b f => ?_, fun b f => ?_⟩
    · subst ev
      exact q (addF F' a) (.ref a) H' s2 (S.step s2 S'.cup S'.tabs) (.lst (.inr rfl) ha (hd.mono ⟨fun _ h => .inl h, fun _ _ _ h _ => h⟩))
    · rcases f with f | f
      · exact s.new b f
      · rw [f]; exact .inr hn
    · rcases f with f | f
      · exact s.dom b f
      · rw [f]; exact ⟨_, ha⟩
theorem PE.fz {w : Wd} {W : XK} {f : Ev → M (List D)} (h : PE X e (tF w W f)) : PE X e (tP w W (cFz f)) := PE.imp h fz_read
end
end Hm

set_option Elab.async false
set_option linter.all false
set_option maxRecDepth 100000
/-! # P2: names, constants, operators, built-in calls by values -/
namespace Hm
open PySem PySem.Spec PyProof.Rows L2

section
variable {X : Cx} {w : Wd} {W : XK} {k : Nat} {e : Expr} {pos : Pos}
/-! ### names and constants -/
def cV (i : Nat) : Ev → M D := fun env c => match env[i]? with
  | some (.fz d) => .ok d c
  | _ => .bad
def cO (i : Nat) : Ev → M D := fun env c => match env[i]? with
  | some (.fz d) => .ok d c
  | some (.ow ds) => .ok (.lst ds) c
  | _ => .bad
def cC (d : D) : Ev → M D := fun _ c => .ok d c
theorem join_some {σ : L2.St} {i : Nat} {v : V} (h : σ[i]?.join = some v) : σ[i]? = some (some v) := by
  cases q : σ[i]? with
  | none => rw [q] at h; cases h
  | some o => rw [q] at h; exact congrArg some h
theorem pp_var {i : Nat} {x : Str} (hN : X.N[i]? = some x) (hv : Vis X.env.scope x) (hd : (x == ("__debug__" : Str)) = false := by decide) (hcd : (x == ("__classdict__" : Str)) = false := by decide) :
    PE X (.Name x pos) (tP w W (cV i)) := PE.imp (pe_var hN hv hd hcd) fun σ H Q ⟨G, F, env, c, S, q⟩ => by
  unfold cV at q
  split at q
  · rename_i d hd
    obtain ⟨v, h1, h2⟩ := S.slot i _ hd
    exact ⟨v, join_some h1, q F v H (Step.refl S.dom) S h2⟩
  · exact q.elim
theorem pb_var {i : Nat} {x : Str} (hN : X.N[i]? = some x) (hv : Vis X.env.scope x) (hd : (x == ("__debug__" : Str)) = false := by decide) (hcd : (x == ("__classdict__" : Str)) = false := by decide) :
    PE X (.Name x pos) (tB w W (cO i)) := PE.imp (pe_var hN hv hd hcd) fun σ H Q ⟨G, F, env, c, S, q⟩ => by
  unfold cO at q
  split at q
  · rename_i d hd
    obtain ⟨v, h1, h2⟩ := S.slot i _ hd
    exact ⟨v, join_some h1, q F v H (Step.refl S.dom) S (.inl h2)⟩
  · rename_i ds hd
    obtain ⟨a, xs, h1, h2, h3, h4, h5, h6⟩ := S.slot i _ hd
    exact ⟨.ref a, join_some h1, q F (.ref a) H (Step.refl S.dom) S (.inr ⟨a, xs, ds, rfl, rfl, h5, h2, h3⟩)⟩
  · exact q.elim
theorem pp_const {v : V} {d : D} (h : PE X e (tC v)) (r : ∀ ca F H, DF w.K ca F H v d) : PE X e (tP w W (cC d)) := PE.imp h fun σ H Q ⟨G, F, env, c, S, q⟩ =>
  q F v H (Step.refl S.dom) S (r _ _ _)
theorem pp_int {i j} : PE X (.Constant (.int i) j pos) (tP w W (cC (.int i))) := pp_const pe_int fun _ _ _ => .int i
theorem pp_bl {i j} : PE X (.Constant (.bool i) j pos) (tP w W (cC (.bl i))) := pp_const pe_bl fun _ _ _ => .bl i
theorem pp_non {j} : PE X (.Constant .none j pos) (tP w W (cC .non)) := pp_const pe_non fun _ _ _ => .non
theorem pp_str {x j} : PE X (.Constant (.str x) j pos) (tP w W (cC (.str x))) := pp_const pe_str fun _ _ _ => .str x
theorem pp_glob (C : Ctx X w W k) {x : Str} {v : V} {u : Value} {d : D} (hg : Gl X x) (hm : w.mg x = some u) (r : RelV v u) (hr : ∀ ca F H, DF w.K ca F H v d) (hd : (x == ("__debug__" : Str)) = false := by decide) :
    PE X (.Name x pos) (tP w W (cC d)) := pp_const (pe_glob hg (by rw [C.hmg]; exact hm) r hd) hr

/-! ### two operands -/
def cBin (op : D → D → Option D) (fa fb : Ev → M D) : Ev → M D := fun env c => (fa env c).bnd fun d c1 => (fb env c1).bnd fun e c2 => ofO (op d e) c2
def OpD (w : Wd) (r : R2) (op : D → D → Option D) : Prop := ∀ (ca : Option Addr) (F : Addr → Prop) (H : Hp) (x y : V) (d e z : D) (Q : VK), (∀ a, ca = some a → ¬ F a) → (∀ b, F b → ∃ o, H b = some o) →
  DB w.K ca F H x d → DB w.K ca F H y e → op d e = some z → (∀ F' v H', Grow F H F' H' → DF w.K ca F' H' v z → Q v H') → r x y H Q
theorem Post.two {G : GS} {F : Addr → Prop} {σ : L2.St} {env : Ev} {c : Cup} {H : Hp} {Q : VK} {fa fb : Ev → M D} {α : Type} {R2 : Rl α V} {kk : D → D → Cup → Res α} (sh : Sh R2) (S : SR w G F σ env c H)
    (q : Post w G W F σ env H (R2 G F H) ((fa env c).bnd fun d c1 => (fb env c1).bnd fun e c2 => kk d e c2) Q) :
    tB w W fa σ H fun x H1 => tB w W fb σ H1 fun y H2 => ∃ F2 d e c2, Step G.ca F H F2 H2 ∧ SR w G F2 σ env c2 H2 ∧ DB w.K G.ca F2 H2 x d ∧ DB w.K G.ca F2 H2 y e ∧ Post w G W F2 σ env H2 (R2 G F2 H2) (kk d e c2) Q := by
  refine ⟨G, F, env, c, S, (Post.bnd (R1 := RB w) sh q).imp (fun _ _ _ _ _ z => z) ?_⟩
  rintro x H1 ⟨F1, d, c1, s1, S1, r1, q1⟩
  refine ⟨G, F1, env, c1, S1, (Post.bnd (R1 := RB w) sh q1).imp (fun _ _ _ _ _ z => z) ?_⟩
  rintro y H2 ⟨F2, e, c2, s2, S2, r2, q2⟩
  exact ⟨F2, d, e, c2, s1.trans s2, S2, DB.step r1 s2 S1.cupF, r2, q2⟩
theorem Post.val {G : GS} {F : Addr → Prop} {σ : L2.St} {env : Ev} {c : Cup} {H : Hp} {Q : VK} {z : D} (S : SR w G F σ env c H) (q : Post w G W F σ env H (RD w G F H) (.ok z c) Q) :
    ∀ F' v H', Grow F H F' H' → DF w.K G.ca F' H' v z → Q v H' := fun F' v H' g r => q F' v H' g.step (S.grow g) r
theorem two_op {r : R2} {op : D → D → Option D} {a b : Expr} {fa fb : Ev → M D} (hr : OpD w r op) : ∀ (σ : L2.St) (H : Hp) (Q : VK), tP w W (cBin op fa fb) σ H Q → tOp r (tB w W fa) (tB w W fb) σ H Q := by
  rintro σ H Q ⟨G, F, env, c, S, q⟩
  have h := Post.two (R2 := RD w) (kk := fun d e c2 => ofO (op d e) c2) sh_RD S q
  obtain ⟨G1, F1, env1, c1, S1, q1⟩ := h
  refine ⟨G1, F1, env1, c1, S1, q1.imp (fun _ _ _ _ _ z => z) ?_⟩
  rintro x H1 ⟨G2, F2, env2, c2, S2, q2⟩
  refine ⟨G2, F2, env2, c2, S2, q2.imp (fun _ _ _ _ _ z => z) ?_⟩
  rintro y H2 ⟨F3, d, e, c3, s3, S3, r1, r2, q3⟩
  cases hz : op d e with
  | none => rw [hz] at q3; exact q3.elim
  | some z =>
    rw [hz] at q3
    exact hr G.ca F3 H2 x y d e z Q S3.cupF S3.dom r1 r2 hz (Post.val S3 q3)
theorem pp_bin {o : Operator} {r : R2} {op : D → D → Option D} {a b : Expr} {fa fb : Ev → M D} (ho : OpR X (binaryOp o) r) (hr : OpD w r op) (ha : PE X a (tB w W fa)) (hb : PE X b (tB w W fb)) :
    PE X (.BinOp a o b pos) (tP w W (cBin op fa fb)) := PE.imp (pe_op ho ha hb) (two_op (a := a) (b := b) hr)
theorem pp_cmp {o : CmpOp} {r : R2} {op : D → D → Option D} {a b : Expr} {fa fb : Ev → M D} (ho : OpR X (compareOp o) r) (hr : OpD w r op) (hm : behindInMarks o b = false) (ha : PE X a (tB w W fa)) (hb : PE X b (tB w W fb)) :
    PE X (.Compare a [o] [b] pos) (tP w W (cBin op fa fb)) := PE.imp (pe_cmpR ho ha hb hm) (two_op (a := a) (b := b) hr)

/-! ### what an operand is -/
section
variable {K : PySem.W.Frag} {ca : Option Addr} {F : Addr → Prop} {H : Hp} {x : V}
theorem DB.int {i : Int} (h : DB K ca F H x (.int i)) : x = .int i := by
  rcases h with h | ⟨_, _, _, _, e, _⟩
  · cases h; rfl
  · cases e
theorem DB.bl {i : Bool} (h : DB K ca F H x (.bl i)) : x = .bl i := by
  rcases h with h | ⟨_, _, _, _, e, _⟩
  · cases h; rfl
  · cases e
theorem DB.non (h : DB K ca F H x .non) : x = .non := by
  rcases h with h | ⟨_, _, _, _, e, _⟩
  · cases h; rfl
  · cases e
theorem DB.str {z : Str} (h : DB K ca F H x (.str z)) : x = .str z := by
  rcases h with h | ⟨_, _, _, _, e, _⟩
  · cases h; rfl
  · cases e
theorem DB.cup (h : DB K ca F H x .cup) : ∃ a, ca = some a ∧ x = .ref a := by
  rcases h with h | ⟨_, _, _, _, e, _⟩
  · cases h with
    | cup e => exact ⟨_, e, rfl⟩
  · cases e
theorem DF.tupS {ds : List D} (h : DF K ca F H x (.tup ds)) : ∃ a xs, x = .ref a ∧ SqT K H a xs ∧ DFs K ca F H xs ds := by
  cases h with
  | tup f e r => exact ⟨_, _, rfl, SqT.of e, r⟩
  | tupK e r => exact ⟨_, _, rfl, .inr e, r⟩
theorem DB.tup {ds : List D} (h : DB K ca F H x (.tup ds)) : DF K ca F H x (.tup ds) := by
  rcases h with h | ⟨_, _, _, _, e, _⟩
  · exact h
  · cases e
theorem DB.lst {ds : List D} (hc : ∀ a, ca = some a → ¬ F a) (h : DB K ca F H x (.lst ds)) : ∃ a xs, x = .ref a ∧ H a = some (.lst xs) ∧ DFs K ca F H xs ds ∧ ca ≠ some a := by
  rcases h with h | ⟨a, xs, es, e1, e2, n, e3, r⟩
  · cases h with
    | lst f e r => exact ⟨_, _, rfl, e, r, fun z => hc _ z f⟩
  · cases e2
    exact ⟨a, xs, e1, e3, r, n⟩
/-- a new frozen list, a new frozen tuple -/
theorem new_lst {z : List D} {Q : VK} (hd : ∀ b, F b → ∃ o, H b = some o) (q : ∀ F' v H', Grow F H F' H' → DF K ca F' H' v (.lst z) → Q v H') {xs : List V} (r : DFs K ca F H xs z) {p : Addr} (hp : H p = none) : Q (.ref p) (upd H p (.lst xs)) := by
  have g := grow_one (o := .lst xs) hd hp
  exact q _ _ _ g (.lst (.inr rfl) upd_same (r.mono ⟨g.sub, fun b o _ h _ => g.same b o h⟩))
theorem new_tup {z : List D} {Q : VK} (hd : ∀ b, F b → ∃ o, H b = some o) (q : ∀ F' v H', Grow F H F' H' → DF K ca F' H' v (.tup z) → Q v H') {xs : List V} (r : DFs K ca F H xs z) {p : Addr} (hp : H p = none) : Q (.ref p) (upd H p (.tup xs)) := by
  have g := grow_one (o := .tup xs) hd hp
  exact q _ _ _ g (.tup (.inr rfl) upd_same (r.mono ⟨g.sub, fun b o _ h _ => g.same b o h⟩))
end

/-! ### arithmetic -/
abbrev rMaxLen : Nat := 16777216
def dAdd : D → D → Option D
  | .int i, .int j => some (.int (i + j))
  | .tup xs, .tup ys => if xs.length + ys.length ≤ rMaxLen then some (.tup (xs ++ ys)) else none
  | .lst xs, .lst ys => if xs.length + ys.length ≤ rMaxLen then some (.lst (xs ++ ys)) else none
  | .str x, .str y => if x.length + y.length ≤ rMaxLen then some (.str (x ++ y)) else none
  | _, _ => none
def rAddD (K : PySem.W.Frag) : R2 := fun x y H Q => (∃ i j, x = .int i ∧ y = .int j ∧ Q (.int (i + j)) H) ∨ (rCatA K x y H Q ∨ (rCat x y H Q ∨ (∃ i j, x = .str i ∧ y = .str j ∧ i.length + j.length ≤ sizeLine ∧ Q (.str (i ++ j)) H)))
theorem opr_add : OpR X (binaryOp .Add) (rAddD X.K) := op_add.or (op_catA.or (op_cat.or op_add_str))
theorem line_le {n : Nat} (h : n ≤ rMaxLen) : n ≤ sizeLine := by rw [sizeLine_eq]; exact h
theorem opd_add : OpD w (rAddD w.K) dAdd := by
  intro ca F H x y d e z Q hc hd hx hy hz q
  unfold dAdd at hz
  split at hz
  · cases hz
    rw [hx.int, hy.int]
    exact .inl ⟨_, _, rfl, rfl, q F _ H (Grow.refl hd) (.int _)⟩
  · rename_i xs ys
    split at hz
    · rename_i hl
      cases hz
      obtain ⟨a, us, rfl, ha, ra⟩ := hx.tup.tupS
      obtain ⟨b, vs, rfl, hb, rb⟩ := hy.tup.tupS
      have l1 := ra.length
      have l2 := rb.length
      refine .inr (.inl ⟨a, b, us, vs, rfl, rfl, ha, hb, line_le (by omega), fun hn => ?_, fun _ hn => ?_, fun _ _ p hp => new_tup hd q (ra.append rb) hp⟩)
      · subst hn
        have : xs = [] := by cases xs with
          | nil => rfl
          | cons _ _ => simp at l1
        subst this
        exact q F _ H (Grow.refl hd) hy.tup
      · subst hn
        have : ys = [] := by cases ys with
          | nil => rfl
          | cons _ _ => simp at l2
        subst this
        rw [List.append_nil] at q
        exact q F _ H (Grow.refl hd) hx.tup
    · cases hz
  · rename_i xs ys
    split at hz
    · rename_i hl
      cases hz
      obtain ⟨a, us, rfl, ha, ra, _⟩ := hx.lst hc
      obtain ⟨b, vs, rfl, hb, rb, _⟩ := hy.lst hc
      have l1 := ra.length
      have l2 := rb.length
      exact .inr (.inr (.inl ⟨a, b, us, vs, rfl, rfl, ha, hb, line_le (by omega), fun p hp => new_lst hd q (ra.append rb) hp⟩))
    · cases hz
  · split at hz
    · rename_i hl
      cases hz
      rw [hx.str, hy.str]
      exact .inr (.inr (.inr ⟨_, _, rfl, rfl, line_le hl, q F _ H (Grow.refl hd) (.str _)⟩))
    · cases hz
  · cases hz
def dSub : D → D → Option D
  | .int i, .int j => some (.int (i - j))
  | _, _ => none
theorem opd_sub : OpD w (rI0 fun i j => .int (i - j)) dSub := by
  intro ca F H x y d e z Q hc hd hx hy hz q
  unfold dSub at hz
  split at hz
  · cases hz
    rw [hx.int, hy.int]
    exact ⟨_, _, rfl, rfl, q F _ H (Grow.refl hd) (.int _)⟩
  · cases hz
def mulOk (i j : Int) : Bool := decide (i.natAbs < 2 ^ 64) || decide (j.natAbs < 2 ^ 64) || decide (i.natAbs.log2 + j.natAbs.log2 < 1000000)
def repOk (n : Nat) (k : Int) : Bool := decide (n ≤ 1000) && decide (k ≤ 1000) && decide (0 ≤ k)
def dMul : D → D → Option D
  | .int i, .int j => if mulOk i j then some (.int (i * j)) else none
  | .lst xs, .int j => if repOk xs.length j then some (.lst (List.replicate j.toNat xs).flatten) else none
  | .tup xs, .int j => if repOk xs.length j && decide (2 ≤ j) && !xs.isEmpty then some (.tup (List.replicate j.toNat xs).flatten) else none
  | _, _ => none
def rMulD (K : PySem.W.Frag) : R2 := fun x y H Q => rI CMul (fun i j => .int (i * j)) x y H Q ∨ (rI CMulW (fun i j => .int (i * j)) x y H Q ∨ (rRep x y H Q ∨ rRepT K x y H Q))
theorem opr_mul : OpR X (binaryOp .Mult) (rMulD X.K) := op_mul.or (op_mulW.or (op_rep.or op_repT))
theorem opd_mul : OpD w (rMulD w.K) dMul := by
  intro ca F H x y d e z Q hc hd hx hy hz q
  unfold dMul at hz
  split at hz
  · rename_i i j
    split at hz
    · rename_i ho
      cases hz
      rw [hx.int, hy.int]
      unfold mulOk at ho
      simp only [Bool.or_eq_true, decide_eq_true_eq] at ho
      have fin := q F _ H (Grow.refl hd) (.int (i * j))
      rcases ho with (h | h) | h
      · exact .inl ⟨_, _, rfl, rfl, .inl ⟨by omega, by omega⟩, fin⟩
      · exact .inl ⟨_, _, rfl, rfl, .inr ⟨by omega, by omega⟩, fin⟩
      · exact .inr (.inl ⟨_, _, rfl, rfl, h, fin⟩)
    · cases hz
  · rename_i xs j
    split at hz
    · rename_i ho
      cases hz
      unfold repOk at ho
      simp only [Bool.and_eq_true, decide_eq_true_eq] at ho
      obtain ⟨⟨h1, h2⟩, h3⟩ := ho
      rw [hy.int]
      obtain ⟨a, us, rfl, ha, ra, _⟩ := hx.lst hc
      have l1 := ra.length
      refine .inr (.inr (.inl ⟨a, j, us, rfl, rfl, ha, by omega, by omega, ?_, fun p hp => new_lst hd q (ra.rep _) hp⟩))
      rw [sizeLine_eq, l1]
      exact Nat.le_trans (Nat.mul_le_mul h1 (show j.toNat ≤ 1000 by omega)) (by decide)
    · cases hz
  · rename_i xs j
    split at hz
    · rename_i ho
      cases hz
      unfold repOk at ho
      simp only [Bool.and_eq_true, decide_eq_true_eq] at ho
      obtain ⟨⟨⟨⟨h1, h2⟩, h3⟩, h4⟩, h5⟩ := ho
      rw [hy.int]
      obtain ⟨a, us, rfl, ha, ra⟩ := hx.tup.tupS
      have l1 := ra.length
      refine .inr (.inr (.inr ⟨a, j, us, rfl, rfl, ha, fun z => ?_, h4, h2, by omega, fun p hp => new_tup hd q (ra.rep _) hp⟩))
      subst z
      cases xs with
      | nil => simp at h5
      | cons _ _ => simp at l1
    · cases hz
  · cases hz
def dDiv : D → D → Option D
  | .int i, .int j => if 0 < j ∧ j.natAbs.log2 < 9000 then some (.int (i / j)) else none
  | _, _ => none
theorem opd_div : OpD w (rI CDivW fun i j => .int (i / j)) dDiv := by
  intro ca F H x y d e z Q hc hd hx hy hz q
  unfold dDiv at hz
  split at hz
  · split at hz
    · rename_i ho
      cases hz
      rw [hx.int, hy.int]
      exact ⟨_, _, rfl, rfl, ho, q F _ H (Grow.refl hd) (.int _)⟩
    · cases hz
  · cases hz
def dMod : D → D → Option D
  | .int i, .int j => if 0 < j then some (.int (i % j)) else none
  | _, _ => none
theorem opd_mod : OpD w (rI (fun _ j => 0 < j) fun i j => .int (i % j)) dMod := by
  intro ca F H x y d e z Q hc hd hx hy hz q
  unfold dMod at hz
  split at hz
  · split at hz
    · rename_i ho
      cases hz
      rw [hx.int, hy.int]
      exact ⟨_, _, rfl, rfl, ho, q F _ H (Grow.refl hd) (.int _)⟩
    · cases hz
  · cases hz
def dPow : D → D → Option D
  | .int i, .int j => if 0 ≤ j ∧ j ≤ 1000000 ∧ i.natAbs < 2 ^ 64 then some (.int (i ^ j.toNat)) else none
  | _, _ => none
theorem opd_pow : OpD w (rI CPow fun i j => .int (i ^ j.toNat)) dPow := by
  intro ca F H x y d e z Q hc hd hx hy hz q
  unfold dPow at hz
  split at hz
  · split at hz
    · rename_i ho
      cases hz
      rw [hx.int, hy.int]
      exact ⟨_, _, rfl, rfl, ho, q F _ H (Grow.refl hd) (.int _)⟩
    · cases hz
  · cases hz
/-! ### comparisons -/
def dCmpI (p : Int → Int → Bool) : D → D → Option D
  | .int i, .int j => some (.bl (p i j))
  | _, _ => none
theorem opd_cmpI (p : Int → Int → Bool) : OpD w (rI0 fun i j => .bl (p i j)) (dCmpI p) := by
  intro ca F H x y d e z Q hc hd hx hy hz q
  unfold dCmpI at hz
  split at hz
  · cases hz
    rw [hx.int, hy.int]
    exact ⟨_, _, rfl, rfl, q F _ H (Grow.refl hd) (.bl _)⟩
  · cases hz
mutual
def D.py : D → PyData
  | .non => .none
  | .bl b => .bool b
  | .int i => .int i
  | .str x => .str x
  | .tup xs => .tuple (D.pys xs)
  | .lst xs => .list (D.pys xs)
  | .cup => .dict []
  | .scr _ => .dict []
  | .obj _ => .dict []
def D.pys : List D → List PyData
  | [] => []
  | x :: xs => D.py x :: D.pys xs
end
mutual
theorem DF.dp {K : PySem.W.Frag} {ca : Option Addr} {F : Addr → Prop} {H : Hp} : ∀ {d : D} {v : V}, DF K ca F H v d → d.py.canLay0 = true → Dp K H v d.py
  | .non, _, h, _ => by cases h; exact .non
  | .bl b, _, h, _ => by cases h; exact .bl b
  | .int i, _, h, _ => by cases h; exact .int i
  | .str x, _, h, _ => by cases h; exact .str x
  | .cup, _, h, z => by cases z
  | .scr _, _, h, z => by cases z
  | .obj _, _, h, z => by cases z
  | .lst ds, _, h, z => by
    cases h with
    | lst f e r => exact .lst (SqL.of e) (DFs.dp r z)
  | .tup ds, _, h, z => by
    cases h with
    | tup f e r => exact .tup (SqT.of e) (DFs.dp r z)
    | tupK e r => exact .tup (.inr e) (DFs.dp r z)
theorem DFs.dp {K : PySem.W.Frag} {ca : Option Addr} {F : Addr → Prop} {H : Hp} : ∀ {ds : List D} {vs : List V}, DFs K ca F H vs ds → PyData.canLayAll0 (D.pys ds) = true → DpAll K H vs (D.pys ds)
  | [], _, h, _ => by cases h; exact .nil
  | d :: ds, _, h, z => by
    cases h with
    | cons a b =>
      have z' : (d.py.canLay0 && PyData.canLayAll0 (D.pys ds)) = true := z
      rw [Bool.and_eq_true] at z'
      exact .cons (DF.dp a z'.1) (DFs.dp b z'.2)
end
theorem DB.dp {K : PySem.W.Frag} {ca : Option Addr} {F : Addr → Prop} {H : Hp} {d : D} {v : V} (h : DB K ca F H v d) (z : d.py.canLay0 = true) : Dp K H v d.py := by
  rcases h with h | ⟨a, xs, ds, e1, e2, n, e3, r⟩
  · exact h.dp z
  · subst e1 e2
    exact .lst (SqL.of e3) (r.dp z)
def D.shp (d : D) : Bool := SeqAt.shaped d.py
def dEq : D → D → Option D := fun d e => if d.shp && e.shp then some (.bl (PyData.eqv d.py e.py)) else none
def dNe : D → D → Option D := fun d e => if d.shp && e.shp then some (.bl (!PyData.eqv d.py e.py)) else none
theorem opd_eq : OpD w (rEqD w.K) dEq := by
  intro ca F H x y d e z Q hc hd hx hy hz q
  unfold dEq at hz
  split at hz
  · rename_i ho
    cases hz
    rw [Bool.and_eq_true] at ho
    exact ⟨_, _, hx.dp (SeqAt.canLay_of_shaped ho.1), hy.dp (SeqAt.canLay_of_shaped ho.2), ho.1, ho.2, q F _ H (Grow.refl hd) (.bl _)⟩
  · cases hz
theorem opd_ne : OpD w (rNeD w.K) dNe := by
  intro ca F H x y d e z Q hc hd hx hy hz q
  unfold dNe at hz
  split at hz
  · rename_i ho
    cases hz
    rw [Bool.and_eq_true] at ho
    exact ⟨_, _, hx.dp (SeqAt.canLay_of_shaped ho.1), hy.dp (SeqAt.canLay_of_shaped ho.2), ho.1, ho.2, q F _ H (Grow.refl hd) (.bl _)⟩
  · cases hz
def D.isN : D → Bool
  | .non => true
  | _ => false
def dIs : D → D → Option D
  | d, .non => some (.bl d.isN)
  | _, _ => none
def dIsNot : D → D → Option D
  | d, .non => some (.bl (!d.isN))
  | _, _ => none
theorem DB.isN {K : PySem.W.Frag} {ca : Option Addr} {F : Addr → Prop} {H : Hp} {d : D} {v : V} (h : DB K ca F H v d) : decide (v = .non) = d.isN := by
  rcases h with h | ⟨a, xs, ds, e1, e2, n, e3, r⟩
  · cases h <;> simp [D.isN]
  · subst e1 e2; simp [D.isN]
theorem opd_is : OpD w (fun x y H Q => y = .non ∧ Q (.bl (decide (x = .non))) H) dIs := by
  intro ca F H x y d e z Q hc hd hx hy hz q
  unfold dIs at hz
  split at hz
  · cases hz
    refine ⟨hy.non, ?_⟩
    rw [hx.isN]
    exact q F _ H (Grow.refl hd) (.bl _)
  · cases hz
theorem opd_isNot : OpD w (fun x y H Q => y = .non ∧ Q (.bl (!decide (x = .non))) H) dIsNot := by
  intro ca F H x y d e z Q hc hd hx hy hz q
  unfold dIsNot at hz
  split at hz
  · cases hz
    refine ⟨hy.non, ?_⟩
    rw [hx.isN]
    exact q F _ H (Grow.refl hd) (.bl _)
  · cases hz
/-- flat items -/
def D.v? : D → Option V
  | .non => some .non
  | .bl b => some (.bl b)
  | .int i => some (.int i)
  | .str x => some (.str x)
  | _ => none
def vsOf : List D → Option (List V)
  | [] => some []
  | d :: ds => (D.v? d).bind fun v => (vsOf ds).map (v :: ·)
theorem D.v?_flat {d : D} {v : V} (h : d.v? = some v) : flatV v = true := by
  unfold D.v? at h
  split at h <;> first | (cases h; rfl) | cases h
theorem DF.v? {K : PySem.W.Frag} {ca : Option Addr} {F : Addr → Prop} {H : Hp} {d : D} {u v : V} (h : DF K ca F H u d) (e : d.v? = some v) : u = v := by
  cases h <;> simp [D.v?] at e <;> exact e
theorem DFs.v? {K : PySem.W.Frag} {ca : Option Addr} {F : Addr → Prop} {H : Hp} : ∀ {ds : List D} {us vs : List V}, DFs K ca F H us ds → vsOf ds = some vs → us = vs ∧ vs.all flatV = true
  | [], _, _, h, e => by cases h; simp [vsOf] at e; subst e; exact ⟨rfl, rfl⟩
  | d :: ds, _, _, h, e => by
    cases h with
    | cons a b =>
      simp only [vsOf] at e
      cases h1 : d.v? with
      | none => rw [h1] at e; cases e
      | some v =>
        rw [h1] at e
        cases h2 : vsOf ds with
        | none => rw [h2] at e; cases e
        | some vs =>
          rw [h2] at e
          cases e
          obtain ⟨e1, e2⟩ := DFs.v? b h2
          rw [a.v? h1, e1]
          exact ⟨rfl, by rw [List.all_cons, D.v?_flat h1, e2]; rfl⟩
def itemsOf : D → Option (List D)
  | .tup xs => some xs
  | .lst xs => some xs
  | _ => none
def dInB (d e : D) : Option Bool := (D.v? d).bind fun v => (itemsOf e).bind fun ds => (vsOf ds).map fun vs => inV v vs
def dIn (d e : D) : Option D := (dInB d e).map D.bl
def dNotIn (d e : D) : Option D := (dInB d e).map fun b => D.bl (!b)
theorem DB.items {K : PySem.W.Frag} {ca : Option Addr} {F : Addr → Prop} {H : Hp} {x : V} {d : D} {ds : List D} (hc : ∀ a, ca = some a → ¬ F a) (h : DB K ca F H x d) (e : itemsOf d = some ds) :
    ∃ a xs, x = .ref a ∧ (SqL K H a xs ∨ SqT K H a xs) ∧ DFs K ca F H xs ds := by
  unfold itemsOf at e
  split at e
  · cases e
    obtain ⟨a, xs, h1, h2, h3⟩ := h.tup.tupS
    exact ⟨a, xs, h1, .inr h2, h3⟩
  · cases e
    obtain ⟨a, xs, h1, h2, h3, _⟩ := h.lst hc
    exact ⟨a, xs, h1, .inl (SqL.of h2), h3⟩
  · cases e
theorem inB_of {K : PySem.W.Frag} {ca : Option Addr} {F : Addr → Prop} {H : Hp} {x y : V} {d e : D} {b : Bool} (hc : ∀ a, ca = some a → ¬ F a) (hx : DB K ca F H x d) (hy : DB K ca F H y e) (h : dInB d e = some b) :
    ∃ p xs, y = .ref p ∧ (SqL K H p xs ∨ SqT K H p xs) ∧ flatV x = true ∧ xs.all flatV = true ∧ inV x xs = b := by
  unfold dInB at h
  cases h1 : d.v? with
  | none => rw [h1] at h; cases h
  | some v =>
    rw [h1] at h
    cases h2 : itemsOf e with
    | none => rw [h2] at h; cases h
    | some ds =>
      rw [h2] at h
      simp only [Option.bind_some] at h
      cases h3 : vsOf ds with
      | none => rw [h3] at h; cases h
      | some vs =>
        rw [h3] at h
        cases h
        have ex : x = v := by
          rcases hx with hx | ⟨_, _, _, _, e2, _⟩
          · exact hx.v? h1
          · subst e2; cases h1
        obtain ⟨p, xs, e1, e2, e3⟩ := hy.items hc h2
        obtain ⟨e4, e5⟩ := e3.v? h3
        subst e4
        exact ⟨p, xs, e1, e2, by rw [ex]; exact D.v?_flat h1, e5, by rw [ex]⟩
theorem opd_in : OpD w (rIn w.K false) dIn := by
  intro ca F H x y d e z Q hc hd hx hy hz q
  unfold dIn at hz
  cases h : dInB d e with
  | none => rw [h] at hz; cases hz
  | some b =>
    rw [h] at hz
    cases hz
    obtain ⟨p, xs, e1, e2, e3, e4, e5⟩ := inB_of hc hx hy h
    refine ⟨p, xs, e1, e2, e3, e4, ?_⟩
    rw [e5]
    exact q F _ H (Grow.refl hd) (.bl _)
theorem opd_notIn : OpD w (rIn w.K true) dNotIn := by
  intro ca F H x y d e z Q hc hd hx hy hz q
  unfold dNotIn at hz
  cases h : dInB d e with
  | none => rw [h] at hz; cases hz
  | some b =>
    rw [h] at hz
    cases hz
    obtain ⟨p, xs, e1, e2, e3, e4, e5⟩ := inB_of hc hx hy h
    refine ⟨p, xs, e1, e2, e3, e4, ?_⟩
    rw [e5]
    exact q F _ H (Grow.refl hd) (.bl _)
end
end Hm

set_option Elab.async false
set_option linter.all false
set_option maxRecDepth 100000
/-! # P3: truth, tests, displays, subscripts, slices, built-in calls -/
namespace Hm
open PySem PySem.Spec PyProof.Rows L2

section
variable {X : Cx} {w : Wd} {W : XK} {k : Nat} {e a b : Expr} {pos : Pos}
/-! ### one operand -/
def cUn (op : D → Option D) (fa : Ev → M D) : Ev → M D := fun env c => (fa env c).bnd fun d c1 => ofO (op d) c1
def UnD (w : Wd) (r : V → Hp → VK → Prop) (op : D → Option D) : Prop := ∀ (ca : Option Addr) (F : Addr → Prop) (H : Hp) (x : V) (d z : D) (Q : VK), (∀ a, ca = some a → ¬ F a) → (∀ b, F b → ∃ o, H b = some o) →
  DB w.K ca F H x d → op d = some z → (∀ F' v H', Grow F H F' H' → DF w.K ca F' H' v z → Q v H') → r x H Q
theorem one_op {r : V → Hp → VK → Prop} {op : D → Option D} {fa : Ev → M D} (hr : UnD w r op) : ∀ (σ : L2.St) (H : Hp) (Q : VK), tP w W (cUn op fa) σ H Q → tUn r (tB w W fa) σ H Q := by
  rintro σ H Q ⟨G, F, env, c, S, q⟩
  refine ⟨G, F, env, c, S, (Post.bnd (R1 := RB w) sh_RD q).imp (fun _ _ _ _ _ z => z) ?_⟩
  rintro x H1 ⟨F1, d, c1, s1, S1, r1, q1⟩
  cases hz : op d with
  | none => rw [hz] at q1; exact q1.elim
  | some z =>
    rw [hz] at q1
    exact hr G.ca F1 H1 x d z Q S1.cupF S1.dom r1 hz (Post.val S1 q1)
theorem pp_un {o : UnaryOp} {r : V → Hp → VK → Prop} {op : D → Option D} {fa : Ev → M D} (ho : UnR X (unaryOp o) r) (hr : UnD w r op) (ha : PE X a (tB w W fa)) : PE X (.UnaryOp o a pos) (tP w W (cUn op fa)) :=
  PE.imp (pe_un ho ha) (one_op hr)
def dNeg : D → Option D
  | .int i => some (.int (-i))
  | _ => none
theorem opd_neg : UnD w (rU fun i => .int (-i)) dNeg := by
  intro ca F H x d z Q hc hd hx hz q
  unfold dNeg at hz
  split at hz
  · cases hz
    rw [hx.int]
    exact ⟨_, rfl, q F _ H (Grow.refl hd) (.int _)⟩
  · cases hz
/-! ### truth -/
def D.tru : D → Option Bool
  | .non => some false
  | .bl b => some b
  | .int i => some (i != 0)
  | .tup xs => some (!xs.isEmpty)
  | .lst xs => some (!xs.isEmpty)
  | _ => none
theorem empty_of {K : PySem.W.Frag} {ca : Option Addr} {F : Addr → Prop} {H : Hp} {ds : List D} {xs : List V} (r : DFs K ca F H xs ds) : ds.isEmpty = xs.isEmpty := by
  cases r <;> rfl
theorem DB.tru {K : PySem.W.Frag} {ca : Option Addr} {F : Addr → Prop} {H : Hp} {x : V} {d : D} {b : Bool} (hc : ∀ a, ca = some a → ¬ F a) (h : DB K ca F H x d) (e : d.tru = some b) : TruV K x H b := by
  unfold D.tru at e
  split at e
  · cases e; rw [h.non]; rfl
  · cases e; rw [h.bl]; rfl
  · cases e; rw [h.int]; rfl
  · cases e
    obtain ⟨a, xs, rfl, h2, h3⟩ := h.tup.tupS
    exact .inr (.inl ⟨xs, h2, by rw [empty_of h3]⟩)
  · cases e
    obtain ⟨a, xs, rfl, h2, h3, _⟩ := h.lst hc
    exact .inl ⟨xs, SqL.of h2, by rw [empty_of h3]⟩
  · cases e
def dNot (d : D) : Option D := d.tru.map fun b => .bl (!b)
theorem pp_not {fa : Ev → M D} (ha : PE X a (tB w W fa)) (C : Ctx X w W k) : PE X (.UnaryOp .Not a pos) (tP w W (cUn dNot fa)) := PE.imp (pe_notT ha) fun σ H Q ⟨G, F, env, c, S, q⟩ => by
  refine ⟨G, F, env, c, S, (Post.bnd (R1 := RB w) sh_RD q).imp (fun _ _ _ _ _ z => z) ?_⟩
  rintro x H1 ⟨F1, d, c1, s1, S1, r1, q1⟩
  unfold dNot at q1
  cases hz : d.tru with
  | none => rw [hz] at q1; exact q1.elim
  | some z =>
    rw [hz] at q1
    refine ⟨z, by rw [C.hK]; exact r1.tru S1.cupF hz, Post.val S1 q1 F1 _ H1 (Grow.refl S1.dom) (.bl _)⟩
/-- d and .., d or .. by truth -/
def cAnd (fa fb : Ev → M D) : Ev → M D := fun env c => (fa env c).bnd fun d c1 => (ofO d.tru c1).bnd fun t c2 => if t then fb env c2 else .ok d c2
def cOr (fa fb : Ev → M D) : Ev → M D := fun env c => (fa env c).bnd fun d c1 => (ofO d.tru c1).bnd fun t c2 => if t then .ok d c2 else fb env c2
theorem pp_and {rest : List Expr} {fa fb : Ev → M D} (C : Ctx X w W k) (ha : PE X a (tP w W fa)) (hb : PE X (.BoolOp .And (b :: rest) pos) (tP w W fb)) : PE X (.BoolOp .And (a :: b :: rest) pos) (tP w W (cAnd fa fb)) :=
  PE.imp (pe_andT ha hb) fun σ H Q ⟨G, F, env, c, S, q⟩ => by
    refine ⟨G, F, env, c, S, (Post.bnd (R1 := RD w) sh_RD q).imp (fun _ _ _ _ _ z => z) ?_⟩
    rintro x H1 ⟨F1, d, c1, s1, S1, r1, q1⟩
    cases hz : d.tru with
    | none => rw [hz] at q1; exact q1.elim
    | some z =>
      rw [hz] at q1
      refine ⟨z, by rw [C.hK]; exact (show DB w.K G.ca F1 H1 x d from .inl r1).tru S1.cupF hz, ?_⟩
      cases z with
      | true => exact ⟨G, F1, env, c1, S1, q1⟩
      | false => exact q1 F1 x H1 (Step.refl S1.dom) S1 r1
theorem pp_or {rest : List Expr} {fa fb : Ev → M D} (C : Ctx X w W k) (ha : PE X a (tP w W fa)) (hb : PE X (.BoolOp .Or (b :: rest) pos) (tP w W fb)) : PE X (.BoolOp .Or (a :: b :: rest) pos) (tP w W (cOr fa fb)) :=
  PE.imp (pe_orT ha hb) fun σ H Q ⟨G, F, env, c, S, q⟩ => by
    refine ⟨G, F, env, c, S, (Post.bnd (R1 := RD w) sh_RD q).imp (fun _ _ _ _ _ z => z) ?_⟩
    rintro x H1 ⟨F1, d, c1, s1, S1, r1, q1⟩
    cases hz : d.tru with
    | none => rw [hz] at q1; exact q1.elim
    | some z =>
      rw [hz] at q1
      refine ⟨z, by rw [C.hK]; exact (show DB w.K G.ca F1 H1 x d from .inl r1).tru S1.cupF hz, ?_⟩
      cases z with
      | true => exact q1 F1 x H1 (Step.refl S1.dom) S1 r1
      | false => exact ⟨G, F1, env, c1, S1, q1⟩
/-! ### tests -/
def cTr (f : Ev → M D) : Ev → M Bool := fun env c => (f env c).bnd fun d c1 => ofO d.tru c1
def cNotT (f : Ev → M Bool) : Ev → M Bool := fun env c => (f env c).bnd fun b c1 => .ok (!b) c1
def cAndT (f g : Ev → M Bool) : Ev → M Bool := fun env c => (f env c).bnd fun b c1 => if b then g env c1 else .ok false c1
def cOrT (f g : Ev → M Bool) : Ev → M Bool := fun env c => (f env c).bnd fun b c1 => if b then .ok true c1 else g env c1
theorem pt_of {f : Ev → M D} (C : Ctx X w W k) (h : PE X e (tB w W f)) (he : ∀ whole, isTrue e X.env whole = (do let v ← whole; standAt e.pos; holding [v] (truthy v)) := by intro _; rfl) : PT X e (tT w W (cTr f)) :=
  PT.imp (pt_truth h he) fun σ H Q ⟨G, F, env, c, S, q⟩ => by
    refine ⟨G, F, env, c, S, (Post.bnd (R1 := RB w) sh_RT q).imp (fun _ _ _ _ _ z => z) ?_⟩
    rintro x H1 ⟨F1, d, c1, s1, S1, r1, q1⟩
    cases hz : d.tru with
    | none => rw [hz] at q1; exact q1.elim
    | some z =>
      rw [hz] at q1
      exact ⟨z, by rw [C.hK]; exact r1.tru S1.cupF hz, q1 F1 z H1 (Step.refl S1.dom) S1 rfl⟩
theorem ptn {f : Ev → M Bool} (h : PT X e (tT w W f)) : PT X (.UnaryOp .Not e pos) (tT w W (cNotT f)) := PT.imp (pt_not h) fun σ H Q ⟨G, F, env, c, S, q⟩ => by
  refine ⟨G, F, env, c, S, (Post.bnd (R1 := RT) sh_RT q).imp (fun _ _ _ _ _ z => z) ?_⟩
  rintro x H1 ⟨F1, d, c1, s1, S1, r1, q1⟩
  cases r1
  exact q1 F1 _ H1 (Step.refl S1.dom) S1 rfl
structure PWt (X : Cx) (e : Expr) (w : Wd) (W : XK) (f : Ev → M Bool) : Prop where
  pw : PW X e (tT w W f)
theorem PWt.pt {f : Ev → M Bool} (h : PWt X e w W f) : PT X e (tT w W f) := h.pw.pt
theorem PW.imp {t t' : TT} (h : PW X e t) (hm : ∀ σ H Q, t' σ H Q → t σ H Q) : PW X e t' := ⟨fun wh pins s σ H Q I q => h.run wh pins s σ H Q I (hm σ H Q q)⟩
theorem wt_and1 {f : Ev → M Bool} (h : PT X a (tT w W f)) : PWt X (.BoolOp .And [a] pos) w W f := ⟨pw_and1 h⟩
theorem wt_or1 {f : Ev → M Bool} (h : PT X a (tT w W f)) : PWt X (.BoolOp .Or [a] pos) w W f := ⟨pw_or1 h⟩
theorem wt_and {rest : List Expr} {f g : Ev → M Bool} (h : PT X a (tT w W f)) (h2 : PWt X (.BoolOp .And (b :: rest) pos) w W g) : PWt X (.BoolOp .And (a :: b :: rest) pos) w W (cAndT f g) :=
  ⟨PW.imp (pw_and h h2.pw) fun σ H Q ⟨G, F, env, c, S, q⟩ => by
    refine ⟨G, F, env, c, S, (Post.bnd (R1 := RT) sh_RT q).imp (fun _ _ _ _ _ z => z) ?_⟩
    rintro x H1 ⟨F1, d, c1, s1, S1, r1, q1⟩
    cases r1
    cases x with
    | true => exact ⟨G, F1, env, c1, S1, q1⟩
    | false => exact q1 F1 _ H1 (Step.refl S1.dom) S1 rfl⟩
theorem wt_or {rest : List Expr} {f g : Ev → M Bool} (h : PT X a (tT w W f)) (h2 : PWt X (.BoolOp .Or (b :: rest) pos) w W g) : PWt X (.BoolOp .Or (a :: b :: rest) pos) w W (cOrT f g) :=
  ⟨PW.imp (pw_or h h2.pw) fun σ H Q ⟨G, F, env, c, S, q⟩ => by
    refine ⟨G, F, env, c, S, (Post.bnd (R1 := RT) sh_RT q).imp (fun _ _ _ _ _ z => z) ?_⟩
    rintro x H1 ⟨F1, d, c1, s1, S1, r1, q1⟩
    cases r1
    cases x with
    | false => exact ⟨G, F1, env, c1, S1, q1⟩
    | true => exact q1 F1 _ H1 (Step.refl S1.dom) S1 rfl⟩
def cIf {α : Type} (t : Ev → M Bool) (f g : Ev → M α) : Ev → M α := fun env c => (t env c).bnd fun b c1 => if b then f env c1 else g env c1
theorem pp_ifExp {t : Ev → M Bool} {f g : Ev → M D} {c : Expr} (hc : PT X c (tT w W t)) (ha : PE X a (tP w W f)) (hb : PE X b (tP w W g)) : PE X (.IfExp c a b pos) (tP w W (cIf t f g)) :=
  PE.imp (pe_ifExp hc ha hb) fun σ H Q ⟨G, F, env, c, S, q⟩ => by
    refine ⟨G, F, env, c, S, (Post.bnd (R1 := RT) sh_RD q).imp (fun _ _ _ _ _ z => z) ?_⟩
    rintro x H1 ⟨F1, d, c1, s1, S1, r1, q1⟩
    cases r1
    cases x with
    | true => exact ⟨G, F1, env, c1, S1, q1⟩
    | false => exact ⟨G, F1, env, c1, S1, q1⟩
theorem pb_ifExp {t : Ev → M Bool} {f g : Ev → M D} {c : Expr} (hc : PT X c (tT w W t)) (ha : PE X a (tB w W f)) (hb : PE X b (tB w W g)) : PE X (.IfExp c a b pos) (tB w W (cIf t f g)) :=
  PE.imp (pe_ifExp hc ha hb) fun σ H Q ⟨G, F, env, c, S, q⟩ => by
    refine ⟨G, F, env, c, S, (Post.bnd (R1 := RT) sh_RB q).imp (fun _ _ _ _ _ z => z) ?_⟩
    rintro x H1 ⟨F1, d, c1, s1, S1, r1, q1⟩
    cases r1
    cases x with
    | true => exact ⟨G, F1, env, c1, S1, q1⟩
    | false => exact ⟨G, F1, env, c1, S1, q1⟩
/-! ### argument lists -/
def cNil : Ev → M (List D) := fun _ c => .ok [] c
def cCons (f : Ev → M D) (g : Ev → M (List D)) : Ev → M (List D) := fun env c => (f env c).bnd fun d c1 => (g env c1).bnd fun ds c2 => .ok (d :: ds) c2
theorem pa_n : PA X [] (tA w W cNil) := PA.imp pa_nil fun σ H Q ⟨G, F, env, c, S, q⟩ => q F [] H (Step.refl S.dom) S .nil
theorem pab_n : PA X [] (tAB w W cNil) := PA.imp pa_nil fun σ H Q ⟨G, F, env, c, S, q⟩ => q F [] H (Step.refl S.dom) S .nil
theorem pa_c {es : List Expr} {f : Ev → M D} {g : Ev → M (List D)} (ha : PE X e (tP w W f)) (hr : PA X es (tA w W g)) (hs : starEach (e :: es) X.env = (false, eval e X.env) :: starEach es X.env := by rfl) : PA X (e :: es) (tA w W (cCons f g)) :=
  PA.imp (pa_cons ha hr hs) fun σ H Q ⟨G, F, env, c, S, q⟩ => by
    refine ⟨G, F, env, c, S, (Post.bnd (R1 := RD w) sh_RDs q).imp (fun _ _ _ _ _ z => z) ?_⟩
    rintro x H1 ⟨F1, d, c1, s1, S1, r1, q1⟩
    refine ⟨G, F1, env, c1, S1, (Post.bnd (R1 := RDs w) sh_RDs q1).imp (fun _ _ _ _ _ z => z) ?_⟩
    rintro xs H2 ⟨F2, ds, c2, s2, S2, r2, q2⟩
    exact q2 F2 _ H2 (Step.refl S2.dom) S2 (.cons (DF.step r1 s2 S1.cupF) r2)
theorem pab_c {es : List Expr} {f : Ev → M D} {g : Ev → M (List D)} (ha : PE X e (tB w W f)) (hr : PA X es (tAB w W g)) (hs : starEach (e :: es) X.env = (false, eval e X.env) :: starEach es X.env := by rfl) : PA X (e :: es) (tAB w W (cCons f g)) :=
  PA.imp (pa_cons ha hr hs) fun σ H Q ⟨G, F, env, c, S, q⟩ => by
    refine ⟨G, F, env, c, S, (Post.bnd (R1 := RB w) sh_RBs q).imp (fun _ _ _ _ _ z => z) ?_⟩
    rintro x H1 ⟨F1, d, c1, s1, S1, r1, q1⟩
    refine ⟨G, F1, env, c1, S1, (Post.bnd (R1 := RBs w) sh_RBs q1).imp (fun _ _ _ _ _ z => z) ?_⟩
    rintro xs H2 ⟨F2, ds, c2, s2, S2, r2, q2⟩
    exact q2 F2 _ H2 (Step.refl S2.dom) S2 (.cons (DB.step r1 s2 S1.cupF) r2)
/-! ### displays -/
def lenOk (ds : List D) : Bool := decide (ds.length ≤ rMaxLen)
def cTup (f : Ev → M (List D)) : Ev → M D := fun env c => (f env c).bnd fun ds c1 => if lenOk ds then .ok (.tup ds) c1 else .bad
def cLst (f : Ev → M (List D)) : Ev → M (List D) := fun env c => (f env c).bnd fun ds c1 => if lenOk ds then .ok ds c1 else .bad
theorem len_ok {ds : List D} (h : lenOk ds = true) : ds.length ≤ sizeLine := line_le (of_decide_eq_true h)
theorem pp_tup {x1} {es : List Expr} {f : Ev → M (List D)} (h : PA X es (tA w W f)) : PE X (.Tuple es x1 pos) (tP w W (cTup f)) := PE.imp (pe_tup h) fun σ H Q ⟨G, F, env, c, S, q⟩ => by
  refine ⟨G, F, env, c, S, (Post.bnd (R1 := RDs w) sh_RD q).imp (fun _ _ _ _ _ z => z) ?_⟩
  rintro xs H1 ⟨F1, ds, c1, s1, S1, r1, q1⟩
  by_cases hl : lenOk ds = true
  · rw [if_pos hl] at q1
    exact ⟨by rw [DFs.length r1]; exact len_ok hl, fun p hp => new_tup S1.dom (Post.val S1 q1) r1 hp⟩
  · rw [if_neg hl] at q1; exact q1.elim
theorem pf_lst {es : List Expr} {f : Ev → M (List D)} (h : PA X es (tA w W f)) : PE X (.List es pos) (tF w W (cLst f)) := PE.imp (pe_lst h) fun σ H Q ⟨G, F, env, c, S, q⟩ => by
  refine ⟨G, F, env, c, S, (Post.bnd (R1 := RDs w) sh_RF q).imp (fun _ _ _ _ _ z => z) ?_⟩
  rintro xs H1 ⟨F1, ds, c1, s1, S1, r1, q1⟩
  by_cases hl : lenOk ds = true
  · rw [if_pos hl] at q1
    refine ⟨by rw [DFs.length r1]; exact len_ok hl, fun p hp => ?_⟩
    have g : Grow F1 H1 F1 (upd H1 p (.lst xs)) := ⟨fun _ h => h, fun b o h => by rw [upd_ne (ne_of_none h hp)]; exact h, fun _ h => .inl h, fun b h => by
      obtain ⟨o, e⟩ := S1.dom b h
      exact ⟨o, by rw [upd_ne (ne_of_none e hp)]; exact e⟩⟩
    refine q1 F1 _ _ g.step (S1.grow g) ⟨p, xs, rfl, hp, fun z => ?_, upd_same, r1.mono ⟨fun _ h => h, fun b o _ h _ => g.same b o h⟩⟩
    obtain ⟨o, e⟩ := S1.dom p z
    rw [hp] at e; cases e
  · rw [if_neg hl] at q1; exact q1.elim
/-! ### subscripts -/
def dIx : D → D → Option D
  | .tup xs, .int i => atI xs i
  | .lst xs, .int i => atI xs i
  | _, _ => none
theorem DFs.atI {K : PySem.W.Frag} {ca : Option Addr} {F : Addr → Prop} {H : Hp} {ds : List D} {vs : List V} (h : DFs K ca F H vs ds) {i : Int} {d : D} (e : L2.atI ds i = some d) : ∃ v, L2.atI vs i = some v ∧ DF K ca F H v d := by
  unfold L2.atI at e ⊢
  rw [h.length]
  cases q : ixN ds.length i with
  | none => rw [q] at e; cases e
  | some j =>
    rw [q] at e
    exact h.get e
theorem opd_ix : OpD w (rIx w.K) dIx := by
  intro ca F H x y d e z Q hc hd hx hy hz q
  unfold dIx at hz
  split at hz
  · obtain ⟨a, us, rfl, ha, ra⟩ := hx.tup.tupS
    obtain ⟨v, h1, h2⟩ := ra.atI hz
    rw [hy.int]
    exact .inr (.inl ⟨a, us, _, v, rfl, rfl, ha, h1, q F v H (Grow.refl hd) h2⟩)
  · obtain ⟨a, us, rfl, ha, ra, _⟩ := hx.lst hc
    obtain ⟨v, h1, h2⟩ := ra.atI hz
    rw [hy.int]
    exact .inl ⟨a, us, _, v, rfl, rfl, SqL.of ha, h1, q F v H (Grow.refl hd) h2⟩
  · cases hz
theorem pp_ix {fa fb : Ev → M D} (C : Ctx X w W k) (ha : PE X a (tB w W fa)) (hb : PE X b (tB w W fb)) (hs : PlainIx b := by exact fun _ _ => rfl) : PE X (.Subscript a b pos) (tP w W (cBin dIx fa fb)) :=
  PE.imp (pe_ix ix_seq ha hb hs) (two_op (a := a) (b := b) (by rw [C.hK]; exact opd_ix))
/-- the cup's items -/
def cCupIx (fa : Ev → M D) (n : Nat) : Ev → M D := fun env c => (fa env c).bnd fun d c1 => match d with
  | .cup => ofO ((c1[n]?).map D.int) c1
  | _ => .bad
theorem pp_cupIx {fa : Ev → M D} {n : Nat} (C : Ctx X w W k) (ha : PE X a (tB w W fa)) (hb : PE X b (tC (.int (n : Int)))) (hs : PlainIx b := by exact fun _ _ => rfl) : PE X (.Subscript a b pos) (tP w W (cCupIx fa n)) :=
  PE.imp (pe_ix ix_list ha hb hs) fun σ H Q ⟨G, F, env, c, S, q⟩ => by
    refine ⟨G, F, env, c, S, (Post.bnd (R1 := RB w) sh_RD q).imp (fun _ _ _ _ _ z => z) ?_⟩
    rintro x H1 ⟨F1, d, c1, s1, S1, r1, q1⟩
    cases d with
    | cup =>
      obtain ⟨p, hp, rfl⟩ := DB.cup r1
      cases hz : c1[n]? with
      | none => simp only [hz] at q1; exact q1.elim
      | some z =>
        simp only [hz] at q1
        exact ⟨p, c1.map V.int, n, .int z, rfl, rfl, SqL.of (S1.cup p hp), atI_nat (by simp [hz]), Post.val S1 q1 F1 _ H1 (Grow.refl S1.dom) (.int z)⟩
    | _ => exact q1.elim
/-! ### slices -/
def cutD (xs : List D) (lo hi : Option Int) : List D := (xs.drop (HT.sIx xs.length 0 lo)).take (HT.sIx xs.length xs.length hi - HT.sIx xs.length 0 lo)
def dSl : D → Option Int → Option Int → Option D
  | .tup xs, lo, hi => some (.tup (cutD xs lo hi))
  | .lst xs, lo, hi => some (.lst (cutD xs lo hi))
  | _, _, _ => none
theorem DFs.cut {K : PySem.W.Frag} {ca : Option Addr} {F : Addr → Prop} {H : Hp} {ds : List D} {vs : List V} (h : DFs K ca F H vs ds) (lo hi : Option Int) : DFs K ca F H (cutV vs lo hi) (cutD ds lo hi) := by
  unfold cutV cutD
  rw [h.length]
  exact (h.drop _).take _
def cNoPart : Ev → M (Option Int) := fun _ c => .ok none c
def cPart (f : Ev → M D) : Ev → M (Option Int) := fun env c => (f env c).bnd fun d c1 => match d with
  | .int i => .ok (some i) c1
  | _ => .bad
def RO : Rl (Option Int) (Option Int) := fun _ _ _ _ _ v d => v = d
theorem sh_RO : Sh RO := fun _ _ _ _ _ _ _ _ _ _ _ h => h
theorem PO.imp {e : Option Expr} {t t' : TO} (h : PO X e t) (hm : ∀ σ H Q, t' σ H Q → t σ H Q) : PO X e t' := by
  refine ⟨?_⟩
  intros
  exact h.run _ _ _ _ _ (by assumption) (hm _ _ _ (by assumption))
theorem po_n : PO X none (tX w W RO cNoPart) := PO.imp po_none fun σ H Q ⟨G, F, env, c, S, q⟩ => q F none H (Step.refl S.dom) S rfl
theorem po_s {f : Ev → M D} (h : PE X e (tB w W f)) : PO X (some e) (tX w W RO (cPart f)) := PO.imp (po_some h) fun σ H Q ⟨G, F, env, c, S, q⟩ => by
  refine ⟨G, F, env, c, S, (Post.bnd (R1 := RB w) sh_RO q).imp (fun _ _ _ _ _ z => z) ?_⟩
  rintro x H1 ⟨F1, d, c1, s1, S1, r1, q1⟩
  cases d with
  | int i => exact ⟨i, DB.int r1, q1 F1 _ H1 (Step.refl S1.dom) S1 rfl⟩
  | _ => exact q1.elim
def cSl (f : Ev → M D) (l h : Ev → M (Option Int)) : Ev → M D := fun env c => (f env c).bnd fun d c1 => (l env c1).bnd fun lo c2 => (h env c2).bnd fun hi c3 => ofO (dSl d lo hi) c3
theorem pp_slice {f : Ev → M D} {l h : Ev → M (Option Int)} {lo hi : Option Expr} {p2 : Pos} (C : Ctx X w W k) (he : PE X e (tB w W f)) (hl : PO X lo (tX w W RO l)) (hh : PO X hi (tX w W RO h)) :
    PE X (.Subscript e (.Slice lo hi none p2) pos) (tP w W (cSl f l h)) := PE.imp (pe_slice (sl_tupA.or sl_list) he hl hh) fun σ H Q ⟨G, F, env, c, S, q⟩ => by
  refine ⟨G, F, env, c, S, (Post.bnd (R1 := RB w) sh_RD q).imp (fun _ _ _ _ _ z => z) ?_⟩
  rintro x H1 ⟨F1, d, c1, s1, S1, r1, q1⟩
  refine ⟨G, F1, env, c1, S1, (Post.bnd (R1 := RO) sh_RD q1).imp (fun _ _ _ _ _ z => z) ?_⟩
  rintro y H2 ⟨F2, lo, c2, s2, S2, r2, q2⟩
  refine ⟨G, F2, env, c2, S2, (Post.bnd (R1 := RO) sh_RD q2).imp (fun _ _ _ _ _ z => z) ?_⟩
  rintro y2 H3 ⟨F3, hi, c3, s3, S3, r3, q3⟩
  cases r2
  cases r3
  have r := DB.step (DB.step r1 s2 S1.cupF) s3 S2.cupF
  cases hz : dSl d y y2 with
  | none => rw [hz] at q3; exact q3.elim
  | some z =>
    rw [hz] at q3
    have fin := Post.val S3 q3
    unfold dSl at hz
    split at hz
    · cases hz
      obtain ⟨p, us, rfl, ha, ra⟩ := r.tup.tupS
      refine .inl ⟨p, us, rfl, by rw [C.hK]; exact ha, fun hw => ?_, fun _ p hp => new_tup S3.dom fin (ra.cut _ _) hp⟩
      refine fin F3 _ H3 (Grow.refl S3.dom) ?_
      have e : ∀ ds : List D, us.length = ds.length → cutD ds y y2 = ds := fun ds e => by
        unfold cutD
        rw [← e, hw.1, hw.2]
        simp [e]
      rw [e _ ra.length]
      exact r.tup
    · cases hz
      obtain ⟨p, us, rfl, ha, ra, _⟩ := r.lst S3.cupF
      exact .inr ⟨p, us, rfl, SqL.of ha, fun p hp => new_lst S3.dom fin (ra.cut _ _) hp⟩
    · cases hz
/-! ### built-in calls -/
def CallD (w : Wd) (r : List V → Hp → VK → Prop) (fn : List D → Option D) : Prop := ∀ (ca : Option Addr) (F : Addr → Prop) (H : Hp) (vs : List V) (ds : List D) (z : D) (Q : VK), (∀ a, ca = some a → ¬ F a) → (∀ b, F b → ∃ o, H b = some o) →
  DBs w.K ca F H vs ds → fn ds = some z → (∀ F' v H', Grow F H F' H' → DF w.K ca F' H' v z → Q v H') → r vs H Q
def cCall (fn : List D → Option D) (f : Ev → M (List D)) : Ev → M D := fun env c => (f env c).bnd fun ds c1 => ofO (fn ds) c1
theorem call_op {r : List V → Hp → VK → Prop} {fn : List D → Option D} {f : Ev → M (List D)} (hr : CallD w r fn) : ∀ (σ : L2.St) (H : Hp) (Q : VK), tP w W (cCall fn f) σ H Q → tCB r (tAB w W f) σ H Q := by
  rintro σ H Q ⟨G, F, env, c, S, q⟩
  refine ⟨G, F, env, c, S, (Post.bnd (R1 := RBs w) sh_RD q).imp (fun _ _ _ _ _ z => z) ?_⟩
  rintro x H1 ⟨F1, d, c1, s1, S1, r1, q1⟩
  cases hz : fn d with
  | none => rw [hz] at q1; exact q1.elim
  | some z =>
    rw [hz] at q1
    exact hr G.ca F1 H1 x d z Q S1.cupF S1.dom r1 hz (Post.val S1 q1)
theorem pp_callB {r : List V → Hp → VK → Prop} {fn : List D → Option D} {f : Ev → M (List D)} {x : Str} {id : String} {p : Pos} {es : List Expr} (C : Ctx X w W k) (hc : CallR X (.builtin id) r) (hr : CallD w r fn) (hg : Gl X x) (hm : w.mg x = none) (hv : bootBuiltins x = some (.builtin id)) (ha : PA X (e :: es) (tAB w W f))
    (hn : x ≠ "__name__" := by decide) (hdb : (x == ("__debug__" : Str)) = false := by decide) (he : starEach (e :: es) X.env = (false, eval e X.env) :: starEach es X.env := by rfl) (hpl : (backTo pos (starEach es X.env)).any (·.1) = false := by rfl) :
    PE X (.Call (.Name x p) (e :: es) [] pos) (tP w W (cCall fn f)) := PE.imp (pe_callB hc hg (by rw [C.hmg]; exact hm) hv ha hn hdb he hpl) (call_op hr)
theorem pp_callTy {r : List V → Hp → VK → Prop} {fn : List D → Option D} {f : Ev → M (List D)} {x : Str} {T : String} {p : Pos} {es : List Expr} (C : Ctx X w W k) (hc : CallR X (.type T) r) (hr : CallD w r fn) (hg : Gl X x) (hm : w.mg x = none) (hv : bootBuiltins x = some (.type T)) (ha : PA X (e :: es) (tAB w W f))
    (hn : x ≠ "__name__" := by decide) (hdb : (x == ("__debug__" : Str)) = false := by decide) (he : starEach (e :: es) X.env = (false, eval e X.env) :: starEach es X.env := by rfl) (hpl : (backTo pos (starEach es X.env)).any (·.1) = false := by rfl) :
    PE X (.Call (.Name x p) (e :: es) [] pos) (tP w W (cCall fn f)) := PE.imp (pe_callTy hc hg (by rw [C.hmg]; exact hm) hv ha hn hdb he hpl) (call_op hr)
theorem dbs1 {K : PySem.W.Frag} {ca : Option Addr} {F : Addr → Prop} {H : Hp} {vs : List V} {d : D} (h : DBs K ca F H vs [d]) : ∃ v, vs = [v] ∧ DB K ca F H v d := by
  cases h with
  | cons a b => cases b; exact ⟨_, rfl, a⟩
theorem dbs2 {K : PySem.W.Frag} {ca : Option Addr} {F : Addr → Prop} {H : Hp} {vs : List V} {d e : D} (h : DBs K ca F H vs [d, e]) : ∃ v u, vs = [v, u] ∧ DB K ca F H v d ∧ DB K ca F H u e := by
  cases h with
  | cons a b =>
    cases b with
    | cons a' b => cases b; exact ⟨_, _, rfl, a, a'⟩
def dLen : List D → Option D
  | [.tup xs] => some (.int xs.length)
  | [.lst xs] => some (.int xs.length)
  | _ => none
theorem cd_len : CallD w (fun xs H Q => ∃ p ys, xs = [.ref p] ∧ (SqL w.K H p ys ∨ SqT w.K H p ys) ∧ Q (.int ys.length) H) dLen := by
  intro ca F H vs ds z Q hc hd hx hz q
  unfold dLen at hz
  split at hz
  · cases hz
    obtain ⟨v, rfl, h⟩ := dbs1 hx
    obtain ⟨a, us, rfl, ha, ra⟩ := h.tup.tupS
    exact ⟨a, us, rfl, .inr ha, by rw [ra.length]; exact q F _ H (Grow.refl hd) (.int _)⟩
  · cases hz
    obtain ⟨v, rfl, h⟩ := dbs1 hx
    obtain ⟨a, us, rfl, ha, ra, _⟩ := h.lst hc
    exact ⟨a, us, rfl, .inl (SqL.of ha), by rw [ra.length]; exact q F _ H (Grow.refl hd) (.int _)⟩
  · cases hz
def dAbs : List D → Option D
  | [.int i] => some (.int (if i < 0 then -i else i))
  | _ => none
theorem cd_abs : CallD w (fun xs H Q => ∃ i, xs = [.int i] ∧ Q (.int (if i < 0 then -i else i)) H) dAbs := by
  intro ca F H vs ds z Q hc hd hx hz q
  unfold dAbs at hz
  split at hz
  · cases hz
    obtain ⟨v, rfl, h⟩ := dbs1 hx
    exact ⟨_, by rw [h.int], q F _ H (Grow.refl hd) (.int _)⟩
  · cases hz
def dMax2 : List D → Option D
  | [.int i, .int j] => some (.int (if j > i then j else i))
  | _ => none
def dMin2 : List D → Option D
  | [.int i, .int j] => some (.int (if j < i then j else i))
  | _ => none
theorem cd_max2 : CallD w (fun xs H Q => ∃ i j, xs = [.int i, .int j] ∧ Q (.int (if j > i then j else i)) H) dMax2 := by
  intro ca F H vs ds z Q hc hd hx hz q
  unfold dMax2 at hz
  split at hz
  · cases hz
    obtain ⟨v, u, rfl, h, h'⟩ := dbs2 hx
    exact ⟨_, _, by rw [h.int, h'.int], q F _ H (Grow.refl hd) (.int _)⟩
  · cases hz
theorem cd_min2 : CallD w (fun xs H Q => ∃ i j, xs = [.int i, .int j] ∧ Q (.int (if j < i then j else i)) H) dMin2 := by
  intro ca F H vs ds z Q hc hd hx hz q
  unfold dMin2 at hz
  split at hz
  · cases hz
    obtain ⟨v, u, rfl, h, h'⟩ := dbs2 hx
    exact ⟨_, _, by rw [h.int, h'.int], q F _ H (Grow.refl hd) (.int _)⟩
  · cases hz
def dInt : List D → Option D
  | [.int i] => some (.int i)
  | [.bl b] => some (.int (if b then 1 else 0))
  | _ => none
theorem cd_int : CallD w (fun xs H Q => (∃ i, xs = [.int i] ∧ Q (.int i) H) ∨ ∃ k, xs = [.bl k] ∧ Q (.int (if k then 1 else 0)) H) dInt := by
  intro ca F H vs ds z Q hc hd hx hz q
  unfold dInt at hz
  split at hz
  · cases hz
    obtain ⟨v, rfl, h⟩ := dbs1 hx
    exact .inl ⟨_, by rw [h.int], q F _ H (Grow.refl hd) (.int _)⟩
  · cases hz
    obtain ⟨v, rfl, h⟩ := dbs1 hx
    exact .inr ⟨_, by rw [h.bl], q F _ H (Grow.refl hd) (.int _)⟩
  · cases hz
/-- lists of ints, of truths -/
def intsOf : List D → Option (List Int)
  | [] => some []
  | .int i :: ds => (intsOf ds).map (i :: ·)
  | _ :: _ => none
def blsOf : List D → Option (List Bool)
  | [] => some []
  | .bl i :: ds => (blsOf ds).map (i :: ·)
  | _ :: _ => none
theorem intsOf_map : ∀ {ds : List D} {ns : List Int}, intsOf ds = some ns → ds = ns.map D.int
  | [], _, h => by cases h; rfl
  | d :: ds, ns, h => by
    cases d <;> simp only [intsOf] at h <;> try cases h
    cases q : intsOf ds with
    | none => rw [q] at h; cases h
    | some r => rw [q] at h; cases h; rw [intsOf_map q]; rfl
theorem blsOf_map : ∀ {ds : List D} {ns : List Bool}, blsOf ds = some ns → ds = ns.map D.bl
  | [], _, h => by cases h; rfl
  | d :: ds, ns, h => by
    cases d <;> simp only [blsOf] at h <;> try cases h
    cases q : blsOf ds with
    | none => rw [q] at h; cases h
    | some r => rw [q] at h; cases h; rw [blsOf_map q]; rfl
@[simp] theorem intsOf_int (ns : List Int) : intsOf (ns.map D.int) = some ns := by
  induction ns with
  | nil => rfl
  | cons n r ih => simp [intsOf, ih]
@[simp] theorem blsOf_bl (ns : List Bool) : blsOf (ns.map D.bl) = some ns := by
  induction ns with
  | nil => rfl
  | cons n r ih => simp [blsOf, ih]
theorem DFs.ofInts {K : PySem.W.Frag} {ca : Option Addr} {F : Addr → Prop} {H : Hp} : ∀ {ns : List Int} {us : List V}, DFs K ca F H us (ns.map D.int) → us = ns.map V.int
  | [], _, h => by cases h; rfl
  | n :: r, _, h => by
    cases h with
    | cons a b => cases a; rw [DFs.ofInts b]; rfl
theorem DFs.ofBls {K : PySem.W.Frag} {ca : Option Addr} {F : Addr → Prop} {H : Hp} : ∀ {ns : List Bool} {us : List V}, DFs K ca F H us (ns.map D.bl) → us = ns.map V.bl
  | [], _, h => by cases h; rfl
  | n :: r, _, h => by
    cases h with
    | cons a b => cases a; rw [DFs.ofBls b]; rfl
def dSum : List D → Option D
  | [.lst xs] => (intsOf xs).map fun ns => .int ns.sum
  | _ => none
theorem cd_sum : CallD w (rSum w.K) dSum := by
  intro ca F H vs ds z Q hc hd hx hz q
  unfold dSum at hz
  split at hz
  · rename_i xs
    cases hn : intsOf xs with
    | none => rw [hn] at hz; cases hz
    | some ns =>
      rw [hn] at hz
      cases hz
      obtain ⟨v, rfl, h⟩ := dbs1 hx
      obtain ⟨a, us, rfl, ha, ra, _⟩ := h.lst hc
      rw [intsOf_map hn] at ra
      exact ⟨a, ns, rfl, by rw [← DFs.ofInts ra]; exact SqL.of ha, q F _ H (Grow.refl hd) (.int _)⟩
  · cases hz
def dAll : List D → Option D
  | [.lst xs] => (blsOf xs).map fun ns => .bl (ns.all id)
  | _ => none
def dAny : List D → Option D
  | [.lst xs] => (blsOf xs).map fun ns => .bl (ns.any id)
  | _ => none
theorem cd_all : CallD w (rAll w.K) dAll := by
  intro ca F H vs ds z Q hc hd hx hz q
  unfold dAll at hz
  split at hz
  · rename_i xs
    cases hn : blsOf xs with
    | none => rw [hn] at hz; cases hz
    | some ns =>
      rw [hn] at hz
      cases hz
      obtain ⟨v, rfl, h⟩ := dbs1 hx
      obtain ⟨a, us, rfl, ha, ra, _⟩ := h.lst hc
      rw [blsOf_map hn] at ra
      exact ⟨a, ns, rfl, by rw [← DFs.ofBls ra]; exact SqL.of ha, q F _ H (Grow.refl hd) (.bl _)⟩
  · cases hz
theorem cd_any : CallD w (rAny w.K) dAny := by
  intro ca F H vs ds z Q hc hd hx hz q
  unfold dAny at hz
  split at hz
  · rename_i xs
    cases hn : blsOf xs with
    | none => rw [hn] at hz; cases hz
    | some ns =>
      rw [hn] at hz
      cases hz
      obtain ⟨v, rfl, h⟩ := dbs1 hx
      obtain ⟨a, us, rfl, ha, ra, _⟩ := h.lst hc
      rw [blsOf_map hn] at ra
      exact ⟨a, ns, rfl, by rw [← DFs.ofBls ra]; exact SqL.of ha, q F _ H (Grow.refl hd) (.bl _)⟩
  · cases hz
def dTuple : List D → Option D
  | [.tup xs] => some (.tup xs)
  | [.lst xs] => some (.tup xs)
  | _ => none
theorem cd_tuple : CallD w (fun xs H Q => ∃ p ys, xs = [.ref p] ∧ ((SqL w.K H p ys ∧ ∀ l, H l = none → Q (.ref l) (upd H l (.tup ys))) ∨ (SqT w.K H p ys ∧ Q (.ref p) H))) dTuple := by
  intro ca F H vs ds z Q hc hd hx hz q
  unfold dTuple at hz
  split at hz
  · cases hz
    obtain ⟨v, rfl, h⟩ := dbs1 hx
    obtain ⟨a, us, rfl, ha, ra⟩ := h.tup.tupS
    exact ⟨a, us, rfl, .inr ⟨ha, q F _ H (Grow.refl hd) h.tup⟩⟩
  · cases hz
    obtain ⟨v, rfl, h⟩ := dbs1 hx
    obtain ⟨a, us, rfl, ha, ra, _⟩ := h.lst hc
    exact ⟨a, us, rfl, .inl ⟨SqL.of ha, fun p hp => new_tup hd q ra hp⟩⟩
  · cases hz
def dList : List D → Option D
  | [.tup xs] => some (.lst xs)
  | [.lst xs] => some (.lst xs)
  | [.scr ns] => some (.lst (ns.map D.int))
  | _ => none
theorem DB.scr {K : PySem.W.Frag} {ca : Option Addr} {F : Addr → Prop} {H : Hp} {x : V} {ns : List Int} (h : DB K ca F H x (.scr ns)) : ∃ a, x = .ref a ∧ SqL K H a (ns.map V.int) := by
  rcases h with h | ⟨_, _, _, _, e, _⟩
  · cases h with
    | scr f e => exact ⟨_, rfl, .inl (.inr ⟨_, e⟩)⟩
    | scrK a b c d e f => exact ⟨_, rfl, .inr ⟨_, _, _, a, b, c, d, e, f⟩⟩
    | scrL f e => exact ⟨_, rfl, SqL.of e⟩
  · cases e
theorem cd_list : CallD w (fun xs H Q => ∃ p ys, xs = [.ref p] ∧ (SqL w.K H p ys ∨ SqT w.K H p ys) ∧ ∀ l, H l = none → Q (.ref l) (upd H l (.lst ys))) dList := by
  intro ca F H vs ds z Q hc hd hx hz q
  unfold dList at hz
  split at hz
  · cases hz
    obtain ⟨v, rfl, h⟩ := dbs1 hx
    obtain ⟨a, us, rfl, ha, ra⟩ := h.tup.tupS
    exact ⟨a, us, rfl, .inr ha, fun p hp => new_lst hd q ra hp⟩
  · cases hz
    obtain ⟨v, rfl, h⟩ := dbs1 hx
    obtain ⟨a, us, rfl, ha, ra, _⟩ := h.lst hc
    exact ⟨a, us, rfl, .inl (SqL.of ha), fun p hp => new_lst hd q ra hp⟩
  · cases hz
    obtain ⟨v, rfl, h⟩ := dbs1 hx
    obtain ⟨a, rfl, ha⟩ := h.scr
    exact ⟨a, _, rfl, .inl ha, fun p hp => new_lst hd q (DFs.ints _) hp⟩
  · cases hz
/-! ### isinstance -/
inductive Ty where
  | int | bool | str | tuple | list
def Ty.nm : Ty → String
  | .int => "int" | .bool => "bool" | .str => "str" | .tuple => "tuple" | .list => "list"
def D.is : D → Ty → Option Bool
  | .cup, _ => none
  | .scr _, _ => none
  | .obj _, _ => none
  | .int _, .int => some true
  | .bl _, .int => some true
  | .bl _, .bool => some true
  | .str _, .str => some true
  | .tup _, .tuple => some true
  | .lst _, .list => some true
  | _, _ => some false
def D.tn : D → String
  | .non => "NoneType" | .bl _ => "bool" | .int _ => "int" | .str _ => "str" | .tup _ => "tuple" | .lst _ => "list" | .cup => "list" | .scr _ => "list" | .obj _ => "object"
theorem DB.ty {K : PySem.W.Frag} {ca : Option Addr} {F : Addr → Prop} {H : Hp} {x : V} {d : D} (h : DB K ca F H x d) (n : d ≠ .cup) (n2 : ∀ ns, d ≠ .scr ns) (n3 : ∀ a, d ≠ .obj a) : TyX K H x (.type d.tn) := by
  rcases h with h | ⟨a, xs, ds, e1, e2, _, e3, _⟩
  · cases h with
    | non => exact .base .non
    | bl b => exact .base (.bl b)
    | int b => exact .base (.int b)
    | str b => exact .base (.str b)
    | lst f e r => exact .base (.lst e)
    | tup f e r => exact .base (.tup e)
    | tupK e r =>
      obtain ⟨o, its, n, h1, h2, _⟩ := e
      exact .kTuple h1 h2
    | cup e => exact absurd rfl n
    | scr f e => exact absurd rfl (n2 _)
    | scrK a b c d e f => exact absurd rfl (n2 _)
    | scrL f e => exact absurd rfl (n2 _)
    | obj a => exact absurd rfl (n3 _)
  · subst e1 e2; exact .base (.lst e3)
theorem kit_is (d : D) (t : Ty) {b : Bool} (h : d.is t = some b) : kitB d.tn t.nm = some b := by
  cases d <;> cases t <;> simp only [D.is, Option.some.injEq, reduceCtorEq] at h <;> subst h <;> simp only [D.tn, Ty.nm] <;> decide +kernel
def cIsi (t : Ty) (f : Ev → M D) : Ev → M D := fun env c => (f env c).bnd fun d c1 => ofO ((d.is t).map D.bl) c1
theorem pp_isi {t : Ty} {f : Ev → M D} {p : Pos} (C : Ctx X w W k) (hg : Gl X "isinstance") (hm : w.mg "isinstance" = none) (ha : PE X e (tB w W f)) (hb : PE X b (tC (.ty t.nm)))
    (he : starEach (e :: [b]) X.env = (false, eval e X.env) :: starEach [b] X.env := by rfl) (he2 : starEach (b :: []) X.env = (false, eval b X.env) :: starEach [] X.env := by rfl) (hpl : (backTo pos (starEach [b] X.env)).any (·.1) = false := by rfl) :
    PE X (.Call (.Name "isinstance" p) [e, b] [] pos) (tP w W (cIsi t f)) :=
  PE.imp (pe_callB call_isi hg (by rw [C.hmg]; exact hm) (by decide +kernel) (pa_cons ha (pa_cons hb pa_nil he2) he) (by decide) (by decide) he hpl) fun σ H Q ⟨G, F, env, c, S, q⟩ => by
    refine ⟨G, F, env, c, S, (Post.bnd (R1 := RB w) sh_RD q).imp (fun _ _ _ _ _ z => z) ?_⟩
    rintro x H1 ⟨F1, d, c1, s1, S1, r1, q1⟩
    cases hz : d.is t with
    | none => rw [hz] at q1; exact q1.elim
    | some z =>
      rw [hz] at q1
      refine ⟨x, .ty t.nm, .type d.tn, .type t.nm, z, rfl, .ty _, by rw [C.hK]; exact DB.ty r1 (fun e => by subst e; cases hz) (fun ns e => by subst e; cases hz) (fun a e => by subst e; cases hz), kit_ty (kit_is d t hz), Post.val S1 q1 F1 _ H1 (Grow.refl S1.dom) (.bl _)⟩
end
end Hm

set_option Elab.async false
set_option linter.all false
set_option maxRecDepth 100000
/-! # P4: iterators, targets, statements, loops -/
namespace Hm
open PySem PySem.Spec PyProof.Rows L2

/-! ### what is walked -/
def ItOk (w : Wd) (ca : Option Addr) (F : Addr → Prop) (H : Hp) (J : It) (ds : List D) : Prop :=
  ∃ (Gd : Hp → Prop) (Y : Nat → Hp → V → Hp → Prop), Walk J ds.length Gd Y ∧ (∀ F1 H1, Fr F H F1 H1 → Gd H1) ∧
    ∀ (i : Nat) (H1 : Hp) (x : V) (H2 : Hp) (F1 : Addr → Prop) (d : D), ds[i]? = some d → Fr F H F1 H1 → (∀ b, F1 b → ∃ o, H1 b = some o) → Y i H1 x H2 → ∃ F2, Grow F1 H1 F2 H2 ∧ DF w.K ca F2 H2 x d
def ItOkB (w : Wd) (ca : Option Addr) (F : Addr → Prop) (H : Hp) (J : It) (ds : List D) : Prop :=
  ∃ (Gd : Hp → Prop) (Y : Nat → Hp → V → Hp → Prop), Walk J ds.length Gd Y ∧ (∀ F1 H1, Step ca F H F1 H1 → Gd H1) ∧
    ∀ (i : Nat) (H1 : Hp) (x : V) (H2 : Hp) (F1 : Addr → Prop) (d : D), ds[i]? = some d → Step ca F H F1 H1 → Y i H1 x H2 → ∃ F2, Grow F1 H1 F2 H2 ∧ DF w.K ca F2 H2 x d
def RI (w : Wd) : Rl (List D) It := fun G _ _ F' H' J ds => ItOk w G.ca F' H' J ds
def RIB (w : Wd) : Rl (List D) It := fun G _ _ F' H' J ds => ItOkB w G.ca F' H' J ds
theorem sh_RI {w : Wd} : Sh (RI w) := fun _ _ _ _ _ _ _ _ _ _ _ h => h
theorem sh_RIB {w : Wd} : Sh (RIB w) := fun _ _ _ _ _ _ _ _ _ _ _ h => h
section
variable {X : Cx} {w : Wd} {W : XK} {k : Nat} {e a b : Expr} {pos p : Pos} {tg : Expr}
theorem PI.imp {wi wi' : TI} (h : PI X tg e wi) (hm : ∀ σ H R, wi' σ H R → wi σ H R) : PI X tg e wi' := ⟨fun pins s σ H R I q => h.run pins s σ H R I (hm σ H R q)⟩
theorem ItOk.bo {ca : Option Addr} {F : Addr → Prop} {H : Hp} {J : It} {ds : List D} (hc : ∀ a, ca = some a → ¬ F a) (h : ItOk w ca F H J ds) : ItOkB w ca F H J ds := by
  obtain ⟨Gd, Y, h1, h2, h3⟩ := h
  exact ⟨Gd, Y, h1, fun F1 H1 s => h2 F1 H1 (s.fr hc), fun i H1 x H2 F1 d e s y => h3 i H1 x H2 F1 d e (s.fr hc) s.dom y⟩
/-- a list or a tuple -/
def iAny (K : PySem.W.Frag) (tl : TE) : TI := fun σ H R => tl σ H fun x H1 => ∃ a, x = .ref a ∧ (((∃ xs, SqL K H1 a xs) ∧ R (Itl K a) H1) ∨ ((∃ xs, SqT K H1 a xs) ∧ R (Itt K a) H1))
theorem pi_any {l : Expr} {tl : TE} (hl : PE X l tl) : PI X tg l (iAny X.K tl) := by
  constructor
  intro pins s σ H R I h
  refine thn (hl.run pins s σ H _ I h) ?_
  rintro v s1 ⟨x, H1, I1, r1, a, e, q⟩
  subst e
  cases r1
  have key : ∀ c, c ∈ [s1.heap.objs.size] → FpOk X pins H1 c := by
    intro c hc
    rw [List.mem_singleton] at hc
    rw [hc]
    exact I1.fpOk (Nat.le_refl _) (I1.hok.fresh (Nat.le_refl _))
  rcases q with ⟨⟨xs, hq⟩, q⟩ | ⟨⟨xs, hq⟩, q⟩
  · obtain ⟨its, _, p, _⟩ := I1.list hq
    exact wpAny_pyIter_list p.isList ⟨s1.heap.objs.size, [s1.heap.objs.size], _, _, H1, rfl, I1.kept (t' := s1.toks) (fun c o hc => Heap.get?_push_of_some _ hc), turn_list a _,
      ⟨_, Heap.get?_push_size _ rfl, rfl, rfl⟩, key, q⟩
  · obtain ⟨its, _, p, _⟩ := I1.tuple hq
    exact wpAny_pyIter_tuple (show s1.heap.IsTuple a its.toArray from p) ⟨s1.heap.objs.size, [s1.heap.objs.size], _, _, H1, rfl, I1.kept (t' := s1.toks) (fun c o hc => Heap.get?_push_of_some _ hc), turn_tuple a _,
      ⟨_, Heap.get?_push_size _ rfl, rfl, rfl⟩, key, q⟩
def cItems (f : Ev → M D) : Ev → M (List D) := fun env c => (f env c).bnd fun d c1 => ofO (itemsOf d) c1
theorem it_seq {ca : Option Addr} {F : Addr → Prop} {H : Hp} {d : D} {x : V} {ds : List D} (h : DF w.K ca F H x d) (e : itemsOf d = some ds) :
    ∃ a, x = .ref a ∧ ((∃ xs, SqL w.K H a xs) ∧ ItOk w ca F H (Itl w.K a) ds ∨ (∃ xs, SqT w.K H a xs) ∧ ItOk w ca F H (Itt w.K a) ds) := by
  have yl : ∀ {xs : List V} {ds : List D}, DFs w.K ca F H xs ds → ∀ (i : Nat) (H1 : Hp) (x : V) (H2 : Hp) (F1 : Addr → Prop) (d : D), ds[i]? = some d → Fr F H F1 H1 → (∀ b, F1 b → ∃ o, H1 b = some o) → YAt xs i H1 x H2 → ∃ F2, Grow F1 H1 F2 H2 ∧ DF w.K ca F2 H2 x d := by
    intro xs ds r i H1 x H2 F1 d e f hd y
    obtain ⟨e1, e2⟩ := y
    obtain ⟨v, e3, e4⟩ := r.get e
    rw [e2] at e3
    cases e3
    rw [e1]
    exact ⟨F1, Grow.refl hd, e4.mono f⟩
  unfold itemsOf at e
  split at e
  · cases e
    cases h with
    | tup f e1 r =>
      rename_i a xs
      refine ⟨a, rfl, .inr ⟨⟨_, SqT.of e1⟩, fun H1 => SqT w.K H1 a xs, _, ?_, fun F1 H1 fr => SqT.of (fr.2 _ _ f e1 fun ps z => nomatch z), yl r⟩⟩
      rw [← r.length]
      exact walk_tup
    | tupK e1 r =>
      rename_i a xs
      refine ⟨a, rfl, .inr ⟨⟨_, .inr e1⟩, fun H1 => SqT w.K H1 a xs, _, ?_, fun F1 H1 fr => .inr e1, yl r⟩⟩
      rw [← r.length]
      exact walk_tup
  · cases e
    cases h with
    | lst f e1 r =>
      rename_i a xs
      refine ⟨a, rfl, .inl ⟨⟨_, SqL.of e1⟩, fun H1 => SqL w.K H1 a xs, _, ?_, fun F1 H1 fr => SqL.of (fr.2 _ _ f e1 fun ps z => nomatch z), yl r⟩⟩
      rw [← r.length]
      exact walk_list
  · cases e
theorem it_seqB {ca : Option Addr} {F : Addr → Prop} {H : Hp} {d : D} {x : V} {ds : List D} (hc : ∀ a, ca = some a → ¬ F a) (h : DB w.K ca F H x d) (e : itemsOf d = some ds) :
    ∃ a, x = .ref a ∧ ((∃ xs, SqL w.K H a xs) ∧ ItOkB w ca F H (Itl w.K a) ds ∨ (∃ xs, SqT w.K H a xs) ∧ ItOkB w ca F H (Itt w.K a) ds) := by
  rcases h with h | ⟨a, xs, es, e1, e2, n, e3, r⟩
  · obtain ⟨a, e1, h1⟩ := it_seq h e
    refine ⟨a, e1, ?_⟩
    rcases h1 with ⟨h1, h2⟩ | ⟨h1, h2⟩
    · exact .inl ⟨h1, h2.bo hc⟩
    · exact .inr ⟨h1, h2.bo hc⟩
  · subst e1 e2
    cases e
    refine ⟨a, rfl, .inl ⟨⟨xs, SqL.of e3⟩, fun H1 => SqL w.K H1 a xs, YAt xs, ?_, fun F1 H1 s => SqL.of (s.keep a _ e3 n fun ps z => nomatch z), fun i H1 x H2 F1 d e s y => ?_⟩⟩
    · rw [← r.length]; exact walk_list
    · obtain ⟨e1, e2⟩ := y
      obtain ⟨v, e3, e4⟩ := r.get e
      rw [e2] at e3
      cases e3
      rw [e1]
      exact ⟨F1, Grow.refl s.dom, e4.mono (s.fr hc)⟩
theorem pi_seq {f : Ev → M D} (C : Ctx X w W k) (h : PE X e (tP w W f)) : PI X tg e (tX w W (RI w) (cItems f)) := PI.imp (pi_any h) fun σ H R ⟨G, F, env, c, S, q⟩ => by
  refine ⟨G, F, env, c, S, (Post.bnd (R1 := RD w) sh_RI q).imp (fun _ _ _ _ _ z => z) ?_⟩
  rintro x H1 ⟨F1, d, c1, s1, S1, r1, q1⟩
  cases hz : itemsOf d with
  | none => rw [hz] at q1; exact q1.elim
  | some ds =>
    rw [hz] at q1
    obtain ⟨p, e1, h1⟩ := it_seq r1 hz
    refine ⟨p, e1, ?_⟩
    rw [C.hK]
    rcases h1 with ⟨h1, h2⟩ | ⟨h1, h2⟩
    · exact .inl ⟨h1, q1 F1 _ H1 (Step.refl S1.dom) S1 h2⟩
    · exact .inr ⟨h1, q1 F1 _ H1 (Step.refl S1.dom) S1 h2⟩
theorem pi_seqB {f : Ev → M D} (C : Ctx X w W k) (h : PE X e (tB w W f)) : PI X tg e (tX w W (RIB w) (cItems f)) := PI.imp (pi_any h) fun σ H R ⟨G, F, env, c, S, q⟩ => by
  refine ⟨G, F, env, c, S, (Post.bnd (R1 := RB w) sh_RIB q).imp (fun _ _ _ _ _ z => z) ?_⟩
  rintro x H1 ⟨F1, d, c1, s1, S1, r1, q1⟩
  cases hz : itemsOf d with
  | none => rw [hz] at q1; exact q1.elim
  | some ds =>
    rw [hz] at q1
    obtain ⟨p, e1, h1⟩ := it_seqB S1.cupF r1 hz
    refine ⟨p, e1, ?_⟩
    rw [C.hK]
    rcases h1 with ⟨h1, h2⟩ | ⟨h1, h2⟩
    · exact .inl ⟨h1, q1 F1 _ H1 (Step.refl S1.dom) S1 h2⟩
    · exact .inr ⟨h1, q1 F1 _ H1 (Step.refl S1.dom) S1 h2⟩
theorem PI.bo {f : Ev → M (List D)} (h : PI X tg e (tX w W (RI w) f)) : PI X tg e (tX w W (RIB w) f) := PI.imp h fun σ H R ⟨G, F, env, c, S, q⟩ => by
  refine ⟨G, F, env, c, S, ?_⟩
  cases hf : f env c with
  | bad => rw [hf] at q; exact q
  | exc e c' => rw [hf] at q; exact q
  | ok ds c' =>
    rw [hf] at q
    exact fun F' v H' s S' r => q F' v H' s S' (r.bo S'.cupF)
/-- range(a), range(a, b) -/
def small (i : Int) : Bool := decide (-(2 ^ 62) ≤ i) && decide (i < 2 ^ 62)
def rangeD (lo : Int) (n : Nat) : List D := (List.range n).map fun (i : Nat) => D.int (lo + (i : Int))
def rangeOf1 : List D → Option (List D)
  | [.int j] => if small j then some (rangeD 0 j.toNat) else none
  | _ => none
def rangeOf2 : List D → Option (List D)
  | [.int i, .int j] => if small i && small j then some (rangeD i (j - i).toNat) else none
  | _ => none
theorem it_range {ca : Option Addr} {F : Addr → Prop} {H : Hp} {lo : Int} {n : Nat} : ItOk w ca F H (Itr lo n) (rangeD lo n) := by
  refine ⟨fun _ => True, YFn fun i => .int (lo + i), ?_, fun _ _ _ => trivial, fun i H1 x H2 F1 d e f hd y => ?_⟩
  · have e : (rangeD lo n).length = n := by simp [rangeD]
    rw [e]
    exact walk_range
  · obtain ⟨e1, e2⟩ := y
    subst e1 e2
    unfold rangeD at e
    rw [List.getElem?_map] at e
    by_cases hi : i < n
    · rw [List.getElem?_range hi] at e
      cases e
      exact ⟨F1, Grow.refl hd, .int _⟩
    · rw [List.getElem?_eq_none (by simpa using hi)] at e; cases e
def cRng1 (f : Ev → M (List D)) : Ev → M (List D) := fun env c => (f env c).bnd fun ds c1 => ofO (rangeOf1 ds) c1
def cRng2 (f : Ev → M (List D)) : Ev → M (List D) := fun env c => (f env c).bnd fun ds c1 => ofO (rangeOf2 ds) c1
theorem small_iff {i : Int} (h : small i = true) : -(2 ^ 62) ≤ i ∧ i < 2 ^ 62 := by
  unfold small at h
  simpa only [Bool.and_eq_true, decide_eq_true_eq] using h
theorem pi_rng1 {f : Ev → M (List D)} (C : Ctx X w W k) (hg : Gl X "range") (hm : w.mg "range" = none) (ha : PA X [a] (tAB w W f)) (hs : starEach [a] X.env = [(false, eval a X.env)] := by rfl) :
    PI X tg (.Call (.Name "range" p) [a] [] pos) (tX w W (RI w) (cRng1 f)) := PI.imp (pi_range1 hg (by rw [C.hmg]; exact hm) ha hs) fun σ H R ⟨G, F, env, c, S, q⟩ => by
  refine ⟨G, F, env, c, S, (Post.bnd (R1 := RBs w) sh_RI q).imp (fun _ _ _ _ _ z => z) ?_⟩
  rintro x H1 ⟨F1, d, c1, s1, S1, r1, q1⟩
  cases hz : rangeOf1 d with
  | none => rw [hz] at q1; exact q1.elim
  | some ds =>
    rw [hz] at q1
    unfold rangeOf1 at hz
    split at hz
    · split at hz
      · rename_i j hj
        cases hz
        obtain ⟨v, rfl, r⟩ := dbs1 r1
        obtain ⟨h1, h2⟩ := small_iff hj
        rw [r.int]
        exact ⟨j, rfl, h1, h2, q1 F1 _ H1 (Step.refl S1.dom) S1 it_range⟩
      · cases hz
    · cases hz
theorem pi_rng2 {f : Ev → M (List D)} (C : Ctx X w W k) (hg : Gl X "range") (hm : w.mg "range" = none) (ha : PA X [a, b] (tAB w W f)) (hs : starEach [a, b] X.env = [(false, eval a X.env), (false, eval b X.env)] := by rfl) (hs2 : starEach [b] X.env = [(false, eval b X.env)] := by rfl) :
    PI X tg (.Call (.Name "range" p) [a, b] [] pos) (tX w W (RI w) (cRng2 f)) := PI.imp (pi_range2 hg (by rw [C.hmg]; exact hm) ha hs hs2) fun σ H R ⟨G, F, env, c, S, q⟩ => by
  refine ⟨G, F, env, c, S, (Post.bnd (R1 := RBs w) sh_RI q).imp (fun _ _ _ _ _ z => z) ?_⟩
  rintro x H1 ⟨F1, d, c1, s1, S1, r1, q1⟩
  cases hz : rangeOf2 d with
  | none => rw [hz] at q1; exact q1.elim
  | some ds =>
    rw [hz] at q1
    unfold rangeOf2 at hz
    split at hz
    · split at hz
      · rename_i i j hj
        cases hz
        rw [Bool.and_eq_true] at hj
        obtain ⟨v, u, rfl, r, r'⟩ := dbs2 r1
        obtain ⟨h1, h2⟩ := small_iff hj.1
        obtain ⟨h3, h4⟩ := small_iff hj.2
        rw [r.int, r'.int]
        exact ⟨i, j, rfl, ⟨h1, h2, h3, h4⟩, q1 F1 _ H1 (Step.refl S1.dom) S1 it_range⟩
      · cases hz
    · cases hz
/-- zip of two lists, of two tuples -/
def zipD : List D → List D → List D
  | x :: xs, y :: ys => .tup [x, y] :: zipD xs ys
  | _, _ => []
theorem zipD_length : ∀ xs ys : List D, (zipD xs ys).length = min xs.length ys.length
  | [], ys => by simp [zipD]
  | x :: xs, [] => by simp [zipD]
  | x :: xs, y :: ys => by simp [zipD, zipD_length xs ys]
theorem zipD_get : ∀ (xs ys : List D) (i : Nat) (d : D), (zipD xs ys)[i]? = some d → ∃ x y, xs[i]? = some x ∧ ys[i]? = some y ∧ d = .tup [x, y]
  | [], ys, i, d, h => by simp [zipD] at h
  | x :: xs, [], i, d, h => by simp [zipD] at h
  | x :: xs, y :: ys, 0, d, h => by simp [zipD] at h; exact ⟨x, y, rfl, rfl, h.symm⟩
  | x :: xs, y :: ys, i + 1, d, h => by
    obtain ⟨a, b, h1, h2, h3⟩ := zipD_get xs ys i d (by simpa [zipD] using h)
    exact ⟨a, b, by simpa using h1, by simpa using h2, h3⟩
def zipOf : List D → Option (List D)
  | [.lst xs, .lst ys] => some (zipD xs ys)
  | [.tup xs, .tup ys] => some (zipD xs ys)
  | _ => none
def cZip (f : Ev → M (List D)) : Ev → M (List D) := fun env c => (f env c).bnd fun ds c1 => ofO (zipOf ds) c1
/-- a new pair -/
theorem pair_new {ca : Option Addr} {F : Addr → Prop} {H : Hp} {x y : V} {d e : D} {T : Addr} (hd : ∀ b, F b → ∃ o, H b = some o) (hT : H T = none) (hx : DF w.K ca F H x d) (hy : DF w.K ca F H y e) :
    ∃ F2, Grow F H F2 (upd H T (.tup [x, y])) ∧ DF w.K ca F2 (upd H T (.tup [x, y])) (.ref T) (.tup [d, e]) := by
  have g := grow_one (o := .tup [x, y]) hd hT
  have f : Fr F H (addF F T) (upd H T (.tup [x, y])) := ⟨g.sub, fun b o _ h _ => g.same b o h⟩
  exact ⟨addF F T, g, .tup (.inr rfl) upd_same (.cons (hx.mono f) (.cons (hy.mono f) .nil))⟩
theorem walk_zipT {K : PySem.W.Frag} {a b : Addr} {xs ys : List V} : Walk (RZ.ItzT K a b) (min xs.length ys.length) (fun H => SqT K H a xs ∧ SqT K H b ys) (YPair (fun i => xs[i]?) (fun i => ys[i]?)) := by
  constructor
  · intro i H hi q
    have h1 : i < xs.length := by omega
    have h2 : i < ys.length := by omega
    exact ⟨xs, ys, xs[i], ys[i], q.1, q.2, by simp [h1], by simp [h2]⟩
  · intro H q
    exact ⟨xs, ys, q.1, q.2, by omega⟩
  · intro i H v H' _ q y
    obtain ⟨T, x, z, h1, h2, h3, h4, h5⟩ := y
    exact ⟨T, x, z, h1, h2, h3, h4 xs q.1, h5 ys q.2⟩
theorem pi_zp {f : Ev → M (List D)} {elts : List Expr} {kk : Nat} {tpos : Pos} (C : Ctx X w W k) (hg : Gl X "zip") (hm : w.mg "zip" = none) (ha : PA X [a, b] (tAB w W f))
    (hs : starEach [a, b] X.env = (false, eval a X.env) :: starEach [b] X.env := by rfl) (hpl : (backTo pos (starEach [b] X.env)).any (·.1) = false := by rfl) :
    PI X (.Tuple elts kk tpos) (.Call (.Name "zip" p) [a, b] [] pos) (tX w W (RIB w) (cZip f)) :=
  PI.imp (RZ.pi_zipA hg (by rw [C.hmg]; exact hm) ha hs hpl) fun σ H R ⟨G, F, env, c, S, q⟩ => by
    refine ⟨G, F, env, c, S, (Post.bnd (R1 := RBs w) sh_RIB q).imp (fun _ _ _ _ _ z => z) ?_⟩
    rintro x H1 ⟨F1, d, c1, s1, S1, r1, q1⟩
    cases hz : zipOf d with
    | none => rw [hz] at q1; exact q1.elim
    | some ds =>
      rw [hz] at q1
      rw [C.hK]
      unfold zipOf at hz
      have yy : ∀ {us vs : List V} {xs ys : List D}, DFs w.K G.ca F1 H1 us xs → DFs w.K G.ca F1 H1 vs ys → ∀ (i : Nat) (H2 : Hp) (x : V) (H3 : Hp) (F2 : Addr → Prop) (d : D), (zipD xs ys)[i]? = some d → Step G.ca F1 H1 F2 H2 → YPair (fun i => us[i]?) (fun i => vs[i]?) i H2 x H3 → ∃ F3, Grow F2 H2 F3 H3 ∧ DF w.K G.ca F3 H3 x d := by
        intro us vs xs ys ru rv i H2 x H3 F2 d e s y
        obtain ⟨T, x1, y1, e1, e2, e3, e4, e5⟩ := y
        obtain ⟨d1, d2, g1, g2, g3⟩ := zipD_get _ _ _ _ e
        obtain ⟨v1, v2, v3⟩ := ru.get g1
        obtain ⟨u1, u2, u3⟩ := rv.get g2
        have e4' : us[i]? = some x1 := e4
        have e5' : vs[i]? = some y1 := e5
        rw [e4'] at v2; cases v2
        rw [e5'] at u2; cases u2
        subst e1 e3 g3
        exact pair_new s.dom e2 (v3.step s S1.cupF) (u3.step s S1.cupF)
      split at hz
      · cases hz
        obtain ⟨v, u, rfl, r, r'⟩ := dbs2 r1
        obtain ⟨p1, us, rfl, ha1, ra1, n1⟩ := r.lst S1.cupF
        obtain ⟨p2, vs, rfl, ha2, ra2, n2⟩ := r'.lst S1.cupF
        refine ⟨p1, p2, us, vs, rfl, .inl ⟨SqL.of ha1, SqL.of ha2, q1 F1 _ H1 (Step.refl S1.dom) S1 ⟨_, _, walk_zip (xs := us) (ys := vs) (by rw [zipD_length, ra1.length, ra2.length]), fun F2 H2 s => ?_, yy ra1 ra2⟩⟩⟩
        exact ⟨SqL.of (s.keep p1 _ ha1 n1 fun ps z => nomatch z), SqL.of (s.keep p2 _ ha2 n2 fun ps z => nomatch z)⟩
      · cases hz
        obtain ⟨v, u, rfl, r, r'⟩ := dbs2 r1
        have st : ∀ {x : V} {ds : List D}, DF w.K G.ca F1 H1 x (.tup ds) → ∃ a us, x = .ref a ∧ SqT w.K H1 a us ∧ DFs w.K G.ca F1 H1 us ds ∧ ∀ F2 H2, Step G.ca F1 H1 F2 H2 → SqT w.K H2 a us := by
          intro x ds h
          cases h with
          | tup f e r => exact ⟨_, _, rfl, SqT.of e, r, fun F2 H2 s => SqT.of (s.keep _ _ e (fun z => S1.cupF _ z f) fun ps z => nomatch z)⟩
          | tupK e r => exact ⟨_, _, rfl, .inr e, r, fun F2 H2 s => .inr e⟩
        obtain ⟨p1, us, rfl, ha1, ra1, n1⟩ := st r.tup
        obtain ⟨p2, vs, rfl, ha2, ra2, n2⟩ := st r'.tup
        have wz := walk_zipT (K := w.K) (a := p1) (b := p2) (xs := us) (ys := vs)
        rw [ra1.length, ra2.length, ← zipD_length] at wz
        exact ⟨p1, p2, us, vs, rfl, .inr ⟨ha1, ha2, q1 F1 _ H1 (Step.refl S1.dom) S1 ⟨_, _, wz, fun F2 H2 s => ⟨n1 F2 H2 s, n2 F2 H2 s⟩, yy ra1 ra2⟩⟩⟩
      · cases hz
theorem pi_zpF {f : Ev → M (List D)} {elts : List Expr} {kk : Nat} {tpos : Pos} (C : Ctx X w W k) (hg : Gl X "zip") (hm : w.mg "zip" = none) (ha : PA X [a, b] (tA w W f))
    (hs : starEach [a, b] X.env = (false, eval a X.env) :: starEach [b] X.env := by rfl) (hpl : (backTo pos (starEach [b] X.env)).any (·.1) = false := by rfl) :
    PI X (.Tuple elts kk tpos) (.Call (.Name "zip" p) [a, b] [] pos) (tX w W (RI w) (cZip f)) :=
  PI.imp (RZ.pi_zipA hg (by rw [C.hmg]; exact hm) ha hs hpl) fun σ H R ⟨G, F, env, c, S, q⟩ => by
    refine ⟨G, F, env, c, S, (Post.bnd (R1 := RDs w) sh_RI q).imp (fun _ _ _ _ _ z => z) ?_⟩
    rintro x H1 ⟨F1, d, c1, s1, S1, r1, q1⟩
    cases hz : zipOf d with
    | none => rw [hz] at q1; exact q1.elim
    | some ds =>
      rw [hz] at q1
      rw [C.hK]
      unfold zipOf at hz
      have yy : ∀ {us vs : List V} {xs ys : List D}, DFs w.K G.ca F1 H1 us xs → DFs w.K G.ca F1 H1 vs ys → ∀ (i : Nat) (H2 : Hp) (x : V) (H3 : Hp) (F2 : Addr → Prop) (d : D), (zipD xs ys)[i]? = some d → Fr F1 H1 F2 H2 → (∀ b, F2 b → ∃ o, H2 b = some o) → YPair (fun i => us[i]?) (fun i => vs[i]?) i H2 x H3 → ∃ F3, Grow F2 H2 F3 H3 ∧ DF w.K G.ca F3 H3 x d := by
        intro us vs xs ys ru rv i H2 x H3 F2 d e s hd y
        obtain ⟨T, x1, y1, e1, e2, e3, e4, e5⟩ := y
        obtain ⟨d1, d2, g1, g2, g3⟩ := zipD_get _ _ _ _ e
        obtain ⟨v1, v2, v3⟩ := ru.get g1
        obtain ⟨u1, u2, u3⟩ := rv.get g2
        have e4' : us[i]? = some x1 := e4
        have e5' : vs[i]? = some y1 := e5
        rw [e4'] at v2; cases v2
        rw [e5'] at u2; cases u2
        subst e1 e3 g3
        exact pair_new hd e2 (v3.mono s) (u3.mono s)
      have st : ∀ {x : V} {ds : List D}, DF w.K G.ca F1 H1 x (.tup ds) → ∃ a us, x = .ref a ∧ SqT w.K H1 a us ∧ DFs w.K G.ca F1 H1 us ds ∧ ∀ F2 H2, Fr F1 H1 F2 H2 → SqT w.K H2 a us := by
        intro x ds h
        cases h with
        | tup f e r => exact ⟨_, _, rfl, SqT.of e, r, fun F2 H2 s => SqT.of (s.2 _ _ f e fun ps z => nomatch z)⟩
        | tupK e r => exact ⟨_, _, rfl, .inr e, r, fun F2 H2 s => .inr e⟩
      have sl : ∀ {x : V} {ds : List D}, DF w.K G.ca F1 H1 x (.lst ds) → ∃ a us, x = .ref a ∧ SqL w.K H1 a us ∧ DFs w.K G.ca F1 H1 us ds ∧ ∀ F2 H2, Fr F1 H1 F2 H2 → SqL w.K H2 a us := by
        intro x ds h
        cases h with
        | lst f e r => exact ⟨_, _, rfl, SqL.of e, r, fun F2 H2 s => SqL.of (s.2 _ _ f e fun ps z => nomatch z)⟩
      split at hz
      · cases hz
        cases r1 with
        | cons r rr =>
          cases rr with
          | cons r' rr' =>
            cases rr'
            obtain ⟨p1, us, rfl, ha1, ra1, n1⟩ := sl r
            obtain ⟨p2, vs, rfl, ha2, ra2, n2⟩ := sl r'
            exact ⟨p1, p2, us, vs, rfl, .inl ⟨ha1, ha2, q1 F1 _ H1 (Step.refl S1.dom) S1 ⟨_, _, walk_zip (xs := us) (ys := vs) (by rw [zipD_length, ra1.length, ra2.length]), fun F2 H2 s => ⟨n1 F2 H2 s, n2 F2 H2 s⟩, yy ra1 ra2⟩⟩⟩
      · cases hz
        cases r1 with
        | cons r rr =>
          cases rr with
          | cons r' rr' =>
            cases rr'
            obtain ⟨p1, us, rfl, ha1, ra1, n1⟩ := st r
            obtain ⟨p2, vs, rfl, ha2, ra2, n2⟩ := st r'
            have wz := walk_zipT (K := w.K) (a := p1) (b := p2) (xs := us) (ys := vs)
            rw [ra1.length, ra2.length, ← zipD_length] at wz
            exact ⟨p1, p2, us, vs, rfl, .inr ⟨ha1, ha2, q1 F1 _ H1 (Step.refl S1.dom) S1 ⟨_, _, wz, fun F2 H2 s => ⟨n1 F2 H2 s, n2 F2 H2 s⟩, yy ra1 ra2⟩⟩⟩
      · cases hz
end
end Hm

set_option Elab.async false
set_option linter.all false
set_option maxRecDepth 100000
/-! # P5: targets, list comprehensions -/
namespace Hm
open PySem PySem.Spec PyProof.Rows L2

inductive Tg where
  | nm (i : Nat)
  | tp (ts : List Tg)
mutual
def bindT : Tg → D → Ev → Option Ev
  | .nm i, d, env => some (env.set i (.fz d))
  | .tp ts, .tup ds, env => bindTs ts ds env
  | .tp _, _, _ => none
def bindTs : List Tg → List D → Ev → Option Ev
  | [], [], env => some env
  | t :: ts, d :: ds, env => (bindT t d env).bind fun env1 => bindTs ts ds env1
  | _, _, _ => none
end
mutual
def Tg.ix : Tg → List Nat
  | .nm i => [i]
  | .tp ts => Tg.ixs ts
def Tg.ixs : List Tg → List Nat
  | [] => []
  | t :: ts => Tg.ix t ++ Tg.ixs ts
end
/-- only the slots vs may differ -/
def SameBut (vs : List Nat) (σ σ' : L2.St) : Prop := σ'.length = σ.length ∧ ∀ i, i ∉ vs → σ'[i]? = σ[i]?
theorem SameBut.refl (vs : List Nat) (σ : L2.St) : SameBut vs σ σ := ⟨rfl, fun _ _ => rfl⟩
theorem SameBut.trans {vs us : List Nat} {σ σ1 σ2 : L2.St} (a : SameBut vs σ σ1) (b : SameBut us σ1 σ2) : SameBut (vs ++ us) σ σ2 :=
  ⟨b.1.trans a.1, fun i h => by
    simp only [List.mem_append, not_or] at h
    rw [b.2 i h.2, a.2 i h.1]⟩
section
variable {w : Wd} {G : GS} {F F' : Addr → Prop} {σ : L2.St} {env : Ev} {c c' : Cup} {H H' : Hp}
theorem set_join {σ : L2.St} {i j : Nat} {v : V} (hi : i < σ.length) : (σ.set i (some v))[j]?.join = if j = i then some v else σ[j]?.join := by
  by_cases h : j = i
  · subst h
    rw [if_pos rfl, List.getElem?_set_self hi]
    rfl
  · rw [if_neg h, List.getElem?_set_ne (Ne.symm h)]
theorem SR.setFz (S : SR w G F σ env c H) {i : Nat} {v : V} {d : D} (r : DF w.K G.ca F H v d) : SR w G F (σ.set i (some v)) (env.set i (.fz d)) c H := by
  by_cases hi : i < σ.length
  · have hie : i < env.length := by rw [← S.len]; exact hi
    refine ⟨by simp [S.len], fun j s e => ?_, fun j l ds es a ne e1 e2 e3 e4 => ?_, S.cup, S.cupF, S.tabs, S.dom, S.sub, S.ext, S.there⟩
    · rw [set_join hi]
      by_cases h : j = i
      · subst h
        rw [List.getElem?_set_self hie] at e
        cases e
        rw [if_pos rfl]
        exact ⟨v, rfl, r⟩
      · rw [List.getElem?_set_ne (Ne.symm h)] at e
        rw [if_neg h]
        exact S.slot j s e
    · have hj : j ≠ i := fun z => by
        subst z
        rw [List.getElem?_set_self hie] at e1
        cases e1
      have hl : l ≠ i := fun z => by
        subst z
        rw [List.getElem?_set_self hie] at e2
        cases e2
      rw [List.getElem?_set_ne (Ne.symm hj)] at e1
      rw [List.getElem?_set_ne (Ne.symm hl)] at e2
      rw [set_join hi, if_neg hj] at e3
      rw [set_join hi, if_neg hl] at e4
      exact S.apart j l ds es a ne e1 e2 e3 e4
  · rw [List.set_eq_of_length_le (by omega), List.set_eq_of_length_le (by rw [← S.len]; omega)]
    exact S
theorem SR.setOw (S : SR w G F σ env c H) {i : Nat} {a : Addr} {xs : List V} {ds : List D} (ha : H a = some (.lst xs)) (r : DFs w.K G.ca F H xs ds) (hF : ¬ F a) (hc : G.ca ≠ some a) (h0 : G.H0 a = none)
    (hap : ∀ (j : Nat) (es : List D), env[j]? = some (Sl.ow es) → σ[j]?.join = some (V.ref a) → False) : SR w G F (σ.set i (some (.ref a))) (env.set i (.ow ds)) c H := by
  by_cases hi : i < σ.length
  · have hie : i < env.length := by rw [← S.len]; exact hi
    refine ⟨by simp [S.len], fun j s e => ?_, fun j l us es b ne e1 e2 e3 e4 => ?_, S.cup, S.cupF, S.tabs, S.dom, S.sub, S.ext, S.there⟩
    · rw [set_join hi]
      by_cases h : j = i
      · subst h
        rw [List.getElem?_set_self hie] at e
        cases e
        rw [if_pos rfl]
        exact ⟨a, xs, rfl, ha, r, hF, hc, h0⟩
      · rw [List.getElem?_set_ne (Ne.symm h)] at e
        rw [if_neg h]
        exact S.slot j s e
    · rw [set_join hi] at e3 e4
      by_cases hj : j = i
      · subst hj
        rw [if_pos rfl] at e3
        cases e3
        have hl : l ≠ j := Ne.symm ne
        rw [List.getElem?_set_ne (Ne.symm hl)] at e2
        rw [if_neg hl] at e4
        exact hap l es e2 e4
      · rw [if_neg hj] at e3
        rw [List.getElem?_set_ne (Ne.symm hj)] at e1
        by_cases hl : l = i
        · subst hl
          rw [if_pos rfl] at e4
          cases e4
          exact hap j us e1 e3
        · rw [if_neg hl] at e4
          rw [List.getElem?_set_ne (Ne.symm hl)] at e2
          exact S.apart j l us es b ne e1 e2 e3 e4
  · rw [List.set_eq_of_length_le (by omega), List.set_eq_of_length_le (by rw [← S.len]; omega)]
    exact S
/-- a slot forgotten -/
theorem SR.forget (S : SR w G F σ env c H) (i : Nat) : SR w G F (σ.set i none) (env.set i .no) c H := by
  by_cases hi : i < σ.length
  · have hie : i < env.length := by rw [← S.len]; exact hi
    have hj : ∀ j, j ≠ i → (σ.set i none)[j]?.join = σ[j]?.join := fun j h => by rw [List.getElem?_set_ne (Ne.symm h)]
    refine ⟨by simp [S.len], fun j s e => ?_, fun j l ds es a ne e1 e2 e3 e4 => ?_, S.cup, S.cupF, S.tabs, S.dom, S.sub, S.ext, S.there⟩
    · by_cases h : j = i
      · subst h
        rw [List.getElem?_set_self hie] at e
        cases e
        trivial
      · rw [List.getElem?_set_ne (Ne.symm h)] at e
        rw [hj j h]
        exact S.slot j s e
    · have h1 : j ≠ i := fun z => by
        subst z
        rw [List.getElem?_set_self hie] at e1
        cases e1
      have h2 : l ≠ i := fun z => by
        subst z
        rw [List.getElem?_set_self hie] at e2
        cases e2
      rw [List.getElem?_set_ne (Ne.symm h1)] at e1
      rw [List.getElem?_set_ne (Ne.symm h2)] at e2
      rw [hj j h1] at e3
      rw [hj l h2] at e4
      exact S.apart j l ds es a ne e1 e2 e3 e4
  · rw [List.set_eq_of_length_le (by omega), List.set_eq_of_length_le (by rw [← S.len]; omega)]
    exact S
def wipeE (env : Ev) : List Nat → Ev
  | [] => env
  | v :: vs => (wipeE env vs).set v .no
theorem SR.wipe (S : SR w G F σ env c H) : ∀ vs : List Nat, SR w G F (L2.wipe σ vs) (wipeE env vs) c H
  | [] => S
  | v :: vs => (SR.wipe S vs).forget v
end
theorem wipe_same {σ σ2 : L2.St} {vs us : List Nat} (h : SameBut us (L2.wipe σ vs) σ2) (hu : ∀ i ∈ us, i ∈ vs) : L2.wipe σ2 vs = L2.wipe σ vs := by
  have get : ∀ (τ : L2.St) (i : Nat), (L2.wipe τ vs)[i]? = if i ∈ vs ∧ i < τ.length then some none else τ[i]? := by
    intro τ i
    clear h hu
    induction vs with
    | nil => simp [L2.wipe]
    | cons v vs ih =>
      show ((L2.wipe τ vs).set v none)[i]? = _
      have hl := L2.wipe_length τ vs
      by_cases hv : v = i
      · subst hv
        by_cases hlt : v < τ.length
        · rw [List.getElem?_set_self (by omega)]
          simp [hlt]
        · rw [List.getElem?_eq_none (by simp; omega)]
          simp [hlt]
      · rw [List.getElem?_set_ne hv, ih]
        simp [Ne.symm hv]
  apply List.ext_getElem?
  intro i
  rw [get σ2 i]
  have hl : σ2.length = σ.length := by rw [h.1, L2.wipe_length]
  by_cases hi : i ∈ vs ∧ i < σ2.length
  · rw [if_pos hi, get σ i, if_pos ⟨hi.1, by omega⟩]
  · rw [if_neg hi]
    by_cases hm : i ∈ vs
    · have : ¬ i < σ2.length := fun z => hi ⟨hm, z⟩
      rw [List.getElem?_eq_none (by omega), List.getElem?_eq_none (by rw [L2.wipe_length]; omega)]
    · rw [h.2 i fun z => hm (hu i z)]
/-! ### targets -/
def tG (w : Wd) (t : Tg) : TG := fun v σ H Q => ∃ G F env c d env', SR w G F σ env c H ∧ DF w.K G.ca F H v d ∧ bindT t d env = some env' ∧ ∀ σ', SameBut t.ix σ σ' → SR w G F σ' env' c H → Q σ' H
def tGs (w : Wd) (ts : List Tg) : TGs := fun vs σ H Q => ∃ G F env c ds env', SR w G F σ env c H ∧ DFs w.K G.ca F H vs ds ∧ bindTs ts ds env = some env' ∧ ∀ σ', SameBut (Tg.ixs ts) σ σ' → SR w G F σ' env' c H → Q σ' H
section
variable {X : Cx} {w : Wd} {W : XK} {k : Nat} {e a b : Expr} {pos p : Pos} {tg : Expr}
theorem PG.imp {g g' : TG} (h : PG X tg g) (hm : ∀ v σ H Q, g' v σ H Q → g v σ H Q) : PG X tg g' := ⟨fun pins s σ H v u Q I r q => h.run pins s σ H v u Q I r (hm v σ H Q q)⟩
theorem PGs.imp {es : List Expr} {g g' : TGs} (h : PGs X es g) (hm : ∀ v σ H Q, g' v σ H Q → g v σ H Q) : PGs X es g' := ⟨fun pins s σ H v u Q I r q => h.run pins s σ H v u Q I r (hm v σ H Q q)⟩
theorem pg_n {i : Nat} {x : Str} (C : Ctx X w W k) (hi : X.N[i]? = some x) (hx : Loc X.env.scope x) (hf : X.fn x = true ∨ X.env.scope.names.lookup x = some .local := by first | exact .inl rfl | exact .inr rfl | assumption) : PG X (.Name x pos) (tG w (.nm i)) :=
  PG.imp (pg_name C.nd hi hx hf) fun v σ H Q ⟨G, F, env, c, d, env', S, r, e, q⟩ => by
    cases e
    refine q _ ⟨by simp, fun j hj => ?_⟩ (S.setFz r)
    have hj' : j ≠ i := by simpa [Tg.ix] using hj
    rw [List.getElem?_set_ne (Ne.symm hj')]
theorem pgs_n : PGs X [] (tGs w []) := PGs.imp pgs_nil fun vs σ H Q ⟨G, F, env, c, ds, env', S, r, e, q⟩ => by
  cases ds with
  | nil => cases r; cases e; exact ⟨rfl, q σ (SameBut.refl _ _) S⟩
  | cons d ds => cases e
theorem pgs_c {es : List Expr} {t : Tg} {ts : List Tg} (h1 : PG X e (tG w t)) (h2 : PGs X es (tGs w ts)) (hs : (assignEach (e :: es) X.env).map (·.2) = assign e X.env :: (assignEach es X.env).map (·.2) := by rfl) : PGs X (e :: es) (tGs w (t :: ts)) :=
  PGs.imp (pgs_cons h1 h2 hs) fun vs σ H Q ⟨G, F, env, c, ds, env', S, r, e, q⟩ => by
    cases ds with
    | nil => cases e
    | cons d ds =>
      cases r with
      | cons r1 r2 =>
        simp only [bindTs] at e
        cases hb : bindT t d env with
        | none => rw [hb] at e; cases e
        | some env1 =>
          rw [hb] at e
          exact ⟨_, _, rfl, G, F, env, c, d, env1, S, r1, hb, fun σ1 s1 S1 => ⟨G, F, env1, c, ds, env', S1, r2, e, fun σ2 s2 S2 => q σ2 (s1.trans s2) S2⟩⟩
theorem bindTs_len : ∀ {ts : List Tg} {ds : List D} {env env' : Ev}, bindTs ts ds env = some env' → ds.length = ts.length
  | [], [], _, _, _ => rfl
  | t :: ts, d :: ds, env, env', h => by
    simp only [bindTs] at h
    cases hb : bindT t d env with
    | none => rw [hb] at h; cases h
    | some env1 => rw [hb] at h; simp [bindTs_len h]
  | [], _ :: _, _, _, h => by simp [bindTs] at h
  | _ :: _, [], _, _, h => by simp [bindTs] at h
theorem pg_t {es : List Expr} {ts : List Tg} {kk : Nat} (C : Ctx X w W k) (h : PGs X es (tGs w ts)) (hn : (assignEach es X.env).length = ts.length := by rfl) (hst : (assignEach es X.env).findIdx? (·.1) = none := by rfl) : PG X (.Tuple es kk pos) (tG w (.tp ts)) :=
  PG.imp (pg_tup C.calm h hn hst) fun v σ H Q ⟨G, F, env, c, d, env', S, r, e, q⟩ => by
    cases d with
    | tup ds =>
      obtain ⟨p, xs, h1, h2, h3⟩ := r.tupS
      have e' : bindTs ts ds env = some env' := e
      exact ⟨p, xs, h1, by rw [C.hK]; exact h2, by rw [h3.length, bindTs_len e'], G, F, env, c, ds, env', S, h3, e', q⟩
    | _ => cases e
end
/-! ### comprehensions -/
def noX {α : Type} (r : Res α) : Res α := match r with
  | .ok a c => .ok a c
  | _ => .bad
def compL (t : Tg) (cond : Ev → M Bool) (el : Ev → M D) (env : Ev) : List D → M (List D)
  | [], c => .ok [] c
  | d :: ds, c => (ofO (bindT t d env) c).bnd fun env1 c0 => (noX (cond env1 c0)).bnd fun b c1 =>
      if b then (noX (el env1 c1)).bnd fun x c2 => (compL t cond el env ds c2).bnd fun xs c3 => .ok (x :: xs) c3
      else compL t cond el env ds c1
def cYes : Ev → M Bool := fun _ c => .ok true c
def cComp (vs : List Nat) (t : Tg) (it : Ev → M (List D)) (cond : Ev → M Bool) (el : Ev → M D) : Ev → M (List D) := fun env c =>
  (it env c).bnd fun ds c1 => if lenOk ds then compL t cond el (wipeE env vs) ds c1 else .bad
def W0 : XK := fun _ _ _ => False
section
variable {w : Wd} {G : GS} {W : XK} {F : Addr → Prop} {σ : L2.St} {env : Ev} {c : Cup} {H : Hp} {α α' β β' : Type}
theorem Post.noX {R1 : Rl α β} {R2 : (Addr → Prop) → Hp → β' → α' → Prop} {r : Res α} {kk : α → Cup → Res α'} {σ' : L2.St} {env' : Ev} {F0 : Addr → Prop} {H0 : Hp} {Q : β' → Hp → Prop} (h : Post w G W F0 σ' env' H0 R2 ((Hm.noX r).bnd kk) Q) :
    Post w G Hm.W0 F σ env H (R1 G F H) r (fun v H1 => ∃ F1 d c1, Step G.ca F H F1 H1 ∧ SR w G F1 σ env c1 H1 ∧ R1 G F H F1 H1 v d ∧ Post w G W F0 σ' env' H0 R2 (kk d c1) Q) := by
  cases r with
  | ok d c1 => exact fun F' v H' s S r => ⟨F', d, c1, s, S, r, h⟩
  | exc e c1 => exact h.elim
  | bad => exact h.elim
end
theorem comp_read {w : Wd} {W : XK} {vs : List Nat} {t : Tg} {it : Ev → M (List D)} {cond : Ev → M Bool} {el : Ev → M D} (ht : ∀ i ∈ t.ix, i ∈ vs) : ∀ (σ : L2.St) (H : Hp) (Q : VK),
    tF w W (cComp vs t it cond el) σ H Q → tLc (tX w W (RIB w) it) (tG w t) (tT w W0 cond) (tP w W0 el) vs σ H Q := by
  rintro σ H Q ⟨G, F, env, c, S, q⟩
  refine ⟨G, F, env, c, S, (Post.bnd (R1 := RIB w) sh_RF q).imp (fun _ _ _ _ _ z => z) ?_⟩
  rintro J H1 ⟨F1, ds, c1, s1, S1, ⟨Gd, Y, wk, hG, hY⟩, q1⟩ dA hD
  by_cases hl : lenOk ds = true
  · rw [if_pos hl] at q1
    have Sw := S1.wipe vs
    have nF : ∀ {F' : Addr → Prop} {H' : Hp} {o : HO}, Step G.ca F1 H1 F' H' → ¬ F1 dA := fun s z => by
      obtain ⟨o, e⟩ := S1.dom dA z
      rw [hD] at e; cases e
    have nca : G.ca ≠ some dA := fun z => by
      have := S1.cup dA z
      rw [hD] at this; cases this
    let Pv : Nat → Hp → Prop := fun i H2 => ∃ (F2 : Addr → Prop) (acc : List V) (da : List D) (c2 : Cup), Step G.ca F1 H1 F2 H2 ∧ CupAt G.ca c2 H2 ∧ LamX.Tabs w.T H2 ∧ H2 dA = some (.lst acc) ∧ DFs w.K G.ca F2 H2 acc da ∧ ¬ F2 dA ∧ acc.length ≤ i ∧
      Post w G W F1 σ env H1 (RF w G F1 H1) ((compL t cond el (wipeE env vs) (ds.drop i) c2).bnd fun xs c3 => .ok (da ++ xs) c3) Q
    refine lc_it (vs := vs) wk Pv ?_ ?_ ?_ ?_
    · refine ⟨F1, [], [], c1, ⟨fun _ h => h, fun b o h _ _ => by rw [upd_ne (ne_of_none h hD)]; exact h, fun b o h => ⟨o, by rw [upd_ne (ne_of_none h hD)]; exact h⟩, fun _ h => .inl h, fun b h => ?_⟩, fun b h => ?_, ?_, upd_same, .nil, fun z => ?_, Nat.zero_le _, ?_⟩
      · obtain ⟨o, e⟩ := S1.dom b h
        exact ⟨o, by rw [upd_ne (ne_of_none e hD)]; exact e⟩
      · have := S1.cup b h
        rw [upd_ne (ne_of_none this hD)]; exact this
      · exact S1.tabs.ext fun b o h => by rw [upd_ne (ne_of_none h hD)]; exact h
      · obtain ⟨o, e⟩ := S1.dom dA z
        rw [hD] at e; cases e
      · rw [List.drop_zero]
        cases hr : compL t cond el (wipeE env vs) ds c1 with
        | ok a c => rw [hr] at q1; simpa using q1
        | exc a c => rw [hr] at q1; exact q1
        | bad => rw [hr] at q1; exact q1
    · rintro i H2 hi ⟨F2, acc, da, c2, s2, _⟩
      exact hG F2 H2 s2
    · rintro i x H2 H3 hi ⟨F2, acc, da, c2, s2, cu2, t2, hD2, rd2, nF2, le2, q2⟩ y
      have S2 : SR w G F2 (L2.wipe σ vs) (wipeE env vs) c2 H2 := Sw.step s2 cu2 t2
      obtain ⟨F3, g3, r3⟩ := hY i H2 x H3 F2 ds[i] (by simp [hi]) s2 y
      have S3 := S2.grow g3
      rw [List.drop_eq_getElem_cons hi] at q2
      simp only [compL] at q2
      cases hb : bindT t ds[i] (wipeE env vs) with
      | none => rw [hb] at q2; exact q2.elim
      | some env1 =>
        rw [hb] at q2
        simp only [ofO_some, bnd_ok] at q2
        refine ⟨G, F3, wipeE env vs, c2, ds[i], env1, S3, r3, hb, fun σ2 sb S4 => ⟨wipe_same sb ht, ?_⟩⟩
        have q3 : Post w G W F1 σ env H1 (RF w G F1 H1) ((noX (cond env1 c2)).bnd fun b c4 => ((if b = true then (noX (el env1 c4)).bnd fun x c2 => (compL t cond el (wipeE env vs) (ds.drop (i + 1)) c2).bnd fun xs c3 => .ok (x :: xs) c3 else compL t cond el (wipeE env vs) (ds.drop (i + 1)) c4).bnd fun xs c3 => .ok (da ++ xs) c3)) Q := by
          cases hc : cond env1 c2 <;> rw [hc] at q2 <;> exact q2
        refine ⟨G, F3, env1, c2, S4, (Post.noX (R1 := RT) q3).imp (fun _ _ _ _ _ z => z) ?_⟩
        rintro b H4 ⟨F4, b', c4, s4, S5, rb, q4⟩
        cases rb
        have hD3 : H3 dA = some (.lst acc) := g3.same dA _ hD2
        have hD4 : H4 dA = some (.lst acc) := s4.keep dA _ hD3 nca fun ps z => nomatch z
        have nF3 : ¬ F3 dA := fun z => by
          rcases g3.new dA z with h | h
          · exact nF2 h
          · rw [hD2] at h; cases h
        have nF4 : ¬ F4 dA := fun z => by
          rcases s4.new dA z with h | h
          · exact nF3 h
          · rw [hD3] at h; cases h
        have rd4 : DFs w.K G.ca F4 H4 acc da := (rd2.step g3.step S2.cupF).step s4 S3.cupF
        have st4 : Step G.ca F1 H1 F4 H4 := (s2.trans g3.step).trans s4
        cases b with
        | false =>
          rw [if_neg Bool.false_ne_true]
          exact ⟨F4, acc, da, c4, st4, S5.cup, S5.tabs, hD4, rd4, nF4, by omega, q4⟩
        | true =>
          rw [if_pos rfl]
          simp only [if_true] at q4
          have q5 : Post w G W F1 σ env H1 (RF w G F1 H1) ((noX (el env1 c4)).bnd fun x c2 => ((compL t cond el (wipeE env vs) (ds.drop (i + 1)) c2).bnd fun xs c3 => .ok (da ++ (x :: xs)) c3)) Q := by
            cases hc : el env1 c4 <;> rw [hc] at q4 <;> first | exact q4 | skip
            rename_i v c5
            simp only [noX, bnd_ok] at q4 ⊢
            cases hc2 : compL t cond el (wipeE env vs) (ds.drop (i + 1)) c5 <;> rw [hc2] at q4 <;> exact q4
          refine ⟨G, F4, env1, c4, S5, (Post.noX (R1 := RD w) q5).imp (fun _ _ _ _ _ z => z) ?_⟩
          rintro v H5 ⟨F5, d, c5, s5, S6, rv, q6⟩
          have hD5 : H5 dA = some (.lst acc) := s5.keep dA _ hD4 nca fun ps z => nomatch z
          have nF5 : ¬ F5 dA := fun z => by
            rcases s5.new dA z with h | h
            · exact nF4 h
            · rw [hD4] at h; cases h
          have fr : Fr F5 H5 F5 (upd H5 dA (.lst (acc ++ [v]))) := ⟨fun _ h => h, fun b o f h _ => by rw [upd_ne (fun z => nF5 (by rw [← z]; exact f))]; exact h⟩
          have st5 := st4.trans s5
          refine ⟨acc, hD5, by have := len_ok hl; omega, F5, acc ++ [v], da ++ [d], c5, ⟨st5.sub, fun b o h n tt => ?_, fun b o h => ?_, st5.new, fun b h => ?_⟩, fun b h => ?_, ?_, upd_same, ?_, nF5, by simp; omega, ?_⟩
          · rw [upd_ne (ne_of_none h hD)]
            exact st5.keep b o h n tt
          · by_cases hb : b = dA
            · rw [hb]; exact ⟨_, upd_same⟩
            · rw [upd_ne hb]; exact st5.there b o h
          · obtain ⟨o, e⟩ := st5.dom b h
            by_cases hb : b = dA
            · rw [hb]; exact ⟨_, upd_same⟩
            · exact ⟨o, by rw [upd_ne hb]; exact e⟩
          · rw [upd_ne (fun z => nca (by rw [← z]; exact h))]
            exact S6.cup b h
          · intro pq hp
            obtain ⟨ps, h1, h2, h3⟩ := S6.tabs pq hp
            refine ⟨ps, by rw [upd_ne (fun z => by rw [z, hD5] at h1; cases h1)]; exact h1, h2, fun pos cv hcv => ?_⟩
            obtain ⟨c0, e1, e2⟩ := h3 pos cv hcv
            exact ⟨c0, e1, by rw [upd_ne (fun z => by rw [z, hD5] at e2; cases e2)]; exact e2⟩
          · exact ((rd4.step s5 S5.cupF).mono fr).append (.cons (rv.mono fr) .nil)
          · have e : (fun (xs : List D) (c3 : Cup) => (Res.ok (da ++ [d] ++ xs) c3 : Res (List D))) = fun xs c3 => .ok (da ++ (d :: xs)) c3 := by
              funext xs c3; simp
            rw [e]; exact q6
    · rintro H2 ⟨F2, acc, da, c2, s2, cu2, t2, hD2, rd2, nF2, le2, q2⟩
      rw [List.drop_length] at q2
      simp only [compL, bnd_ok, List.append_nil] at q2
      exact q2 F2 (.ref dA) H2 s2 (S1.step s2 cu2 t2) ⟨dA, acc, rfl, hD, nF2, hD2, rd2⟩
  · rw [if_neg hl] at q1; exact q1.elim
end Hm

set_option Elab.async false
set_option linter.all false
set_option maxRecDepth 100000
/-! # P6: statements, loops, defs and their calls -/
namespace Hm
open PySem PySem.Spec PyProof.Rows L2

inductive Fl where
  | nx | bk | ct | ret (d : D)
def PostS (w : Wd) (G : GS) (W : XK) (F : Addr → Prop) (H : Hp) (r : Res (Fl × Ev)) (De : Ends) : Prop :=
  match r with
  | .ok (.nx, env') c' => ∀ F' σ' H', Fr F H F' H' → SR w G F' σ' env' c' H' → De.nx σ' H'
  | .ok (.bk, env') c' => ∀ F' σ' H', Fr F H F' H' → SR w G F' σ' env' c' H' → De.bk σ' H'
  | .ok (.ct, env') c' => ∀ F' σ' H', Fr F H F' H' → SR w G F' σ' env' c' H' → De.ct σ' H'
  | .ok (.ret d, _) c' => ∀ F' σ' env' v H', Fr F H F' H' → SR w G F' σ' env' c' H' → DF w.K G.ca F' H' v d → De.rt v H'
  | .exc e c' => ∀ F' σ' env' cls dd H', Fr F H F' H' → SR w G F' σ' env' c' H' → ExR w e cls dd H' → W cls dd H'
  | .bad => False
abbrev MS := Ev → M (Fl × Ev)
def tS (w : Wd) (W : XK) (g : MS) : TS := fun De σ H => ∃ G F env c, SR w G F σ env c H ∧ PostS w G W F H (g env c) De
section
variable {w : Wd} {G : GS} {W : XK} {F F1 : Addr → Prop} {σ : L2.St} {env : Ev} {c : Cup} {H H1 : Hp} {α β : Type}
theorem Fr.refl : Fr F H F H := ⟨fun _ h => h, fun _ _ _ h _ => h⟩
theorem Fr.trans {F2 : Addr → Prop} {H2 : Hp} (a : Fr F H F1 H1) (b : Fr F1 H1 F2 H2) : Fr F H F2 H2 := ⟨fun x h => b.1 x (a.1 x h), fun x o f h t => b.2 x o (a.1 x f) (a.2 x o f h t) t⟩
theorem PostS.shift {r : Res (Fl × Ev)} {De : Ends} (h : PostS w G W F H r De) (f : Fr F H F1 H1) : PostS w G W F1 H1 r De := by
  match r, h with
  | .ok (.nx, env') c', h => exact fun F' σ' H' f' S' => h F' σ' H' (f.trans f') S'
  | .ok (.bk, env') c', h => exact fun F' σ' H' f' S' => h F' σ' H' (f.trans f') S'
  | .ok (.ct, env') c', h => exact fun F' σ' H' f' S' => h F' σ' H' (f.trans f') S'
  | .ok (.ret d, _) c', h => exact fun F' σ' env' v H' f' S' r => h F' σ' env' v H' (f.trans f') S' r
  | .exc e c', h => exact fun F' σ' env' cls dd H' f' S' r => h F' σ' env' cls dd H' (f.trans f') S' r
  | .bad, h => exact h
/-- an expression, then the rest -/
theorem PostS.bnd {R1 : Rl α β} {r : Res α} {kk : α → Cup → Res (Fl × Ev)} {De : Ends} (S : SR w G F σ env c H) (h : PostS w G W F H (r.bnd kk) De) :
    Post w G W F σ env H (R1 G F H) r (fun v H1 => ∃ F1 d c1, Step G.ca F H F1 H1 ∧ SR w G F1 σ env c1 H1 ∧ R1 G F H F1 H1 v d ∧ PostS w G W F1 H1 (kk d c1) De) := by
  cases r with
  | ok d c' => exact fun F' v H' s' S' q => ⟨F', d, c', s', S', q, h.shift (s'.fr S.cupF)⟩
  | exc e c' => exact fun F' cls dd H' s' S' q => h F' σ env cls dd H' (s'.fr S.cupF) S' q
  | bad => exact h
end
section
variable {X : Cx} {w : Wd} {W : XK} {k : Nat} {e a b : Expr} {st : Stmt} {rest body orelse : List Stmt} {pos p : Pos} {tg : Expr} {g h : MS}
/-! ### blocks -/
def sNil : MS := fun env c => .ok (.nx, env) c
def sSeq (g h : MS) : MS := fun env c => (g env c).bnd fun r c1 => match r with
  | (.nx, env1) => h env1 c1
  | r => .ok r c1
theorem pss_n : PSs X [] (tS w W sNil) := PSs.imp pss_nil fun De σ H ⟨G, F, env, c, S, q⟩ => q F σ H Fr.refl S
theorem pss_c (h1 : PS X st (tS w W g)) (h2 : PSs X rest (tS w W h)) : PSs X (st :: rest) (tS w W (sSeq g h)) := PSs.imp (pss_cons h1 h2) fun De σ H ⟨G, F, env, c, S, q⟩ => by
  refine ⟨G, F, env, c, S, ?_⟩
  unfold sSeq at q
  match hr : g env c, q with
  | .ok (.nx, env') c', q => exact fun F' σ' H' f' S' => ⟨G, F', env', c', S', PostS.shift q f'⟩
  | .ok (.bk, env') c', q => exact q
  | .ok (.ct, env') c', q => exact q
  | .ok (.ret d, _) c', q => exact q
  | .exc e c', q => exact q
  | .bad, q => exact q
theorem pss_1 (h1 : PS X st (tS w W g)) : PSs X [st] (tS w W g) := pss_one h1
/-! ### simple statements -/
def sSet (i : Nat) (f : Ev → M D) : MS := fun env c => (f env c).bnd fun d c1 => .ok (.nx, env.set i (.fz d)) c1
def sSetO (i : Nat) (f : Ev → M (List D)) : MS := fun env c => (f env c).bnd fun ds c1 => .ok (.nx, env.set i (.ow ds)) c1
theorem rd_set {i : Nat} {f : Ev → M D} : ∀ (De : Ends) (σ : L2.St) (H : Hp), tS w W (sSet i f) De σ H → tAsg (tP w W f) (gName i) De σ H := by
  rintro De σ H ⟨G, F, env, c, S, q⟩
  refine ⟨G, F, env, c, S, (PostS.bnd (R1 := RD w) S q).imp (fun _ _ _ _ _ z => z) ?_⟩
  rintro v H1 ⟨F1, d, c1, s1, S1, r1, q1⟩
  exact q1 F1 _ H1 Fr.refl (S1.setFz r1)
theorem rd_setO {i : Nat} {f : Ev → M (List D)} : ∀ (De : Ends) (σ : L2.St) (H : Hp), tS w W (sSetO i f) De σ H → tAsg (tF w W f) (gName i) De σ H := by
  rintro De σ H ⟨G, F, env, c, S, q⟩
  refine ⟨G, F, env, c, S, (PostS.bnd (R1 := RF w) S q).imp (fun _ _ _ _ _ z => z) ?_⟩
  rintro v H1 ⟨F1, ds, c1, s1, S1, ⟨a, xs, e, hn, hF, ha, hd⟩, q1⟩
  subst e
  refine q1 F1 _ H1 Fr.refl (S1.setOw ha hd hF (fun z => ?_) ?_ fun j es e1 e2 => ?_)
  · have := S.cup a z
    rw [hn] at this; cases this
  · cases e : G.H0 a with
    | none => rfl
    | some o =>
      obtain ⟨o', z⟩ := S.there a o e
      rw [hn] at z; cases z
  · obtain ⟨b, ys, h1, h2, _⟩ := S.slot j _ e1
    rw [e2] at h1
    cases h1
    rw [hn] at h2; cases h2
theorem ps_s {i : Nat} {x : Str} {pos' : Pos} {f : Ev → M D} (C : Ctx X w W k) (hi : X.N[i]? = some x) (hx : Loc X.env.scope x) (he : PE X e (tP w W f)) (hs : swapsWith e (some (.Name x pos')) pos.line X.env = pure false := by rfl)
    (hf : X.fn x = true ∨ X.env.scope.names.lookup x = some .local := by first | exact .inl rfl | exact .inr rfl | assumption) : PS X (.Assign [.Name x pos'] e pos) (tS w W (sSet i f)) := PS.imp (ps_set C.nd hi hx he hs hf) rd_set
theorem ps_so {i : Nat} {x : Str} {pos' : Pos} {f : Ev → M (List D)} (C : Ctx X w W k) (hi : X.N[i]? = some x) (hx : Loc X.env.scope x) (he : PE X e (tF w W f)) (hs : swapsWith e (some (.Name x pos')) pos.line X.env = pure false := by rfl)
    (hf : X.fn x = true ∨ X.env.scope.names.lookup x = some .local := by first | exact .inl rfl | exact .inr rfl | assumption) : PS X (.Assign [.Name x pos'] e pos) (tS w W (sSetO i f)) := PS.imp (ps_set C.nd hi hx he hs hf) rd_setO
/-- a target of any form -/
def sAsg (t : Tg) (f : Ev → M D) : MS := fun env c => (f env c).bnd fun d c1 => (ofO (bindT t d env) c1).bnd fun env1 c2 => .ok (.nx, env1) c2
theorem ps_a {t : Tg} {f : Ev → M D} (he : PE X e (tP w W f)) (hg : PG X tg (tG w t)) (hs : swapsWithSole [tg] e pos.line X.env = pure false := by rfl) (hw : swappedStores [tg] e X.env = pure none := by rfl)
    (h1 : (assignEach [tg] X.env).map (·.2) = [assign tg X.env] := by rfl) : PS X (.Assign [tg] e pos) (tS w W (sAsg t f)) := PS.imp (ps_asg he hg hs hw h1) fun De σ H ⟨G, F, env, c, S, q⟩ => by
  refine ⟨G, F, env, c, S, (PostS.bnd (R1 := RD w) S q).imp (fun _ _ _ _ _ z => z) ?_⟩
  rintro v H1 ⟨F1, d, c1, s1, S1, r1, q1⟩
  cases hb : bindT t d env with
  | none => rw [hb] at q1; exact q1.elim
  | some env1 =>
    rw [hb] at q1
    exact ⟨G, F1, env, c1, d, env1, S1, r1, hb, fun σ' _ S' => q1 F1 σ' H1 Fr.refl S'⟩
/-- a, b = e1, e2 -/
def sPar (i j : Nat) (f : Ev → M (List D)) : MS := fun env c => (f env c).bnd fun ds c1 => match ds with
  | [d, e] => .ok (.nx, (env.set i (.fz d)).set j (.fz e)) c1
  | _ => .bad
theorem ps_p {i j : Nat} {x y : Str} {px py pt : Pos} {kt k2 pt2} {f : Ev → M (List D)} (C : Ctx X w W k) (hi : X.N[i]? = some x) (hj : X.N[j]? = some y) (hij : i ≠ j)
    (hx : X.env.scope.names.lookup x = some .local) (hy : X.env.scope.names.lookup y = some .local) (ha : PA X [a, b] (tA w W f))
    (hw : swappedStores [.Tuple [.Name x px, .Name y py] kt pt] (.Tuple [a, b] k2 pt2) X.env = pure (some [x, y]))
    (hs : swapsWithSole [.Tuple [.Name x px, .Name y py] kt pt] (.Tuple [a, b] k2 pt2) pos.line X.env = pure false := by rfl) :
    PS X (.Assign [.Tuple [.Name x px, .Name y py] kt pt] (.Tuple [a, b] k2 pt2) pos) (tS w W (sPar i j f)) := PS.imp (ps_par C.calm C.nd hi hj hij hx hy ha hw hs) fun De σ H ⟨G, F, env, c, S, q⟩ => by
  refine ⟨G, F, env, c, S, (PostS.bnd (R1 := RDs w) S q).imp (fun _ _ _ _ _ z => z) ?_⟩
  rintro v H1 ⟨F1, ds, c1, s1, S1, r1, q1⟩
  match ds, r1, q1 with
  | [d, e], r1, q1 =>
    cases r1 with
    | cons ra rr =>
      cases rr with
      | cons rb rr =>
        cases rr
        exact ⟨_, _, rfl, q1 F1 _ H1 Fr.refl ((S1.setFz ra).setFz rb)⟩
  | [], r1, q1 => exact q1.elim
  | [_], r1, q1 => exact q1.elim
  | _ :: _ :: _ :: _, r1, q1 => exact q1.elim
def sRet (f : Ev → M D) : MS := fun env c => (f env c).bnd fun d c1 => .ok (.ret d, env) c1
theorem ps_r {f : Ev → M D} (he : PE X e (tP w W f)) : PS X (.Return (some e) pos) (tS w W (sRet f)) := PS.imp (ps_ret he) fun De σ H ⟨G, F, env, c, S, q⟩ => by
  refine ⟨G, F, env, c, S, (PostS.bnd (R1 := RD w) S q).imp (fun _ _ _ _ _ z => z) ?_⟩
  rintro v H1 ⟨F1, d, c1, s1, S1, r1, q1⟩
  exact q1 F1 σ env v H1 Fr.refl S1 r1
def sExpr (f : Ev → M D) : MS := fun env c => (f env c).bnd fun _ c1 => .ok (.nx, env) c1
theorem ps_e {f : Ev → M D} (he : PE X e (tP w W f)) (hs : swapsWith e none pos.line X.env = pure false := by rfl) : PS X (.Expr e pos) (tS w W (sExpr f)) := PS.imp (ps_expr he hs) fun De σ H ⟨G, F, env, c, S, q⟩ => by
  refine ⟨G, F, env, c, S, (PostS.bnd (R1 := RD w) S q).imp (fun _ _ _ _ _ z => z) ?_⟩
  rintro v H1 ⟨F1, d, c1, s1, S1, r1, q1⟩
  exact q1 F1 σ H1 Fr.refl S1
def sPass : MS := fun env c => .ok (.nx, env) c
def sCont : MS := fun env c => .ok (.ct, env) c
def sBrk : MS := fun env c => .ok (.bk, env) c
theorem ps_pa : PS X (.Pass pos) (tS w W sPass) := PS.imp ps_pass fun De σ H ⟨G, F, env, c, S, q⟩ => q F σ H Fr.refl S
theorem ps_co : PS X (.Continue pos) (tS w W sCont) := PS.imp ps_continue fun De σ H ⟨G, F, env, c, S, q⟩ => q F σ H Fr.refl S
theorem ps_br : PS X (.Break pos) (tS w W sBrk) := PS.imp ps_break fun De σ H ⟨G, F, env, c, S, q⟩ => q F σ H Fr.refl S
/-- a list of the frame's own, frozen from here on -/
def sFrz (j : Nat) (g : MS) : MS := fun env c => match env[j]? with
  | some (.ow ds) => g (env.set j (.fz (.lst ds))) c
  | _ => g env c
theorem ps_fr {j : Nat} (h1 : PS X st (tS w W g)) : PS X st (tS w W (sFrz j g)) := PS.imp h1 fun De σ H ⟨G, F, env, c, S, q⟩ => by
  unfold sFrz at q
  split at q
  · rename_i ds hj
    obtain ⟨a, xs, h1, h2, h3, h4, h5, h6⟩ := S.slot j _ hj
    have fr : Fr F H (addF F a) H := ⟨fun _ h => .inl h, fun _ _ _ h _ => h⟩
    have hi : j < σ.length := by rw [S.len]; exact (List.getElem?_eq_some_iff.mp hj).1
    have S2 : SR w G (addF F a) σ (env.set j (.fz (.lst ds))) c H := by
      refine ⟨by simp [S.len], fun l s e => ?_, fun l m us es b ne e1 e2 e3 e4 => ?_, S.cup, fun b e f => ?_, S.tabs, fun b f => ?_, fun b f => ?_, S.ext, S.there⟩
      · by_cases hl : l = j
        · subst hl
          rw [List.getElem?_set_self (by rw [← S.len]; exact hi)] at e
          cases e
          exact ⟨.ref a, h1, .lst (.inr rfl) h2 (h3.mono fr)⟩
        · rw [List.getElem?_set_ne (Ne.symm hl)] at e
          have q := S.slot l s e
          cases s with
          | no => trivial
          | fz d =>
            obtain ⟨v, e1, e2⟩ := q
            exact ⟨v, e1, e2.mono fr⟩
          | ow us =>
            obtain ⟨b, ys, e1, e2, e3, e4, e5, e6⟩ := q
            refine ⟨b, ys, e1, e2, e3.mono fr, fun f => ?_, e5, e6⟩
            rcases f with f | f
            · exact e4 f
            · subst f
              exact S.apart l j us ds b hl e hj e1 h1
      · have hl : l ≠ j := fun z => by
          subst z
          rw [List.getElem?_set_self (by rw [← S.len]; exact hi)] at e1
          cases e1
        have hm : m ≠ j := fun z => by
          subst z
          rw [List.getElem?_set_self (by rw [← S.len]; exact hi)] at e2
          cases e2
        rw [List.getElem?_set_ne (Ne.symm hl)] at e1
        rw [List.getElem?_set_ne (Ne.symm hm)] at e2
        exact S.apart l m us es b ne e1 e2 e3 e4
      · rcases f with f | f
        · exact S.cupF b e f
        · subst f; exact h5 e
      · rcases f with f | f
        · exact S.dom b f
        · subst f; exact ⟨_, h2⟩
      · rcases f with f | f
        · exact S.sub b f
        · subst f; exact .inr h6
    exact ⟨G, addF F a, _, c, S2, q.shift fr⟩
  · exact ⟨G, F, env, c, S, q⟩
/-- name op= e -/
def sAug (i : Nat) (op : D → D → Option D) (f : Ev → M D) : MS := fun env c => match env[i]? with
  | some (.fz d) => (f env c).bnd fun e c1 => (ofO (op d e) c1).bnd fun z c2 => .ok (.nx, env.set i (.fz z)) c2
  | _ => .bad
theorem ps_ag {i : Nat} {x : Str} {o : Operator} {r : R2} {op : D → D → Option D} {pos' : Pos} {f : Ev → M D} (C : Ctx X w W k) (hi : X.N[i]? = some x) (hx : Loc X.env.scope x) (ho : OpR X (inplaceOp o) r) (hr : OpD w r op) (he : PE X e (tB w W f))
    (hf : X.fn x = true ∨ X.env.scope.names.lookup x = some .local := by first | exact .inl rfl | exact .inr rfl | assumption) : PS X (.AugAssign (.Name x pos') o e pos) (tS w W (sAug i op f)) := PS.imp (ps_aug C.nd hi hx he ho hf) fun De σ H ⟨G, F, env, c, S, q⟩ => by
  unfold sAug at q
  split at q
  · rename_i d hd
    obtain ⟨v, h1, h2⟩ := S.slot i _ hd
    refine ⟨v, join_some h1, G, F, env, c, S, (PostS.bnd (R1 := RB w) S q).imp (fun _ _ _ _ _ z => z) ?_⟩
    rintro y H1 ⟨F1, e1, c1, s1, S1, r1, q1⟩
    cases hz : op d e1 with
    | none => rw [hz] at q1; exact q1.elim
    | some z =>
      rw [hz] at q1
      exact hr G.ca F1 H1 v y d e1 z _ S1.cupF S1.dom (.inl (h2.step s1 S.cupF)) r1 hz fun F2 u H2 g r => q1 F2 _ H2 (g.step.fr S1.cupF) ((S1.grow g).setFz r)
  · exact q.elim
/-- x.append(e), x the frame's own list -/
def sApp (i : Nat) (f : Ev → M D) : MS := fun env c => match env[i]? with
  | some (.ow ds) => (f env c).bnd fun d c1 => if decide (ds.length < rMaxLen) then .ok (.nx, env.set i (.ow (ds ++ [d]))) c1 else .bad
  | _ => .bad
theorem SR.ownUpd {G : GS} {F : Addr → Prop} {σ : L2.St} {env : Ev} {c : Cup} {H : Hp} (S : SR w G F σ env c H) {i : Nat} {ds es : List D} {a : Addr} {ys : List V} (hi : env[i]? = some (.ow ds)) (ha : σ[i]?.join = some (.ref a)) (r : DFs w.K G.ca F H ys es) :
    SR w G F σ (env.set i (.ow es)) c (upd H a (.lst ys)) ∧ Fr F H F (upd H a (.lst ys)) := by
  obtain ⟨a', xs, h1, h2, h3, h4, h5, h6⟩ := S.slot i _ hi
  rw [ha] at h1
  cases h1
  have hil : i < σ.length := by rw [S.len]; exact (List.getElem?_eq_some_iff.mp hi).1
  have ne : ∀ {b o}, H b = some o → (∀ zs, o ≠ .lst zs) → b ≠ a := fun {b o} e n z => by
    subst z
    rw [h2] at e
    exact n xs (Option.some.inj e).symm
  have fr : Fr F H F (upd H a (.lst ys)) := ⟨fun _ h => h, fun b o f e _ => by rw [upd_ne (fun z => h4 (by rw [← z]; exact f))]; exact e⟩
  refine ⟨⟨by simp [S.len], fun j s e => ?_, fun j l us vs b n e1 e2 e3 e4 => ?_, fun b e => ?_, S.cupF, ?_, fun b f => ?_, S.sub, fun b o e n t => ?_, fun b o e => ?_⟩, fr⟩
  · by_cases hj : j = i
    · subst hj
      rw [List.getElem?_set_self (by rw [← S.len]; exact hil)] at e
      cases e
      exact ⟨a, ys, ha, upd_same, r.mono fr, h4, h5, h6⟩
    · rw [List.getElem?_set_ne (Ne.symm hj)] at e
      have q := S.slot j s e
      cases s with
      | no => trivial
      | fz d =>
        obtain ⟨v, e1, e2⟩ := q
        exact ⟨v, e1, e2.mono fr⟩
      | ow us =>
        obtain ⟨b, zs, e1, e2, e3, e4, e5, e6⟩ := q
        refine ⟨b, zs, e1, ?_, e3.mono fr, e4, e5, e6⟩
        rw [upd_ne (fun z => by subst z; exact S.apart j i us ds b hj e hi e1 ha)]
        exact e2
  · have hl : ∀ m zs, (env.set i (.ow es))[m]? = some (Sl.ow zs) → ∃ zs', env[m]? = some (Sl.ow zs') := fun m zs e => by
      by_cases hm : m = i
      · subst hm; exact ⟨ds, hi⟩
      · rw [List.getElem?_set_ne (Ne.symm hm)] at e
        exact ⟨zs, e⟩
    obtain ⟨us', e1'⟩ := hl j us e1
    obtain ⟨vs', e2'⟩ := hl l vs e2
    exact S.apart j l us' vs' b n e1' e2' e3 e4
  · rw [upd_ne (fun z => h5 (by rw [← z]; exact e))]
    exact S.cup b e
  · intro pq hp
    obtain ⟨ps, e1, e2, e3⟩ := S.tabs pq hp
    refine ⟨ps, by rw [upd_ne (ne e1 fun zs z => nomatch z)]; exact e1, e2, fun p' cv hcv => ?_⟩
    obtain ⟨c0, e4, e5⟩ := e3 p' cv hcv
    exact ⟨c0, e4, by rw [upd_ne (ne e5 fun zs z => by unfold LamX.CodeO at z; cases z)]; exact e5⟩
  · by_cases hb : b = a
    · rw [hb]; exact ⟨_, upd_same⟩
    · obtain ⟨o, e⟩ := S.dom b f
      exact ⟨o, by rw [upd_ne hb]; exact e⟩
  · rw [upd_ne (fun z => by rw [z, h6] at e; cases e)]
    exact S.ext b o e n t
  · by_cases hb : b = a
    · rw [hb]; exact ⟨_, upd_same⟩
    · obtain ⟨o', e'⟩ := S.there b o e
      exact ⟨o', by rw [upd_ne hb]; exact e'⟩
theorem lt_line {n : Nat} (h : decide (n < rMaxLen) = true) : n < sizeLine := by
  rw [sizeLine_eq]; exact of_decide_eq_true h
theorem ps_app {i : Nat} {x : Str} {p1 p2 p3 : Pos} {f : Ev → M D} (C : Ctx X w W k) (hi : X.N[i]? = some x) (hv : Vis X.env.scope x) (he : PE X e (tP w W f)) (hd : (x == ("__debug__" : Str)) = false := by decide) (hcd : (x == ("__classdict__" : Str)) = false := by decide)
    (hbase : attributeBase (.Name x p1) "append" X.env (eval (.Name x p1) X.env) = eval (.Name x p1) X.env := by rfl)
    (hfew : ((backTo p3 (starEach [e] X.env)).all (fun x => !x.1) && (backToKw p3 (keywordEach [] X.env)).all (fun x => x.1.isSome) && decide ([e].length + ([] : List Keyword).length + (if ([] : List Keyword).isEmpty then 0 else 1) < 30)) = true := by rfl)
    (hline : (p2.endLine == p3.line) = true := by rfl) (hse : starEach [e] X.env = (false, eval e X.env) :: starEach [] X.env := by rfl) (hplain : (backTo p3 (starEach [] X.env)).any (·.1) = false := by rfl)
    (hs : swapsWith (.Call (.Attribute (.Name x p1) "append" p2) [e] [] p3) none pos.line X.env = pure false := by rfl) :
    PS X (.Expr (.Call (.Attribute (.Name x p1) "append" p2) [e] [] p3) pos) (tS w W (sApp i f)) :=
  PS.imp (ps_expr (pe_bm PySem.F.plainAttrs_list PySem.F.slot_list_append PySem.F.type_list_append mt_append (pe_var hi hv hd hcd) (pa_cons he pa_nil hse) hbase hfew hline hse hplain) hs) fun De σ H ⟨G, F, env, c, S, q⟩ => by
    unfold sApp at q
    split at q
    · rename_i ds hds
      obtain ⟨a, xs, h1, h2, h3, h4, h5, h6⟩ := S.slot i _ hds
      refine ⟨.ref a, join_some h1, .inl ⟨rfl, xs, SqL.of h2⟩, G, F, env, c, S, (PostS.bnd (R1 := RD w) S q).imp (fun _ _ _ _ _ z => z) ?_⟩
      rintro v H1 ⟨F1, d, c1, s1, S1, r1, q1⟩
      split at q1
      · rename_i hl
        obtain ⟨a', ys, g1, g2, g3, g4, g5, g6⟩ := S1.slot i _ hds
        rw [h1] at g1
        cases g1
        have hl1 : ys.length < sizeLine := by rw [g3.length]; exact lt_line hl
        refine ⟨a, ys, v, rfl, rfl, g2, hl1, ?_⟩
        obtain ⟨S2, fr⟩ := S1.ownUpd hds h1 (g3.append (.cons r1 .nil))
        exact q1 F1 _ _ fr S2
      · exact q1.elim
    · exact q.elim
/-- x[k] = e, x the frame's own list -/
def sIxSet (i : Nat) (fi f : Ev → M D) : MS := fun env c => (f env c).bnd fun d c1 => match env[i]? with
  | some (.ow ds) => (fi env c1).bnd fun n c2 => match n with
    | .int n => (ofO (ixN ds.length n) c2).bnd fun j c3 => .ok (.nx, env.set i (.ow (ds.set j d))) c3
    | _ => .bad
  | _ => .bad
theorem ps_ix {i : Nat} {x : Str} {p1 p2 : Pos} {fi f : Ev → M D} (C : Ctx X w W k) (hi : X.N[i]? = some x) (hv : Vis X.env.scope x) (he : PE X e (tP w W f)) (ha : PE X a (tB w W fi)) (hd : (x == ("__debug__" : Str)) = false := by decide) (hcd : (x == ("__classdict__" : Str)) = false := by decide)
    (hsub : ∀ v, assign (.Subscript (.Name x p1) a p2) X.env v = (do
      let ov ← holding [v] (eval (.Name x p1) X.env)
      let iv ← holding [v, ov] (eval a X.env)
      standAt p2
      holding [v, ov, iv] (setItem ov iv v)
      release [v, ov, iv] []) := by intro _; rfl)
    (hs : swapsWithSole [.Subscript (.Name x p1) a p2] e pos.line X.env = pure false := by rfl) (hw : swappedStores [.Subscript (.Name x p1) a p2] e X.env = pure none := by rfl)
    (h1 : (assignEach [.Subscript (.Name x p1) a p2] X.env).map (·.2) = [assign (.Subscript (.Name x p1) a p2) X.env] := by rfl) :
    PS X (.Assign [.Subscript (.Name x p1) a p2] e pos) (tS w W (sIxSet i fi f)) :=
  PS.imp (ps_asg he (pg_sub (pe_var hi hv hd hcd) ha set_list hsub) hs hw h1) fun De σ H ⟨G, F, env, c, S, q⟩ => by
    refine ⟨G, F, env, c, S, (PostS.bnd (R1 := RD w) S q).imp (fun _ _ _ _ _ z => z) ?_⟩
    rintro v H1 ⟨F1, d, c1, s1, S1, r1, q1⟩
    split at q1
    · rename_i ds hds
      obtain ⟨a', xs, h1, h2, h3, h4, h5, h6⟩ := S1.slot i _ hds
      refine ⟨.ref a', join_some h1, G, F1, env, c1, S1, (PostS.bnd (R1 := RB w) S1 q1).imp (fun _ _ _ _ _ z => z) ?_⟩
      rintro y H2 ⟨F2, n, c2, s2, S2, r2, q2⟩
      cases n with
      | int n =>
        cases hz : ixN ds.length n with
        | none => simp only [hz] at q2; exact q2.elim
        | some j =>
          simp only [hz] at q2
          obtain ⟨a2, ys, g1, g2, g3, g4, g5, g6⟩ := S2.slot i _ hds
          rw [h1] at g1
          cases g1
          refine ⟨a', ys, n, j, rfl, DB.int r2, g2, by rw [g3.length]; exact hz, ?_⟩
          obtain ⟨S3, fr⟩ := S2.ownUpd hds h1 (g3.set j (r1.step s2 S1.cupF))
          exact q2 F2 _ _ fr S3
      | _ => exact q2.elim
    · exact q1.elim
/-- the cup's item n stored -/
def sCupSet (i n : Nat) (f : Ev → M D) : MS := fun env c => (f env c).bnd fun d c1 => match env[i]?, d with
  | some (.fz .cup), .int z => if decide (n < c1.length) then .ok (.nx, env) (c1.set n z) else .bad
  | _, _ => .bad
theorem SR.cupSet {G : GS} {F : Addr → Prop} {σ : L2.St} {env : Ev} {c c' : Cup} {H : Hp} (S : SR w G F σ env c H) {a : Addr} (ha : G.ca = some a) : SR w G F σ env c' (upd H a (.lst (c'.map V.int))) ∧ Fr F H F (upd H a (.lst (c'.map V.int))) := by
  have hH := S.cup a ha
  have fr : Fr F H F (upd H a (.lst (c'.map V.int))) := ⟨fun _ h => h, fun b o f e _ => by rw [upd_ne (fun z => S.cupF a ha (by rw [← z]; exact f))]; exact e⟩
  have ne : ∀ {b o}, H b = some o → (∀ zs, o ≠ .lst zs) → b ≠ a := fun {b o} e n z => by
    subst z
    rw [hH] at e
    exact n _ (Option.some.inj e).symm
  refine ⟨⟨S.len, fun j s e => ?_, S.apart, fun b e => ?_, S.cupF, ?_, fun b f => ?_, S.sub, fun b o e n t => ?_, fun b o e => ?_⟩, fr⟩
  · have q := S.slot j s e
    cases s with
    | no => trivial
    | fz d =>
      obtain ⟨v, e1, e2⟩ := q
      exact ⟨v, e1, e2.mono fr⟩
    | ow us =>
      obtain ⟨b, zs, e1, e2, e3, e4, e5, e6⟩ := q
      exact ⟨b, zs, e1, by rw [upd_ne (fun z => e5 (by rw [z]; exact ha))]; exact e2, e3.mono fr, e4, e5, e6⟩
  · rw [ha] at e
    cases e
    exact upd_same
  · intro pq hp
    obtain ⟨ps, e1, e2, e3⟩ := S.tabs pq hp
    refine ⟨ps, by rw [upd_ne (ne e1 fun zs z => nomatch z)]; exact e1, e2, fun p' cv hcv => ?_⟩
    obtain ⟨c0, e4, e5⟩ := e3 p' cv hcv
    exact ⟨c0, e4, by rw [upd_ne (ne e5 fun zs z => by unfold LamX.CodeO at z; cases z)]; exact e5⟩
  · obtain ⟨o, e⟩ := S.dom b f
    by_cases hb : b = a
    · rw [hb]; exact ⟨_, upd_same⟩
    · exact ⟨o, by rw [upd_ne hb]; exact e⟩
  · rw [upd_ne (fun z => n (by rw [z]; exact ha))]
    exact S.ext b o e n t
  · by_cases hb : b = a
    · rw [hb]; exact ⟨_, upd_same⟩
    · obtain ⟨o', e'⟩ := S.there b o e
      exact ⟨o', by rw [upd_ne hb]; exact e'⟩
theorem ps_cup {i n : Nat} {x : Str} {p1 p2 : Pos} {f : Ev → M D} (C : Ctx X w W k) (hi : X.N[i]? = some x) (hv : Vis X.env.scope x) (he : PE X e (tP w W f)) (ha : PE X a (tC (.int (n : Int)))) (hd : (x == ("__debug__" : Str)) = false := by decide) (hcd : (x == ("__classdict__" : Str)) = false := by decide)
    (hsub : ∀ v, assign (.Subscript (.Name x p1) a p2) X.env v = (do
      let ov ← holding [v] (eval (.Name x p1) X.env)
      let iv ← holding [v, ov] (eval a X.env)
      standAt p2
      holding [v, ov, iv] (setItem ov iv v)
      release [v, ov, iv] []) := by intro _; rfl)
    (hs : swapsWithSole [.Subscript (.Name x p1) a p2] e pos.line X.env = pure false := by rfl) (hw : swappedStores [.Subscript (.Name x p1) a p2] e X.env = pure none := by rfl)
    (h1 : (assignEach [.Subscript (.Name x p1) a p2] X.env).map (·.2) = [assign (.Subscript (.Name x p1) a p2) X.env] := by rfl) :
    PS X (.Assign [.Subscript (.Name x p1) a p2] e pos) (tS w W (sCupSet i n f)) :=
  PS.imp (ps_asg he (pg_sub (pe_var hi hv hd hcd) ha set_list hsub) hs hw h1) fun De σ H ⟨G, F, env, c, S, q⟩ => by
    refine ⟨G, F, env, c, S, (PostS.bnd (R1 := RD w) S q).imp (fun _ _ _ _ _ z => z) ?_⟩
    rintro v H1 ⟨F1, d, c1, s1, S1, r1, q1⟩
    split at q1
    · rename_i z hds
      split at q1
      · rename_i hn
        have hn' : n < c1.length := of_decide_eq_true hn
        obtain ⟨v', h1, h2⟩ := S1.slot i _ hds
        cases h2 with
        | cup hca =>
          cases r1
          obtain ⟨S2, fr⟩ := S1.cupSet (c' := c1.set n z) hca
          refine ⟨_, join_some h1, _, c1.map V.int, n, n, rfl, rfl, S1.cup _ hca, ?_, ?_⟩
          · simp [ixN, hn']
          · rw [← List.map_set]
            exact q1 F1 _ _ fr S2
      · exact q1.elim
    · exact q1.elim
/-! ### if, for, while -/
def sIf (t : Ev → M Bool) (g h : MS) : MS := fun env c => (t env c).bnd fun b c1 => if b then g env c1 else h env c1
theorem ps_i {t : Ev → M Bool} (hc : PT X a (tT w W t)) (ha : PSs X body (tS w W g)) (hb : PSs X orelse (tS w W h)) : PS X (.If a body orelse pos) (tS w W (sIf t g h)) := PS.imp (ps_if hc ha hb) fun De σ H ⟨G, F, env, c, S, q⟩ => by
  refine ⟨G, F, env, c, S, (PostS.bnd (R1 := RT) S q).imp (fun _ _ _ _ _ z => z) ?_⟩
  rintro b H1 ⟨F1, d, c1, s1, S1, r1, q1⟩
  cases r1
  cases b with
  | true => exact ⟨G, F1, env, c1, S1, q1⟩
  | false => exact ⟨G, F1, env, c1, S1, q1⟩
def forL (t : Tg) (g : MS) : List D → MS
  | [], env, c => .ok (.nx, env) c
  | d :: ds, env, c => (ofO (bindT t d env) c).bnd fun env1 c1 => (g env1 c1).bnd fun r c2 => match r with
    | (.nx, env2) => forL t g ds env2 c2
    | (.ct, env2) => forL t g ds env2 c2
    | (.bk, env2) => .ok (.nx, env2) c2
    | (.ret d, env2) => .ok (.ret d, env2) c2
def sFor (t : Tg) (it : Ev → M (List D)) (g : MS) : MS := fun env c => (it env c).bnd fun ds c1 => forL t g ds env c1
theorem ps_f {t : Tg} {it : Ev → M (List D)} (C : Ctx X w W k) (hi : PI X tg e (tX w W (RI w) it)) (hg : PG X tg (tG w t)) (hb : PSs X body (tS w W g)) (hs : ∀ x, foldedSetIterable e X.env x = pure x := by intro _; rfl) :
    PS X (.For tg e body [] pos) (tS w W (sFor t it g)) := PS.imp (ps_for C.pas C.calm hi hg hb hs) fun De σ H ⟨G, F, env, c, S, q⟩ => by
  refine ⟨G, F, env, c, S, (PostS.bnd (R1 := RI w) S q).imp (fun _ _ _ _ _ z => z) ?_⟩
  rintro J H1 ⟨F1, ds, c1, s1, S1, ⟨Gd, Y, wk, hG, hY⟩, q1⟩
  let Pv : Nat → L2.St → Hp → Prop := fun i σ2 H2 => ∃ F2 env2 c2, Fr F1 H1 F2 H2 ∧ SR w G F2 σ2 env2 c2 H2 ∧ PostS w G W F2 H2 (forL t g (ds.drop i) env2 c2) De
  refine for_it wk Pv ⟨F1, env, c1, Fr.refl, S1, q1⟩ (fun i σ2 H2 hi ⟨F2, env2, c2, f2, _⟩ => hG F2 H2 f2) ?_ ?_
  · rintro i x σ2 H2 H3 hi ⟨F2, env2, c2, f2, S2, q2⟩ y
    rw [List.drop_eq_getElem_cons hi] at q2
    simp only [forL] at q2
    obtain ⟨F3, g3, r3⟩ := hY i H2 x H3 F2 ds[i] (by simp [hi]) f2 S2.dom y
    cases hb : bindT t ds[i] env2 with
    | none => rw [hb] at q2; exact q2.elim
    | some env3 =>
      rw [hb] at q2
      simp only [ofO_some, bnd_ok] at q2
      have f3 : Fr F2 H2 F3 H3 := g3.step.fr S2.cupF
      refine ⟨G, F3, env2, c2, ds[i], env3, S2.grow g3, r3, hb, fun σ3 _ S3 => ⟨G, F3, env3, c2, S3, ?_⟩⟩
      have q3 := q2.shift f3
      match hr : g env3 c2, q3 with
      | .ok (.nx, env4) c4, q3 => exact fun F4 σ4 H4 f4 S4 => ⟨F4, env4, c4, (f2.trans f3).trans f4, S4, PostS.shift q3 f4⟩
      | .ok (.ct, env4) c4, q3 => exact fun F4 σ4 H4 f4 S4 => ⟨F4, env4, c4, (f2.trans f3).trans f4, S4, PostS.shift q3 f4⟩
      | .ok (.bk, env4) c4, q3 => exact q3
      | .ok (.ret d, _) c4, q3 => exact q3
      | .exc e c4, q3 => exact q3
      | .bad, q3 => exact q3
  · rintro σ2 H2 ⟨F2, env2, c2, f2, S2, q2⟩
    rw [List.drop_length] at q2
    exact q2 F2 σ2 H2 Fr.refl S2
def whileL (t : Ev → M Bool) (g : MS) : Nat → MS
  | 0, _, _ => .bad
  | n + 1, env, c => (t env c).bnd fun b c1 => if b then (g env c1).bnd fun r c2 => match r with
      | (.nx, env2) => whileL t g n env2 c2
      | (.ct, env2) => whileL t g n env2 c2
      | (.bk, env2) => .ok (.nx, env2) c2
      | (.ret d, env2) => .ok (.ret d, env2) c2
    else .ok (.nx, env) c1
theorem ps_w {t : Ev → M Bool} (n : Nat) (C : Ctx X w W k) (hc : PT X a (tT w W t)) (hb : PSs X body (tS w W g)) : PS X (.While a body [] pos) (tS w W (whileL t g n)) := PS.imp (ps_while C.pas hc hb) fun De σ H ⟨G, F, env, c, S, q⟩ => by
  let Pv : Nat → L2.St → Hp → Prop := fun m σ2 H2 => ∃ F2 env2 c2, SR w G F2 σ2 env2 c2 H2 ∧ PostS w G W F2 H2 (whileL t g m env2 c2) De
  refine ⟨Pv, ⟨n, F, env, c, S, q⟩, ?_⟩
  rintro m σ2 H2 ⟨F2, env2, c2, S2, q2⟩
  cases m with
  | zero => exact q2.elim
  | succ m =>
    simp only [whileL] at q2
    refine ⟨G, F2, env2, c2, S2, (PostS.bnd (R1 := RT) S2 q2).imp (fun _ _ _ _ _ z => z) ?_⟩
    rintro b H3 ⟨F3, d, c3, s3, S3, r3, q3⟩
    cases r3
    cases b with
    | false =>
      rw [if_neg Bool.false_ne_true] at q3 ⊢
      exact q3 F3 σ2 H3 Fr.refl S3
    | true =>
      rw [if_pos rfl] at q3 ⊢
      refine ⟨Pv m, fun σ' H' h => ⟨m, Nat.lt_succ_self m, h⟩, G, F3, env2, c3, S3, ?_⟩
      match hr : g env2 c3, q3 with
      | .ok (.nx, env4) c4, q3 => exact fun F4 σ4 H4 f4 S4 => ⟨F4, env4, c4, S4, PostS.shift q3 f4⟩
      | .ok (.ct, env4) c4, q3 => exact fun F4 σ4 H4 f4 S4 => ⟨F4, env4, c4, S4, PostS.shift q3 f4⟩
      | .ok (.bk, env4) c4, q3 => exact q3
      | .ok (.ret d, _) c4, q3 => exact q3
      | .exc e c4, q3 => exact q3
      | .bad, q3 => exact q3
/-! ### raise -/
structure ExcD (K : PySem.W.Frag) (mg : Str → Option Value) (x : Str) (C : Addr) : Prop where
  gC : mg x = some (.ref C)
  xC : PySem.W.excIn K C [.type "ValueError", .type "Exception", .type "BaseException", .type "object"] "ValueError.__new__" = true
  kC : PySem.W.keepIn K (.ref C) = true
  bC : PySem.W.subIn K (.ref C) (.type "BaseException") = some true
  tC : PySem.W.typeIn K (.ref C) = some (.type "type")
def sRaise (x : Str) : MS := fun _ c => .exc { nm := x } c
theorem ps_rs {x m : Str} {j : Nat} {C : Addr} {p2 pos2 : Pos} (Cx : Ctx X w W k) (E : ExcD w.K w.mg x C) (hg : Gl X x) (hdb : (x == ("__debug__" : Str)) = false := by decide) :
    PS X (.Raise (some (.Call (.Name x p) [.Constant (.str m) j p2] [] pos)) none pos2) (tS w W (sRaise x)) :=
  PS.imp (L2N.ps_raise Cx.calm Cx.tk (L2N.pmk_own PySem.F.excBase_ValueError (by rw [Cx.hK]; exact E.xC) (by rw [Cx.hmg]; exact E.gC) (by rw [Cx.hK]; exact E.kC) (raises_own (by rw [Cx.hK]; exact E.bC) (by rw [Cx.hK]; exact E.tC)) hg hdb)) fun De σ H ⟨G, F, env, c, S, q⟩ =>
    q F σ env (.ref C) none H Fr.refl S ⟨C, E.gC, rfl, rfl⟩
end
end Hm

set_option Elab.async false
set_option linter.all false
set_option maxRecDepth 100000
/-! # P7: comprehensions as expressions, defs, calls -/
namespace Hm
open PySem PySem.Spec PyProof.Rows L2

section
variable {X : Cx} {w : Wd} {W : XK} {k : Nat} {e a b : Expr} {pos p : Pos} {tg elt iter : Expr} {ifs : List Expr} {scope : Scope} {own : List (Str × Nat)} {t : Tg} {it : Ev → M (List D)} {cond : Ev → M Bool} {el : Ev → M D}
theorem takesN0 {X : Cx} : L2N.Takes X (fun _ _ _ _ => False) := fun _ _ ⟨_, _, _, _, _, _, _, _, _, _, _, _, _, _, _, _, z⟩ => z.elim
theorem Ctx.blk (C : Ctx X w W k) (s : Shared) (H : Hp) (scope : Scope) (cenv : Env) (fp : List Addr) : Ctx (X.blk s H scope cenv fp) w W0 k :=
  ⟨C.hK, C.hmg, takesN0, C.calm, C.nd, C.room, PassesOwn.never⟩
theorem PTs.imp {t t' : TT} (h : PTs X ifs t) (hm : ∀ σ H Q, t' σ H Q → t σ H Q) : PTs X ifs t' := ⟨fun pins s σ H Q I q => h.run pins s σ H Q I (hm σ H Q q)⟩
theorem pts_n : PTs X [] (tT w W cYes) := PTs.imp pts_nil fun σ H Q ⟨G, F, env, c, S, q⟩ => q F true H (Step.refl S.dom) S rfl
theorem pts_1 {g : Ev → M Bool} (h : PT X a (tT w W g)) : PTs X [a] (tT w W g) := pts_one h
theorem pf_lc (C : Ctx X w W k) (hi : PI X tg iter (tX w W (RIB w) it)) (ok : BlkOk X.N X.env.scope scope own) (hix : ∀ i ∈ t.ix, i ∈ own.map (·.2))
    (hg : ∀ (s : Shared) (H : Hp) (Ca : Addr) (cl : List (Str × Addr)) (fp : List Addr), Ctx (X.blk s H scope (compEnvC scope cl Ca X.env) fp) w W0 k → PG (X.blk s H scope (compEnvC scope cl Ca X.env) fp) tg (tG w t))
    (ht : ∀ (s : Shared) (H : Hp) (Ca : Addr) (cl : List (Str × Addr)) (fp : List Addr), Ctx (X.blk s H scope (compEnvC scope cl Ca X.env) fp) w W0 k → PTs (X.blk s H scope (compEnvC scope cl Ca X.env) fp) ifs (tT w W0 cond))
    (he : ∀ (s : Shared) (H : Hp) (Ca : Addr) (cl : List (Str × Addr)) (fp : List Addr), Ctx (X.blk s H scope (compEnvC scope cl Ca X.env) fp) w W0 k → PE (X.blk s H scope (compEnvC scope cl Ca X.env) fp) elt (tP w W0 el))
    (hs : ∀ x, foldedSetIterable iter X.env x = pure x := by intro _; rfl) : PE X (.ListComp elt [⟨tg, iter, ifs, 0⟩] scope pos) (tF w W (cComp (own.map (·.2)) t it cond el)) :=
  PE.imp (pe_lc C.calm C.nd hi ok (fun s H Ca cl fp => hg s H Ca cl fp (C.blk ..)) (fun s H Ca cl fp => ht s H Ca cl fp (C.blk ..)) (fun s H Ca cl fp => he s H Ca cl fp (C.blk ..)) hs) (comp_read hix)
theorem ps_lcO {i : Nat} {y : Str} {py spos : Pos} (C : Ctx X w W k) (hy : X.N[i]? = some y) (hyl : X.env.scope.names.lookup y = some .local) (hsw : swapsWith (.ListComp elt [⟨tg, iter, ifs, 0⟩] scope pos) (some (.Name y py)) spos.line X.env = pure true)
    (hi : PI X tg iter (tX w W (RIB w) it)) (ok : BlkOk X.N X.env.scope scope own) (hix : ∀ i ∈ t.ix, i ∈ own.map (·.2))
    (hg : ∀ (s : Shared) (H : Hp) (Ca : Addr) (cl : List (Str × Addr)) (fp : List Addr), Ctx (X.blk s H scope (compEnvC scope cl Ca X.env) fp) w W0 k → PG (X.blk s H scope (compEnvC scope cl Ca X.env) fp) tg (tG w t))
    (ht : ∀ (s : Shared) (H : Hp) (Ca : Addr) (cl : List (Str × Addr)) (fp : List Addr), Ctx (X.blk s H scope (compEnvC scope cl Ca X.env) fp) w W0 k → PTs (X.blk s H scope (compEnvC scope cl Ca X.env) fp) ifs (tT w W0 cond))
    (he : ∀ (s : Shared) (H : Hp) (Ca : Addr) (cl : List (Str × Addr)) (fp : List Addr), Ctx (X.blk s H scope (compEnvC scope cl Ca X.env) fp) w W0 k → PE (X.blk s H scope (compEnvC scope cl Ca X.env) fp) elt (tP w W0 el))
    (hs : ∀ x, foldedSetIterable iter X.env x = pure x := by intro _; rfl) : PS X (.Assign [.Name y py] (.ListComp elt [⟨tg, iter, ifs, 0⟩] scope pos) spos) (tS w W (sSetO i (cComp (own.map (·.2)) t it cond el))) :=
  PS.imp (ps_setLc C.calm C.nd hy hyl hsw hi ok (fun s H Ca cl fp => hg s H Ca cl fp (C.blk ..)) (fun s H Ca cl fp => ht s H Ca cl fp (C.blk ..)) (fun s H Ca cl fp => he s H Ca cl fp (C.blk ..)) hs) fun De σ H q => comp_read hix _ _ _ (rd_setO De σ H q)
theorem ps_lc {i : Nat} {y : Str} {py spos : Pos} (C : Ctx X w W k) (hy : X.N[i]? = some y) (hyl : X.env.scope.names.lookup y = some .local) (hsw : swapsWith (.ListComp elt [⟨tg, iter, ifs, 0⟩] scope pos) (some (.Name y py)) spos.line X.env = pure true)
    (hi : PI X tg iter (tX w W (RIB w) it)) (ok : BlkOk X.N X.env.scope scope own) (hix : ∀ i ∈ t.ix, i ∈ own.map (·.2))
    (hg : ∀ (s : Shared) (H : Hp) (Ca : Addr) (cl : List (Str × Addr)) (fp : List Addr), Ctx (X.blk s H scope (compEnvC scope cl Ca X.env) fp) w W0 k → PG (X.blk s H scope (compEnvC scope cl Ca X.env) fp) tg (tG w t))
    (ht : ∀ (s : Shared) (H : Hp) (Ca : Addr) (cl : List (Str × Addr)) (fp : List Addr), Ctx (X.blk s H scope (compEnvC scope cl Ca X.env) fp) w W0 k → PTs (X.blk s H scope (compEnvC scope cl Ca X.env) fp) ifs (tT w W0 cond))
    (he : ∀ (s : Shared) (H : Hp) (Ca : Addr) (cl : List (Str × Addr)) (fp : List Addr), Ctx (X.blk s H scope (compEnvC scope cl Ca X.env) fp) w W0 k → PE (X.blk s H scope (compEnvC scope cl Ca X.env) fp) elt (tP w W0 el))
    (hs : ∀ x, foldedSetIterable iter X.env x = pure x := by intro _; rfl) : PS X (.Assign [.Name y py] (.ListComp elt [⟨tg, iter, ifs, 0⟩] scope pos) spos) (tS w W (sSet i (cFz (cComp (own.map (·.2)) t it cond el)))) :=
  PS.imp (ps_setLc C.calm C.nd hy hyl hsw hi ok (fun s H Ca cl fp => hg s H Ca cl fp (C.blk ..)) (fun s H Ca cl fp => ht s H Ca cl fp (C.blk ..)) (fun s H Ca cl fp => he s H Ca cl fp (C.blk ..)) hs) fun De σ H q => comp_read hix _ _ _ (fz_read _ _ _ (rd_set De σ H q))
end

/-! ### defs -/
def PostC (w : Wd) (ca : Option Addr) (F : Addr → Prop) (H : Hp) (r : Res D) (Q : VK) (E : XK) : Prop :=
  match r with
  | .ok d c' => ∀ F' v H', Step ca F H F' H' → CupAt ca c' H' → LamX.Tabs w.T H' → DF w.K ca F' H' v d → Q v H'
  | .exc e c' => ∀ F' cls dd H', Step ca F H F' H' → CupAt ca c' H' → LamX.Tabs w.T H' → ExR w e cls dd H' → E cls dd H'
  | .bad => False
abbrev Fn := List D → M D
def spD (w : Wd) (n : Nat) (fn : Fn) : Sp := fun vs H Q E => ∃ ca F ds c, vs.length = n ∧ DFs w.K ca F H vs ds ∧ CupAt ca c H ∧ (∀ a, ca = some a → ¬ F a) ∧ LamX.Tabs w.T H ∧ (∀ b, F b → ∃ o, H b = some o) ∧ PostC w ca F H (fn ds c) Q E
def startE (n : Nat) (ds : List D) : Ev := ds.map Sl.fz ++ List.replicate (n - ds.length) .no
def runD (n : Nat) (g : MS) : Fn := fun ds c => (g (startE n ds) c).bnd fun r c1 => match r with
  | (.nx, _) => .ok .non c1
  | (.ret d, _) => .ok d c1
  | _ => .bad
theorem SR.start {w : Wd} {ca : Option Addr} {F : Addr → Prop} {H : Hp} {vs : List V} {ds : List D} {c : Cup} (N : List Str) (hv : DFs w.K ca F H vs ds) (hc : CupAt ca c H) (hF : ∀ a, ca = some a → ¬ F a) (ht : LamX.Tabs w.T H) (hd : ∀ b, F b → ∃ o, H b = some o) :
    SR w ⟨ca, H, F⟩ F (L2.start N vs) (startE N.length ds) c H := by
  have hl := hv.length
  have env_fz : ∀ (i : Nat) (us : List D), (startE N.length ds)[i]? = some (.ow us) → False := by
    intro i us e
    unfold startE at e
    by_cases hi : i < ds.length
    · rw [List.getElem?_append_left (by simpa using hi)] at e
      simp [hi] at e
    · rw [List.getElem?_append_right (by simpa using hi)] at e
      have := List.mem_of_getElem? e
      simp at this
  refine ⟨?_, fun i s e => ?_, fun i j us es a _ e1 _ _ _ => (env_fz i us e1).elim, hc, hF, ht, hd, fun b f => .inl f, fun b o e _ _ => e, fun b o e => ⟨o, e⟩⟩
  · unfold L2.start startE
    simp only [List.length_append, List.length_map, List.length_replicate]
    omega
  · unfold startE at e
    unfold L2.start
    by_cases hi : i < ds.length
    · rw [List.getElem?_append_left (by simpa using hi)] at e
      rw [List.getElem?_append_left (by simpa using (by omega : i < vs.length))]
      simp only [List.getElem?_map] at e ⊢
      obtain ⟨v, h1, h2⟩ := hv.get (i := i) (d := ds[i]) (by simp [hi])
      rw [List.getElem?_eq_getElem hi] at e
      rw [h1]
      cases e
      exact ⟨v, rfl, h2⟩
    · rw [List.getElem?_append_right (by simpa using hi)] at e
      have := List.mem_of_getElem? e
      simp only [List.mem_replicate] at this
      rw [this.2]
      trivial
/-- a def of the text that does what fn says, by at most j calls one in another -/
def DefD (P : Program) (wl : World) (base : Heap) (w : Wd) (x : Str) (j n : Nat) (fn : Fn) : Prop :=
  ∃ (f : Addr) (fd : FuncData) (ps : List Str), w.mg x = some (.ref f) ∧ PySem.W.keepIn w.K (.ref f) = true ∧ Binds w.K fd ps [] ∧ ps.length = n ∧ FnOk P wl w.K w.mg base (L2N.CX P wl) j f fd ps (spD w n fn)
section
variable {P : Program} {wl : World} {base : Heap} {w : Wd}
theorem PostS.fin {ca : Option Addr} {F : Addr → Prop} {H : Hp} {n : Nat} {g : MS} {ds : List D} {c : Cup} {Q : VK} {E : XK} (q : PostC w ca F H (runD n g ds c) Q E) : PostS w ⟨ca, H, F⟩ E F H (g (startE n ds) c) { nx := fun _ H' => Q .non H', rt := Q } := by
  have st : ∀ {F' : Addr → Prop} {σ' : L2.St} {H' : Hp} {env' : Ev} {c' : Cup}, Fr F H F' H' → SR w ⟨ca, H, F⟩ F' σ' env' c' H' → Step ca F H F' H' := fun f S => ⟨f.1, fun b o e n t => S.ext b o e n t, S.there, S.sub, S.dom⟩
  unfold runD at q
  match hr : g (startE n ds) c, q with
  | .ok (.nx, env') c', q => exact fun F' σ' H' f' S' => q F' .non H' (st f' S') S'.cup S'.tabs .non
  | .ok (.bk, env') c', q => exact q.elim
  | .ok (.ct, env') c', q => exact q.elim
  | .ok (.ret d, _) c', q => exact fun F' σ' env' v H' f' S' r => q F' v H' (st f' S') S'.cup S'.tabs r
  | .exc e c', q => exact fun F' σ' env' cls dd H' f' S' r => q F' cls dd H' (st f' S') S'.cup S'.tabs r
  | .bad, q => exact q
/-- THE RULE for a def -/
theorem fnD {x qual : Str} {st : Stmt} {f : Addr} {fd : FuncData} {N ps : List Str} {k : Nat} {g : MS} (F : Fun w.K x qual st f fd) (S : FnScope N ps (defScope st))
    (hbody : ∀ (cdv : Value) (A : Around) (outer : List Env) (s : Shared) (H : Hp) (E : XK), Ctx (cxOf (L2N.CX P wl) P wl w.K w.mg base N qual (defScope st) f cdv A outer s H E) w E k →
      PSs (cxOf (L2N.CX P wl) P wl w.K w.mg base N qual (defScope st) f cdv A outer s H E) (defBody st) (tS w E g)) :
    FnOk P wl w.K w.mg base (L2N.CX P wl) (k + 1) f fd ps (spD w ps.length (runD N.length g)) := by
  obtain ⟨oc, od, kV, doc, pm, an, cdv, ct, osl, rfl, lk, hcd⟩ := F.ex
  refine fn_of lk hcd S (fun vs H Q E h => ?_) (fun A outer s H vs Q E hr h => ⟨tS w E g, hbody cdv A outer s H E ⟨rfl, rfl, L2N.takes_of rfl rfl rfl rfl, rfl, S.nd, hr, passes_of rfl⟩, ?_⟩)
  · obtain ⟨_, _, _, _, h, _⟩ := h
    exact h
  · obtain ⟨ca, F, ds, c, hl, hv, hc, hF, ht, hd, q⟩ := h
    exact ⟨⟨ca, H, F⟩, F, startE N.length ds, c, SR.start N hv hc hF ht hd, PostS.fin q⟩
theorem FnOk.fn {f : Addr} {fd : FuncData} {ps : List Str} {k n : Nat} {fn fn' : Fn} (h : FnOk P wl w.K w.mg base (L2N.CX P wl) k f fd ps (spD w n fn)) (e : ∀ ds c, fn' ds c ≠ .bad → fn ds c = fn' ds c) : FnOk P wl w.K w.mg base (L2N.CX P wl) k f fd ps (spD w n fn') :=
  h.imp fun vs H Q E ⟨ca, F, ds, c, hl, hv, hc, hF, ht, hd, q⟩ => ⟨ca, F, ds, c, hl, hv, hc, hF, ht, hd, by
    by_cases hb : fn' ds c = .bad
    · rw [hb] at q; exact q.elim
    · rw [e ds c hb]; exact q⟩
theorem DefD.fn {x : Str} {j n : Nat} {fn fn' : Fn} (h : DefD P wl base w x j n fn) (e : ∀ ds c, fn' ds c ≠ .bad → fn ds c = fn' ds c) : DefD P wl base w x j n fn' := by
  obtain ⟨f, fd, ps, h1, h2, h3, h4, h5⟩ := h
  exact ⟨f, fd, ps, h1, h2, h3, h4, FnOk.fn h5 e⟩
end
section
variable {X : Cx} {w : Wd} {W : XK} {k : Nat} {e : Expr} {pos p : Pos}
def cDef (fn : Fn) (f : Ev → M (List D)) : Ev → M D := fun env c => (f env c).bnd fun ds c1 => fn ds c1
/-- a call of a def -/
theorem pp_call {x : Str} {j n : Nat} {fn : Fn} {f : Ev → M (List D)} {es : List Expr} (C : Ctx X w W k) (Dd : DefD X.prog X.w X.base w x j n fn) (hj : j ≤ k) (hn : (e :: es).length = n) (hg : Gl X x) (ha : PA X (e :: es) (tA w W f))
    (hlen : ∀ env c ds c', f env c = .ok ds c' → ds.length = n)
    (hdb : (x == ("__debug__" : Str)) = false := by decide) (he : starEach (e :: es) X.env = (false, eval e X.env) :: starEach es X.env := by rfl) (hpl : (backTo pos (starEach es X.env)).any (·.1) = false := by rfl) :
    PE X (.Call (.Name x p) (e :: es) [] pos) (tP w W (cDef fn f)) := by
  obtain ⟨fa, fd, ps, h1, h2, h3, h4, h5⟩ := Dd
  have hK := C.hK
  have hmg := C.hmg
  rw [← hK] at h2 h3
  rw [← hK, ← hmg] at h5
  rw [← hmg] at h1
  refine PE.imp (pe_call h5 (C.room.mono hj) hg h1 h2 h3 .nil (L2N.passes_call (E := W) C.tk fun _ _ _ _ h => h) ha hdb he hpl) fun σ H Q ⟨G, F, env, c, S, q⟩ => ?_
  refine ⟨G, F, env, c, S, ?_⟩
  cases hr : f env c with
  | bad => unfold cDef at q; rw [hr] at q; exact q
  | exc e c' => unfold cDef at q; rw [hr] at q; exact q
  | ok ds c1 =>
    intro F1 vs H1 s1 S1 r1
    have hl := hlen env c ds c1 hr
    unfold cDef at q
    rw [hr] at q
    simp only [bnd_ok] at q
    show spD w n fn (vs ++ []) H1 Q W
    rw [List.append_nil]
    have q1 := Post.shift (R := RD w) sh_RD q s1
    refine ⟨G.ca, F1, ds, c1, by rw [DFs.length r1]; exact hl, r1, S1.cup, S1.cupF, S1.tabs, S1.dom, ?_⟩
    cases hz : fn ds c1 with
    | bad => rw [hz] at q1; exact q1
    | ok d c2 =>
      rw [hz] at q1
      exact fun F' v H' s hc ht r => q1 F' v H' s (S1.step s hc ht) r
    | exc e c2 =>
      rw [hz] at q1
      exact fun F' cls dd H' s hc ht r => q1 F' cls dd H' s (S1.step s hc ht) r
theorem len_nil : ∀ (env : Ev) (c : Cup) (ds : List D) (c' : Cup), cNil env c = .ok ds c' → ds.length = 0 := fun env c ds c' h => by cases h; rfl
theorem len_cons {f : Ev → M D} {g : Ev → M (List D)} {n : Nat} (h : ∀ env c ds c', g env c = .ok ds c' → ds.length = n) : ∀ (env : Ev) (c : Cup) (ds : List D) (c' : Cup), cCons f g env c = .ok ds c' → ds.length = n + 1 := by
  intro env c ds c' e
  unfold cCons at e
  cases h1 : f env c with
  | ok d c1 =>
    rw [h1] at e
    simp only [bnd_ok] at e
    cases h2 : g env c1 with
    | ok es c2 =>
      rw [h2] at e
      cases e
      simp [h _ _ _ _ h2]
    | exc _ _ => rw [h2] at e; cases e
    | bad => rw [h2] at e; cases e
  | exc _ _ => rw [h1] at e; cases e
  | bad => rw [h1] at e; cases e
end
end Hm

set_option Elab.async false
set_option linter.all false
set_option maxRecDepth 100000
/-! # P8: chains, orders, in-place operators, new lists by +, names of built-ins -/
namespace Hm
open PySem PySem.Spec PyProof.Rows L2
theorem bb_len : bootBuiltins "len" = some (.builtin "len") := by decide +kernel
theorem bb_abs : bootBuiltins "abs" = some (.builtin "abs") := by decide +kernel
theorem bb_max : bootBuiltins "max" = some (.builtin "max") := by decide +kernel
theorem bb_min : bootBuiltins "min" = some (.builtin "min") := by decide +kernel
theorem bb_sum : bootBuiltins "sum" = some (.builtin "sum") := by decide +kernel
theorem bb_all : bootBuiltins "all" = some (.builtin "all") := by decide +kernel
theorem bb_any : bootBuiltins "any" = some (.builtin "any") := by decide +kernel
theorem bb_int : bootBuiltins "int" = some (.type "int") := by decide +kernel
theorem bb_bool : bootBuiltins "bool" = some (.type "bool") := by decide +kernel
theorem bb_str : bootBuiltins "str" = some (.type "str") := by decide +kernel
theorem bb_tuple : bootBuiltins "tuple" = some (.type "tuple") := by decide +kernel
theorem bb_list : bootBuiltins "list" = some (.type "list") := by decide +kernel
section
variable {X : Cx} {w : Wd} {W : XK} {k : Nat} {e a b c₀ : Expr} {pos p : Pos}
/-! ### a chain of two comparisons -/
def cChain (op op' : D → D → Option D) (fa fb fc : Ev → M D) : Ev → M D := fun env c => (fa env c).bnd fun d c1 => (fb env c1).bnd fun e c2 => (ofO (op d e) c2).bnd fun t c3 => match t with
  | .bl true => (fc env c3).bnd fun g c4 => ofO (op' e g) c4
  | .bl false => .ok (.bl false) c3
  | _ => .bad
theorem chain_op {r r' : R2} {op op' : D → D → Option D} {fa fb fc : Ev → M D} (hr : OpD w r op) (hr' : OpD w r' op') : ∀ (σ : L2.St) (H : Hp) (Q : VK), tP w W (cChain op op' fa fb fc) σ H Q → tChain r r' (tB w W fa) (tB w W fb) (tB w W fc) σ H Q := by
  rintro σ H Q ⟨G, F, env, c, S, q⟩
  refine ⟨G, F, env, c, S, (Post.bnd (R1 := RB w) sh_RD q).imp (fun _ _ _ _ _ z => z) ?_⟩
  rintro x H1 ⟨F1, d, c1, s1, S1, r1, q1⟩
  refine ⟨G, F1, env, c1, S1, (Post.bnd (R1 := RB w) sh_RD q1).imp (fun _ _ _ _ _ z => z) ?_⟩
  rintro y H2 ⟨F2, e, c2, s2, S2, r2, q2⟩
  cases hz : op d e with
  | none => rw [hz] at q2; exact q2.elim
  | some t =>
    rw [hz] at q2
    simp only [ofO_some, bnd_ok] at q2
    refine hr G.ca F2 H2 x y d e t _ S2.cupF S2.dom (DB.step r1 s2 S1.cupF) r2 hz fun F3 v H3 g3 r3 => ?_
    have S3 := S2.grow g3
    have q3 := Post.shift (R := RD w) sh_RD q2 g3.step
    cases t with
    | bl t =>
      cases r3
      refine ⟨t, rfl, ?_⟩
      cases t with
      | false =>
        rw [if_neg Bool.false_ne_true]
        exact q3 F3 _ H3 (Step.refl S3.dom) S3 (.bl false)
      | true =>
        rw [if_pos rfl]
        refine ⟨G, F3, env, c2, S3, (Post.bnd (R1 := RB w) sh_RD q3).imp (fun _ _ _ _ _ z => z) ?_⟩
        rintro u H4 ⟨F4, g, c4, s4, S4, r4, q4⟩
        cases hz' : op' e g with
        | none => rw [hz'] at q4; exact q4.elim
        | some z =>
          rw [hz'] at q4
          exact hr' G.ca F4 H4 y u e g z Q S4.cupF S4.dom (DB.step (DB.step r2 g3.step S2.cupF) s4 S3.cupF) r4 hz' (Post.val S4 q4)
    | _ => exact q3.elim
theorem pp_chain {o o' : CmpOp} {r r' : R2} {op op' : D → D → Option D} {fa fb fc : Ev → M D} (ho : OpR X (compareOp o) r) (hr : OpD w r op) (ho' : OpR X (compareOp o') r') (hr' : OpD w r' op')
    (ha : PE X a (tB w W fa)) (hb : PE X b (tB w W fb)) (hc : PE X c₀ (tB w W fc)) (hm : lastMarks [o, o'] [b, c₀] = false := by with_unfolding_all rfl) :
    PE X (.Compare a [o, o'] [b, c₀] pos) (tP w W (cChain op op' fa fb fc)) := PE.imp (pe_chain ho ho' ha hb hc hm) (chain_op hr hr')
/-- a comparison as a test -/
def cTb (f : Ev → M D) : Ev → M Bool := fun env c => (f env c).bnd fun d c1 => match d with
  | .bl b => .ok b c1
  | _ => .bad
theorem tb_read {f : Ev → M D} : ∀ (σ : L2.St) (H : Hp) (Q : Bool → Hp → Prop), tT w W (cTb f) σ H Q → tP w W f σ H (fun x H' => ∃ k, x = .bl k ∧ Q k H') := by
  rintro σ H Q ⟨G, F, env, c, S, q⟩
  refine ⟨G, F, env, c, S, (Post.bnd (R1 := RD w) sh_RT q).imp (fun _ _ _ _ _ z => z) ?_⟩
  rintro x H1 ⟨F1, d, c1, s1, S1, r1, q1⟩
  cases d with
  | bl b =>
    cases r1
    exact ⟨b, rfl, q1 F1 b H1 (Step.refl S1.dom) S1 rfl⟩
  | _ => exact q1.elim
theorem pt_cmp {o : CmpOp} {r : R2} {op : D → D → Option D} {fa fb : Ev → M D} (ho : OpR X (compareOp o) r) (hr : OpD w r op) (hm : behindInMarks o b = false) (ha : PE X a (tB w W fa)) (hb : PE X b (tB w W fb)) :
    PT X (.Compare a [o] [b] pos) (tT w W (cTb (cBin op fa fb))) := PT.imp (pt_cmpR ho ha hb hm) fun σ H Q q => two_op (a := a) (b := b) hr σ H _ (tb_read σ H Q q)
theorem pt_chn {o o' : CmpOp} {r r' : R2} {op op' : D → D → Option D} {fa fb fc : Ev → M D} (ho : OpR X (compareOp o) r) (hr : OpD w r op) (ho' : OpR X (compareOp o') r') (hr' : OpD w r' op')
    (ha : PE X a (tB w W fa)) (hb : PE X b (tB w W fb)) (hc : PE X c₀ (tB w W fc)) (hm : lastMarks [o, o'] [b, c₀] = false := by with_unfolding_all rfl) :
    PT X (.Compare a [o, o'] [b, c₀] pos) (tT w W (cTb (cChain op op' fa fb fc))) := PT.imp (pt_chain ho ho' ha hb hc hm) fun σ H Q q => chain_op hr hr' σ H _ (tb_read σ H Q q)
/-! ### < of ints, of tuples of ints -/
def dLt : D → D → Option D
  | .int i, .int j => some (.bl (decide (i < j)))
  | .tup xs, .tup ys => (intsOf xs).bind fun ns => (intsOf ys).map fun ms => .bl (HT.lexLt ns ms)
  | _, _ => none
def rLtD (K : PySem.W.Frag) : R2 := fun x y H Q => (∃ i j, x = .int i ∧ y = .int j ∧ Q (.bl (decide (i < j))) H) ∨ rLtT K x y H Q
theorem opr_lt (hu : X.A.units < cLine) : OpR X (compareOp .Lt) (rLtD X.K) := op_lt.or (op_ltT hu)
theorem opd_lt : OpD w (rLtD w.K) dLt := by
  intro ca F H x y d e z Q hc hd hx hy hz q
  unfold dLt at hz
  split at hz
  · cases hz
    rw [hx.int, hy.int]
    exact .inl ⟨_, _, rfl, rfl, q F _ H (Grow.refl hd) (.bl _)⟩
  · rename_i xs ys
    cases h1 : intsOf xs with
    | none => rw [h1] at hz; cases hz
    | some ns =>
      cases h2 : intsOf ys with
      | none => rw [h1, h2] at hz; cases hz
      | some ms =>
        rw [h1, h2] at hz
        cases hz
        obtain ⟨a, us, rfl, ha, ra⟩ := hx.tup.tupS
        obtain ⟨b, vs, rfl, hb, rb⟩ := hy.tup.tupS
        rw [intsOf_map h1] at ra
        rw [intsOf_map h2] at rb
        rw [DFs.ofInts ra] at ha
        rw [DFs.ofInts rb] at hb
        exact .inr ⟨a, b, ns, ms, rfl, rfl, ha, hb, q F _ H (Grow.refl hd) (.bl _)⟩
  · cases hz
/-! ### in place -/
def dAddI : D → D → Option D
  | .int i, .int j => some (.int (i + j))
  | .str x, .str y => if x.length + y.length ≤ rMaxLen then some (.str (x ++ y)) else none
  | _, _ => none
theorem iopr_add : OpR X (inplaceOp .Add) (fun x y H Q => (∃ i j, x = .int i ∧ y = .int j ∧ Q (.int (i + j)) H) ∨ (∃ i j, x = .str i ∧ y = .str j ∧ i.length + j.length ≤ sizeLine ∧ Q (.str (i ++ j)) H)) := iop_add.or iop_add_str
theorem opd_addI : OpD w (fun x y H Q => (∃ i j, x = .int i ∧ y = .int j ∧ Q (.int (i + j)) H) ∨ (∃ i j, x = .str i ∧ y = .str j ∧ i.length + j.length ≤ sizeLine ∧ Q (.str (i ++ j)) H)) dAddI := by
  intro ca F H x y d e z Q hc hd hx hy hz q
  unfold dAddI at hz
  split at hz
  · cases hz
    rw [hx.int, hy.int]
    exact .inl ⟨_, _, rfl, rfl, q F _ H (Grow.refl hd) (.int _)⟩
  · split at hz
    · rename_i hl
      cases hz
      rw [hx.str, hy.str]
      exact .inr ⟨_, _, rfl, rfl, line_le hl, q F _ H (Grow.refl hd) (.str _)⟩
    · cases hz
  · cases hz
theorem iop_mulW : OpR X (inplaceOp .Mult) (rI CMulW fun i j => .int (i * j)) := opI fun _ _ _ _ _ _ _ hc q => imul_int q hc.ok
def dMulI : D → D → Option D
  | .int i, .int j => if mulOk i j then some (.int (i * j)) else none
  | _, _ => none
theorem iopr_mul : OpR X (inplaceOp .Mult) (fun x y H Q => rI CMul (fun i j => .int (i * j)) x y H Q ∨ rI CMulW (fun i j => .int (i * j)) x y H Q) := iop_mul.or iop_mulW
theorem opd_mulI : OpD w (fun x y H Q => rI CMul (fun i j => .int (i * j)) x y H Q ∨ rI CMulW (fun i j => .int (i * j)) x y H Q) dMulI := by
  intro ca F H x y d e z Q hc hd hx hy hz q
  unfold dMulI at hz
  split at hz
  · rename_i i j
    split at hz
    · rename_i ho
      cases hz
      rw [hx.int, hy.int]
      unfold mulOk at ho
      simp only [Bool.or_eq_true, decide_eq_true_eq] at ho
      have fin := q F _ H (Grow.refl hd) (.int (i * j))
      rcases ho with (h | h) | h
      · exact .inl ⟨_, _, rfl, rfl, .inl ⟨by omega, by omega⟩, fin⟩
      · exact .inl ⟨_, _, rfl, rfl, .inr ⟨by omega, by omega⟩, fin⟩
      · exact .inr ⟨_, _, rfl, rfl, h, fin⟩
    · cases hz
  · cases hz
/-! ### xs + ys, a new list -/
def cCat (fa fb : Ev → M D) : Ev → M (List D) := fun env c => (fa env c).bnd fun d c1 => (fb env c1).bnd fun e c2 => match d, e with
  | .lst xs, .lst ys => if xs.length + ys.length ≤ rMaxLen then .ok (xs ++ ys) c2 else .bad
  | _, _ => .bad
theorem pf_cat {fa fb : Ev → M D} (ha : PE X a (tB w W fa)) (hb : PE X b (tB w W fb)) : PE X (.BinOp a .Add b pos) (tF w W (cCat fa fb)) := PE.imp (pe_op op_cat ha hb) fun σ H Q ⟨G, F, env, c, S, q⟩ => by
  have h := Post.two (R2 := RF w) (kk := fun d e c2 => match d, e with
    | .lst xs, .lst ys => if xs.length + ys.length ≤ rMaxLen then .ok (xs ++ ys) c2 else .bad
    | _, _ => .bad) sh_RF S q
  obtain ⟨G1, F1, env1, c1, S1, q1⟩ := h
  refine ⟨G1, F1, env1, c1, S1, q1.imp (fun _ _ _ _ _ z => z) ?_⟩
  rintro x H1 ⟨G2, F2, env2, c2, S2, q2⟩
  refine ⟨G2, F2, env2, c2, S2, q2.imp (fun _ _ _ _ _ z => z) ?_⟩
  rintro y H2 ⟨F3, d, e, c3, s3, S3, r1, r2, q3⟩
  split at q3
  · rename_i xs ys
    split at q3
    · rename_i hl
      obtain ⟨pa, us, rfl, h1, ra, _⟩ := r1.lst S3.cupF
      obtain ⟨pb, vs, rfl, h2, rb, _⟩ := r2.lst S3.cupF
      refine ⟨pa, pb, us, vs, rfl, rfl, h1, h2, line_le (by rw [ra.length, rb.length]; exact hl), fun p hp => ?_⟩
      have g : Grow F3 H2 F3 (upd H2 p (.lst (us ++ vs))) := ⟨fun _ h => h, fun b o h => by rw [upd_ne (ne_of_none h hp)]; exact h, fun _ h => .inl h, fun b h => by
        obtain ⟨o, e⟩ := S3.dom b h
        exact ⟨o, by rw [upd_ne (ne_of_none e hp)]; exact e⟩⟩
      refine q3 F3 _ _ g.step (S3.grow g) ⟨p, us ++ vs, rfl, hp, fun z => ?_, upd_same, (ra.append rb).mono ⟨fun _ h => h, fun b o _ h _ => g.same b o h⟩⟩
      obtain ⟨o, e⟩ := S3.dom p z
      rw [hp] at e; cases e
    · exact q3.elim
  · exact q3.elim
theorem defD {P : Program} {wl : World} {base : Heap} {x : Str} {st : Stmt} {N ps : List Str} {k n np : Nat} {g : MS} (hT : ∃ f fd, Fun w.K x x st f fd ∧ w.mg x = some (.ref f)) (S : FnScope N ps (defScope st)) (hn : N.length = n) (hp : ps.length = np)
    (hb : ∀ (kV doc pm : Value) (an : Option Addr) (cdv ct : Value) (us : List Value), us.length = ps.length → bindArgs (PySem.W.fnOf x x (defArgs st) (defBody st) (defScope st) .none kV doc pm an cdv ct) ⟨us, []⟩ = pure (ps.zip us))
    (hbody : ∀ (f : Addr) (cdv : Value) (A : Around) (outer : List Env) (s : Shared) (H : Hp) (E : XK), Ctx (cxOf (L2N.CX P wl) P wl w.K w.mg base N x (defScope st) f cdv A outer s H E) w E k →
      PSs (cxOf (L2N.CX P wl) P wl w.K w.mg base N x (defScope st) f cdv A outer s H E) (defBody st) (tS w E g)) : DefD P wl base w x (k + 1) np (runD n g) := by
  obtain ⟨f, fd, F, hm⟩ := hT
  subst hn hp
  exact ⟨f, fd, ps, hm, F.kp, F.binds hb, rfl, fnD F S (hbody f)⟩
/-- a def that is never called -/
theorem fnBad {P : Program} {wl : World} {base : Heap} {f : Addr} {fd : FuncData} {ps : List Str} {j n : Nat} : FnOk P wl w.K w.mg base (L2N.CX P wl) j f fd ps (spD w n fun _ _ => .bad) :=
  ⟨fun vs H Q E ⟨_, _, _, _, _, _, _, _, _, _, q⟩ => q.elim, fun A outer s H args us vs Q E _ _ _ _ ⟨_, _, _, _, _, _, _, _, _, _, q⟩ => q.elim⟩
end
end Hm

set_option Elab.async false
set_option linter.all false
set_option maxRecDepth 100000
set_option maxHeartbeats 2000000
/-! # P9: where an exception is handled: ends of walks, unpacking, comprehensions -/
namespace Hm
open PySem PySem.Spec PyProof.Rows L2 L2H HotX
section
variable {prog : Program} {w : World} {A : Around} {E : Value → Shared → Prop} {s : Shared}
theorem hot_ne {x1 b : Addr} {hp : Heap} {o : Obj} {vs : Array Value} (z : HotAt A x1 hp) (e : hp.get? b = some o) (d : o.data = .fields vs) (hs : vs.size ≤ 2) : x1 ≠ b := by
  rintro rfl
  obtain ⟨_, o1, v1, e1, d1, c1⟩ := z
  rw [e1] at e
  cases e
  rw [d1] at d
  cases d
  rw [Array.getElem?_eq_none hs] at c1
  cases c1
theorem endL_hot {x1 it l : Addr} {i : Nat} {items : Array Value} {Q : Option Value → Shared → Prop} (hot : HotAt A x1 s.heap)
    (hit : s.heap.IsListIter it l i) (hl : s.heap.IsList l items) (hx : items[i]? = none)
    (hQ : ∀ h', Heap.ExtBut it s.heap h' → Q none { s with heap := h' }) : wpAny (model prog w) A (pyNext (.ref it)) Q E s := by
  obtain ⟨oi, hoi, hci, hdi⟩ := id hit
  obtain ⟨ol, hol, _, nl, hdl⟩ := hl
  have hne := hot_ne hot hoi hdi (by simp)
  obtain ⟨hh, o1, vs1, h1, d1, c1⟩ := hot
  unfold pyNext
  refine wpAny_bind (wpAny_attempt (wpAny_callSpecial?_slot (name := Str.ofString "__next__") hit.typeIs slot_listiter_next (wpAny_call_entry slot_listiter_next hit.typeIs entry_listiter_next ?_ (args_listiter_next _))))
  show wpAny _ _ (field (.ref it) 0 >>= _) _ _ s
  refine wpAny_bind (wpAny_field hoi hdi (x := .ref l) rfl ?_)
  show wpAny _ _ (if (Value.ref l == Value.none) = true then _ else _) _ _ s
  rw [if_neg (show ¬ ((Value.ref l == Value.none) = true) from Bool.false_ne_true)]
  show wpAny _ _ (field (.ref it) 1 >>= _) _ _ s
  refine wpAny_bind (wpAny_field hoi hdi (x := .int i 0) rfl ?_)
  show wpAny _ _ (seqItems? (.ref l) >>= _) _ _ s
  refine wpAny_bind (wpAny_seqItems hol hdl ?_)
  simp only [Int.toNat_natCast, hx]
  refine wpAny_bind (wpAny_rule (wpAny_bind (wpAny_setField hoi hdi (by simp) ?_)))
  show wpAny _ _ (newExc (.type "StopIteration") [] >>= _) _ _ _
  refine wpAny_bind ?_
  simp only [newExc, newTuple]
  refine wpAny_bind (wpAny_newObj_type ?_ (by size_fits))
  refine wpAny_bind (m := firstArgMember _ _) (wpAny_of_eq (a := Value.none) (by first | rfl | (simp only [firstArgMember]; rfl)) ?_)
  refine wpAny_newObj_type ?_ (by size_fits)
  have h1' := (Heap.get?_update_other s.heap (Obj.mapFields (·.setIfInBounds 0 Value.none)) (Ne.symm hne)).trans h1
  have h1'' := Heap.get?_push_of_some { cls := .type "tuple", data := .seq ([] : List Value).toArray } h1'
  refine raiseNew_hot ⟨hh, o1, vs1, Heap.get?_push_of_some _ h1'', d1, c1⟩ (Nat.ne_of_lt (Heap.lt_size h1'')) (Heap.get?_push_size _ rfl) rfl (by first | (simp; done) | (simp; omega) | (simp only [Array.size_append]; simp; omega)) ?_
  refine wpAny_bind (wpAny_isInstance (T := "StopIteration") (b := true) ⟨_, Heap.get?_update_self _ (Heap.get?_push_size _ rfl) rfl, rfl⟩ isSubtype_stop ?_)
  refine wpAny_pure (hQ _ fun b o nb e => ?_)
  refine (Heap.get?_update_other _ _ (Nat.ne_of_gt (Heap.lt_size (?_ : Heap.get? _ b = some o)))).trans ?_
  · exact ((Heap.SameBut.update ..).extBut.push _) b o nb e
  · exact (((Heap.SameBut.update ..).extBut.push _).push _) b o nb e
theorem endT_hot {x1 it l : Addr} {i : Nat} {items : Array Value} {Q : Option Value → Shared → Prop} (hot : HotAt A x1 s.heap)
    (hit : IsTupIter s.heap it l i) (hl : IsTup s.heap l items) (hx : items[i]? = none)
    (hQ : ∀ h', Heap.ExtBut it s.heap h' → Q none { s with heap := h' }) : wpAny (model prog w) A (pyNext (.ref it)) Q E s := by
  obtain ⟨oi, hoi, hci, hdi⟩ := id hit
  obtain ⟨ol, hol, _, nl, hdl⟩ := hl
  have hne := hot_ne hot hoi hdi (by simp)
  obtain ⟨hh, o1, vs1, h1, d1, c1⟩ := hot
  unfold pyNext
  refine wpAny_bind (wpAny_attempt (wpAny_callSpecial?_slot (name := Str.ofString "__next__") hit.typeIs slot_tupleiter_next (wpAny_call_entry slot_tupleiter_next hit.typeIs entry_tupleiter_next ?_ (args_tupleiter_next _))))
  show wpAny _ _ (field (.ref it) 0 >>= _) _ _ s
  refine wpAny_bind (wpAny_field hoi hdi (x := .ref l) rfl ?_)
  show wpAny _ _ (if (Value.ref l == Value.none) = true then _ else _) _ _ s
  rw [if_neg (show ¬ ((Value.ref l == Value.none) = true) from Bool.false_ne_true)]
  show wpAny _ _ (field (.ref it) 1 >>= _) _ _ s
  refine wpAny_bind (wpAny_field hoi hdi (x := .int i 0) rfl ?_)
  show wpAny _ _ (seqItems? (.ref l) >>= _) _ _ s
  refine wpAny_bind (wpAny_seqItems hol hdl ?_)
  simp only [Int.toNat_natCast, hx]
  refine wpAny_bind (wpAny_rule (wpAny_bind (wpAny_setField hoi hdi (by simp) ?_)))
  show wpAny _ _ (newExc (.type "StopIteration") [] >>= _) _ _ _
  refine wpAny_bind ?_
  simp only [newExc, newTuple]
  refine wpAny_bind (wpAny_newObj_type ?_ (by size_fits))
  refine wpAny_bind (m := firstArgMember _ _) (wpAny_of_eq (a := Value.none) (by first | rfl | (simp only [firstArgMember]; rfl)) ?_)
  refine wpAny_newObj_type ?_ (by size_fits)
  have h1' := (Heap.get?_update_other s.heap (Obj.mapFields (·.setIfInBounds 0 Value.none)) (Ne.symm hne)).trans h1
  have h1'' := Heap.get?_push_of_some { cls := .type "tuple", data := .seq ([] : List Value).toArray } h1'
  refine raiseNew_hot ⟨hh, o1, vs1, Heap.get?_push_of_some _ h1'', d1, c1⟩ (Nat.ne_of_lt (Heap.lt_size h1'')) (Heap.get?_push_size _ rfl) rfl (by first | (simp; done) | (simp; omega) | (simp only [Array.size_append]; simp; omega)) ?_
  refine wpAny_bind (wpAny_isInstance (T := "StopIteration") (b := true) ⟨_, Heap.get?_update_self _ (Heap.get?_push_size _ rfl) rfl, rfl⟩ isSubtype_stop ?_)
  refine wpAny_pure (hQ _ fun b o nb e => ?_)
  refine (Heap.get?_update_other _ _ (Nat.ne_of_gt (Heap.lt_size (?_ : Heap.get? _ b = some o)))).trans ?_
  · exact ((Heap.SameBut.update ..).extBut.push _) b o nb e
  · exact (((Heap.SameBut.update ..).extBut.push _).push _) b o nb e
theorem hot_ext {x1 c : Addr} {hp hq : Heap} (z : HotAt A x1 hp) (e : Heap.ExtBut c hp hq) (n : x1 ≠ c) : HotAt A x1 hq :=
  let ⟨hh, o, vs, h1, d1, c1⟩ := z; ⟨hh, o, vs, e _ _ n h1, d1, c1⟩
theorem unp_hot {x1 t : Addr} {items : Array Value} {Q : List Value → Shared → Prop} (hot : HotAt A x1 s.heap) (ht : IsTup s.heap t items)
    (hQ : ∀ h', Heap.ExtBut s.heap.objs.size s.heap h' → Q items.toList { s with heap := h' }) : wpAny (model prog w) A (unpackItems (.ref t) items.size none) Q E s := by
  have hlt : t ≠ s.heap.objs.size := by obtain ⟨o, ho, _⟩ := ht; exact Nat.ne_of_lt (Heap.lt_size ho)
  have hx1 : x1 ≠ s.heap.objs.size := by obtain ⟨_, o, _, ho, _⟩ := hot; exact Nat.ne_of_lt (Heap.lt_size ho)
  unfold unpackItems
  refine wpAny_bind ?_
  unfold notIterableAtAll
  refine wpAny_bind (wpAny_specialOf ht.typeIs slot_tuple_iter.lookup ?_)
  refine wpAny_pure ?_
  simp only [Bool.false_eq_true, if_false]
  refine wpAny_bind (wpAny_holding (iter_tuple ht ?_))
  refine wpAny_bind (wpAny_holding (draw_tuple hlt items.size 0 _ _ ⟨_, Heap.get?_push_size _ rfl, rfl, rfl⟩ (ht.push _) (by omega) fun h₁ hit₁ hs₁ => ?_))
  have hall : List.take items.size (List.drop 0 items.toList) = items.toList := by
    rw [List.drop_zero]
    exact List.take_of_length_le (by simp)
  rw [hall]
  rw [if_neg (by simp)]
  have ht₁ : IsTup h₁ t items := (ht.push _).extBut hs₁.extBut hlt
  have up : Heap.ExtBut s.heap.objs.size s.heap h₁ := fun b o hb e => hs₁.extBut b o hb (Heap.get?_push_of_some _ e)
  refine wpAny_bind (wpAny_holding (endT_hot (s := { s with heap := h₁ }) (hot_ext hot up hx1) hit₁ ht₁ (by simp) fun h₂ he₂ => ?_))
  simp only [Option.isSome_none, Bool.false_eq_true, if_false]
  exact wpAny_pure (hQ h₂ fun b o hb e => he₂ b o hb (up b o hb e))
end
section
variable {X : Cx} {pos : Pos}
theorem pg_tupH {es : List Expr} {k : Nat} {t : TGs} {n : Nat} (hc : HotC X) (h : PGs X es t)
    (hn : (assignEach es X.env).length = n := by rfl) (hst : (assignEach es X.env).findIdx? (·.1) = none := by rfl) : PG X (.Tuple es k pos) (gTup X.K n t) := by
  refine ⟨fun pins s σ H v u Q I r hw => ?_⟩
  obtain ⟨a, xs, rfl, hq, hl, hw⟩ := hw
  cases r
  obtain ⟨its, rv, ht, hz⟩ := I.tuple hq
  obtain ⟨x1, hot⟩ := hc.at I
  rw [assign_Tuple]
  refine wpAny_bind (wpAny_standAt ?_)
  unfold unpack
  rw [show (assignEach es X.env).length = its.toArray.size by simp [hn, ← hl, rv.length], hst]
  refine wpAny_bind (wpAny_holding (unp_hot hot ht fun h' hx => ?_))
  have I1 : Inv X pins σ H { s with heap := h' } := I.kept (t' := s.toks) fun b o e => hx b o (Nat.ne_of_lt (Heap.lt_size e)) e
  exact h.run pins _ σ H xs _ Q I1 (by simpa using rv) hw
theorem turn_listH {P : Program} {w : World} {K : PySem.W.Frag} {tg : Expr} (a it : Addr) : TurnH P w K tg (Itl K a) [it] it (fun i h => h.IsListIter it a i) where
  mem := by simp
  obj := (turn_list (P := P) (w := w) (K := K) (tg := tg) a it).obj
  keep := (turn_list (P := P) (w := w) (K := K) (tg := tg) a it).keep
  self := (turn_list (P := P) (w := w) (K := K) (tg := tg) a it).self
  item := by
    intro X hP hw hK hc i pins s σ H E I hf st hg
    subst hP hw hK
    obtain ⟨xs, x, hq, hx⟩ := hg
    obtain ⟨its, rv, p, hz⟩ := I.list hq
    obtain ⟨u, hu, ru⟩ := rv.get hx
    obtain ⟨f0, f1, f2, f3, f4, f5⟩ := hf it (by simp)
    refine wpAny_pyNext_list_item st p.isList (x := u) (by simpa using hu) fun h' st' sb => ?_
    have I1 : Inv X pins σ H { s with heap := h' } := I.turned (t' := s.toks) (fun b o hb e => (sb.2 b hb).trans e) f0 f1 f3 f4 f5
    obtain ⟨o, e, c, d⟩ := id st'
    exact ⟨u, rfl, go_of (s := { s with heap := h' }) e c d (by decide) ⟨x, H, I1, ru, ⟨rfl, fun ys hy => by rw [I.list_inj hy hq]; exact hx⟩, st', fun b hb => (hf b hb).1⟩⟩
  done := by
    intro X hP hw hK hc i pins s σ H E I hf st hg
    subst hP hw hK
    obtain ⟨xs, hq, hx⟩ := hg
    obtain ⟨its, rv, p, hz⟩ := I.list hq
    obtain ⟨f0, f1, f2, f3, f4, f5⟩ := hf it (by simp)
    have hl := rv.length
    obtain ⟨x1, hot⟩ := hc.at I
    exact endL_hot hot st p.isList (by simp; omega) fun h' eb => ⟨rfl, I.turned (t' := s.toks) (fun b o hb e => eb b o hb e) f0 f1 f3 f4 f5⟩
theorem pi_listH {tg l : Expr} {tl : TE} (hl : PE X l tl) : PIH X tg l (iList X.K tl) := by
  refine ⟨fun pins s σ H R I h => ?_⟩
  refine thn (hl.run pins s σ H _ I h) fun v s1 ⟨x, H1, I1, r1, q1⟩ => ?_
  obtain ⟨a, rfl, ⟨xs, hq⟩, q⟩ := q1
  cases r1
  obtain ⟨its, rv, p, hz⟩ := I1.list hq
  refine wpAny_pyIter_list p.isList ?_
  refine ⟨s1.heap.objs.size, [s1.heap.objs.size], _, _, H1, rfl, I1.kept (t' := s1.toks) fun b o e => Heap.get?_push_of_some _ e, turn_listH a _, ⟨_, Heap.get?_push_size _ rfl, rfl, rfl⟩, fun b hb => ?_, q⟩
  have e : b = s1.heap.objs.size := by simpa using hb
  subst e
  exact I1.fpOk (Nat.le_refl _) (I1.hok.fresh (Nat.le_refl _))
/-- the context of a block within an except suite -/
abbrev blkH (X : Cx) (s : Shared) (H : Hp) (scope : Scope) (cenv : Env) (fp : List Addr) (p : Addr × Obj) : Cx := { X.blk s H scope cenv fp with pn := [p] }
theorem inv_blkH {s s1 : Shared} {H H1 : Hp} {σ : L2.St} {scope : Scope} {cenv : Env} {fp : List Addr} {p : Addr × Obj} (I : Inv (X.blk s H scope cenv fp) [] σ H1 s1)
    (hp : s1.heap.get? p.1 = some p.2 ∧ H1 p.1 = none ∧ p.1 ≠ cenv.locals ∧ p.1 ∉ frs X.stack ∧ ∀ v, p.2.data ≠ .cell v) : Inv (blkH X s H scope cenv fp p) [] σ H1 s1 :=
  ⟨⟨I.ok.mod, I.ok.kind, I.ok.glob, I.ok.blt, I.ok.above, I.ok.inj, I.ok.has, I.ok.cab, I.ok.hd, I.ok.frames, I.ok.stk, I.ok.exf, I.ok.bs, I.ok.bsz, I.ok.noex, I.ok.exfs, I.ok.funs, I.ok.frf⟩,
    I.os, I.bare, I.base, I.loc, I.cell, I.free, I.freeC, fun q hq => by
      have e : q = p := by simpa using (show q ∈ [p] ++ ([] : List (Addr × Obj)) from hq)
      rw [e]
      exact hp, I.hok, I.len⟩
end

section
variable {X : Cx}
theorem HotC.blk {s : Shared} {H : Hp} {scope : Scope} {cenv : Env} {fp : List Addr} {p : Addr × Obj} (h1 : Hot1 X.A p) : HotC (blkH X s H scope cenv fp p) := ⟨p, h1, List.mem_singleton.mpr rfl⟩
theorem lc_coreH {pins : List (Addr × Obj)} {s : Shared} {σ : L2.St} {H : Hp} {Q : VK} {elt tg iter : Expr} {ifs : List Expr} {scope : Scope} {own : List (Str × Nat)} {pos pos' : Pos} {wi : TI} {g : TG} {tt : TT} {te : TE} {use : Option (Value → Sem Unit)} {Qf : Value → Shared → Prop} {p : Addr × Obj}
    (hp1 : Hot1 X.A p) (hpm : p ∈ X.pn) (hN : X.N.Nodup) (I : Inv X pins σ H s) (hi : PIH X tg iter wi) (ok : BlkOk X.N X.env.scope scope own)
    (hg : ∀ (s : Shared) (H : Hp) (Ca : Addr) (cl : List (Str × Addr)) (fp : List Addr), PG (blkH X s H scope (compEnvC scope cl Ca X.env) fp p) tg g) (ht : ∀ (s : Shared) (H : Hp) (Ca : Addr) (cl : List (Str × Addr)) (fp : List Addr), PTs (blkH X s H scope (compEnvC scope cl Ca X.env) fp p) ifs tt)
    (he : ∀ (s : Shared) (H : Hp) (Ca : Addr) (cl : List (Str × Addr)) (fp : List Addr), PE (blkH X s H scope (compEnvC scope cl Ca X.env) fp p) elt te) (hs : ∀ x, foldedSetIterable iter X.env x = pure x)
    (h : tLc wi g tt te (own.map (·.2)) σ H Q)
    (hRR : ∀ L C s' m H', Inv X pins σ H' s' → Q (.ref L) H' → s'.heap.Ns C m → FpOk X pins H' C → compPost (model X.prog X.w) X.A X.xe use Qf (.ref L) C (.ok .next) s') :
    wpAny (model X.prog X.w) X.A (comprehension (.ListComp elt [⟨tg, iter, ifs, 0⟩] scope pos) scope X.env pos' (newList []) false (eval iter X.env) use) Qf X.xe s := by
  have fre : ∀ y ∈ scope.names, y.2 = .free → ∃ c, X.env.cells.lookup y.1 = some c := fun y hy e =>
    (ok.free y hy e).elim (fun k => I.ok.has _ (.inl k)) fun k => I.ok.has _ (.inr k)
  refine wpAny_comprehension_free (use := use) rfl hs (closure_ok fre) ok.kind (fun y hy e => by rw [ok.uniq y hy, e])
    (thn (hi.run pins s σ H _ I h) fun xv s1 hx => thn hx fun itv s2 h2 => ?_)
  obtain ⟨it, fp, tn, J, H2, rfl, I2, T, st2, f2, q⟩ := h2
  refine wpAny_newObj_type (newEnv_comp ?_) (by show 0 ≤ sizeLine; decide)
  generalize hD : s2.heap.objs.size = L
  have hDn : H2 L = none := I2.hok.fresh (Nat.le_of_eq hD)
  obtain ⟨W, ⟨m0, w0⟩, turn⟩ := q L hDn
  generalize hs3 : ({ s2 with heap := s2.heap.push { cls := .type "list", data := .seq ([] : List Value).toArray } } : Shared) = s3
  have I3 : Inv X pins σ (upd H2 L (.lst [])) s3 := by
    rw [← hs3]
    refine I2.laid (t' := s2.toks) (fun b o e => Heap.get?_push_of_some _ e) (Nat.le_of_eq hD) ⟨Nat.zero_le _, [], 0, .nil, ?_⟩
    rw [← hD]
    exact Heap.get?_push_size _ rfl
  have h3 : s3.heap = s2.heap.push { cls := .type "list", data := .seq ([] : List Value).toArray } := by rw [← hs3]
  have siz : ∀ b ∈ fp, b < s2.heap.objs.size := fun b hb =>
    let ⟨o, e, _⟩ := T.obj _ _ st2 b hb
    Heap.lt_size e
  have f3 : ∀ b ∈ fp, FpOk X pins (upd H2 L (.lst [])) b ∧ b < s3.heap.objs.size := fun b hb => by
    have hlt := siz b hb
    refine ⟨⟨?_, (f2 b hb).2⟩, by rw [h3, Heap.size_push]; exact Nat.lt_succ_of_lt hlt⟩
    rw [upd_ne (by rw [← hD]; exact Nat.ne_of_lt hlt)]
    exact (f2 b hb).1
  have st3 : tn 0 s3.heap := T.keep _ _ _ st2 fun b _ o e => by rw [h3]; exact Heap.get?_push_of_some _ e
  have pin3 := I3.pin p (List.mem_append_left _ hpm)
  have kp : ∀ b o, s3.heap.get? b = some o → (pushCells (s3.heap.push { cls := .type "dict", data := .dict #[] }) scope.names).get? b = some o := fun b o e => pushCells_keeps _ _ _ _ (Heap.get?_push_of_some _ e)
  have I4 := inv_blkH (block_start I3 ok hN f3) (p := p) ⟨kp _ _ pin3.1, pin3.2.1, Nat.ne_of_lt (Heap.lt_size pin3.1), fun z => (List.mem_cons.mp (I3.stkSub _ z)).elim pin3.2.2.1 pin3.2.2.2.1, pin3.2.2.2.2⟩
  have pg := hg s3 (upd H2 L (.lst [])) s3.heap.objs.size (cellsFrom (s3.heap.objs.size + 1) scope.names (cloFrom X.env.cells scope.names [])) fp
  have pt := ht s3 (upd H2 L (.lst [])) s3.heap.objs.size (cellsFrom (s3.heap.objs.size + 1) scope.names (cloFrom X.env.cells scope.names [])) fp
  have pe := he s3 (upd H2 L (.lst [])) s3.heap.objs.size (cellsFrom (s3.heap.objs.size + 1) scope.names (cloFrom X.env.cells scope.names [])) fp
  show codeAny _ _ (.compStart (.ListComp elt [⟨tg, iter, ifs, 0⟩] scope pos) 0 (.ref it) (.ref L) (compEnvC scope (cellsFrom (s3.heap.objs.size + 1) scope.names (cloFrom X.env.cells scope.names [])) s3.heap.objs.size X.env)) (compPost (model X.prog X.w) X.A X.xe use Qf (.ref L) s3.heap.objs.size) { s3 with heap := pushCells (s3.heap.push { cls := .type "dict", data := .dict #[] }) scope.names }
  have nfp : ∀ b ∈ fp, (upd H2 L (.lst [])) b = none := fun b hb => (f3 b hb).1.1
  generalize hce : compEnvC scope (cellsFrom (s3.heap.objs.size + 1) scope.names (cloFrom X.env.cells scope.names [])) s3.heap.objs.size X.env = ce at I4 pg pt pe ⊢
  have cL : ce.locals = s3.heap.objs.size := by subst hce; rfl
  generalize hH3 : upd H2 L (.lst []) = H3 at I3 I4 pg pt pe w0 nfp f3
  generalize hs4 : ({ s3 with heap := pushCells (s3.heap.push { cls := .type "dict", data := .dict #[] }) scope.names } : Shared) = s4 at I4 ⊢
  have st4 : tn 0 s4.heap := T.keep _ _ _ st3 fun b _ o e => by rw [← hs4]; exact kp _ _ e
  have hot := HotC.blk (X := X) (s := s3) (H := H3) (scope := scope) (cenv := ce) (fp := fp) hp1
  have stat : ∀ {σ' : L2.St} {H' : Hp} {s' : Shared}, Inv (blkH X s3 H3 scope ce fp p) [] σ' H' s' → (∀ b ∈ fp, H' b = none) → ∀ b ∈ fp, FpOk (blkH X s3 H3 scope ce fp p) [] H' b := fun {σ' H' s'} I' hn b hb =>
    ⟨hn b hb, (I'.ok.exf b hb).1, I'.ok.exfs b hb, .inl hb, fun x c e => (I'.ok.exf b hb).2 x c e, fun r hr => by
      have e : r = p := by simpa using (show r ∈ [p] ++ ([] : List (Addr × Obj)) from hr)
      rw [e]
      exact (f3 b hb).1.2.2.2.2.2 p (List.mem_append_left _ hpm)⟩
  have loop : codeAny (model X.prog X.w) X.A (.compLoop (.ListComp elt [⟨tg, iter, ifs, 0⟩] scope pos) 0 (.ref it) (.ref L) ce) (compPost (model X.prog X.w) X.A X.xe use Qf (.ref L) s3.heap.objs.size) s4 := by
    refine compLoop_any (fun n s' => ∃ i H', Inv (blkH X s3 H3 scope ce fp p) [] (wipe σ (own.map (·.2))) H' s' ∧ tn i s'.heap ∧ (∀ b ∈ fp, H' b = none) ∧ W i n H') ?_ m0 ⟨0, H3, I4, st4, nfp, w0⟩
    rintro n s5 ⟨i, H5, I5, st5, n5, w5⟩
    rcases turn i n H5 w5 with ⟨stop, qq⟩ | ⟨go, Nx, hNx, step⟩
    · refine thnF (T.done (blkH X s3 H3 scope ce fp p) rfl rfl rfl hot i [] s5 _ H5 (fun _ _ => False) I5 (stat I5 n5) st5 stop) fun r s6 ⟨hr, I6⟩ => ?_
      subst hr
      have I7 : Inv X pins σ H5 s6 := I3.call' (ch := fp) I6.os I6.base I6.hok I6.bare fun b hb => ⟨(f3 b hb).1.2.2.2.1, (f3 b hb).1.2.1, (f3 b hb).1.2.2.2.2.1, (f3 b hb).1.2.2.2.2.2⟩
      have nC : H5 s3.heap.objs.size = none := by
        have z : H5 ce.locals = none := I6.free
        rw [cL] at z
        exact z
      obtain ⟨m, hn, _⟩ := I6.loc
      have hn : s6.heap.Ns ce.locals m := hn
      rw [cL] at hn
      exact hRR L s3.heap.objs.size s6 m H5 I7 qq hn (I3.fpOk (Nat.le_refl _) nC)
    · refine thnF (T.item (blkH X s3 H3 scope ce fp p) rfl rfl rfl hot i [] s5 _ H5 (fun _ _ => False) I5 (stat I5 n5) st5 go) fun r s6 ⟨u, hr, h6⟩ => ?_
      subst hr
      refine thnF h6 fun _ s7 ⟨x, H7, I7, r7, y7, st7, n7⟩ => ?_
      have I7' := I7.pinned (stat I7 n7) (T.obj _ _ st7)
      refine thnF (pg.run _ s7 _ H7 x u _ I7' r7 (step x H7 y7)) fun _ s8 ⟨σ8, H8, I8, hw8, q8⟩ => ?_
      refine thnF (pt.run _ s8 σ8 H8 _ I8 q8) fun b s9 ⟨H9, I9, q9⟩ => ?_
      have fin : ∀ {s' : Shared} {H' : Hp}, Inv (blkH X s3 H3 scope ce fp p) ([] ++ pinsAt fp s7.heap) σ8 H' s' → Nx H' → ∃ m, m < n ∧ ∃ i H', Inv (blkH X s3 H3 scope ce fp p) [] (wipe σ (own.map (·.2))) H' s' ∧ tn i s'.heap ∧ (∀ b ∈ fp, H' b = none) ∧ W i m H' := fun {s' H'} I' nx => by
        obtain ⟨m', hm, w'⟩ := hNx H' nx
        have pin' : ∀ b ∈ fp, ∀ o, s7.heap.get? b = some o → s'.heap.get? b = some o ∧ H' b = none := fun b hb o e =>
          let z := I'.pin (b, o) (List.mem_append_right _ (List.mem_append_right _ (mem_pinsAt hb e)))
          ⟨z.1, z.2.1⟩
        have hl : (wipe σ (own.map (·.2))).length = σ8.length := by rw [← hw8, wipe_length]
        refine ⟨m', hm, i + 1, H', (I'.unpinned (pins := [])).weak hl (fun j v e => ?_), T.keep _ _ _ st7 fun b hb o e => (pin' b hb o e).1, fun b hb => ?_, w'⟩
        · rw [← hw8] at e
          exact (wipe_some e).1
        · obtain ⟨o, e, _⟩ := T.obj _ _ st7 b hb
          exact (pin' b hb o e).2
      cases b with
      | false =>
        simp only [Bool.false_eq_true, if_false] at q9 ⊢
        exact fin I9 q9
      | true =>
        simp only [if_true] at q9 ⊢
        refine thnF (pe.run _ s9 σ8 H9 _ I9 q9) fun z s10 ⟨yv, H10, I10, r10, acc, hD10, hz10, nx⟩ => ?_
        exact app_ok (X := blkH X s3 H3 scope ce fp p) I10 hD10 hz10 r10 fun s11 I11 => fin I11 nx
  exact codeAny_compStart_list loop (T.self X.A 0 _ _ _ st4 loop)
theorem pe_lcH {elt tg iter : Expr} {ifs : List Expr} {scope : Scope} {own : List (Str × Nat)} {pos : Pos} {wi : TI} {g : TG} {tt : TT} {te : TE} {p : Addr × Obj} (hp1 : Hot1 X.A p) (hpm : p ∈ X.pn) (hN : X.N.Nodup) (hi : PIH X tg iter wi) (ok : BlkOk X.N X.env.scope scope own)
    (hg : ∀ (s : Shared) (H : Hp) (Ca : Addr) (cl : List (Str × Addr)) (fp : List Addr), PG (blkH X s H scope (compEnvC scope cl Ca X.env) fp p) tg g) (ht : ∀ (s : Shared) (H : Hp) (Ca : Addr) (cl : List (Str × Addr)) (fp : List Addr), PTs (blkH X s H scope (compEnvC scope cl Ca X.env) fp p) ifs tt)
    (he : ∀ (s : Shared) (H : Hp) (Ca : Addr) (cl : List (Str × Addr)) (fp : List Addr), PE (blkH X s H scope (compEnvC scope cl Ca X.env) fp p) elt te) (hs : ∀ x, foldedSetIterable iter X.env x = pure x := by intro _; rfl) :
    PE X (.ListComp elt [⟨tg, iter, ifs, 0⟩] scope pos) (tLc wi g tt te (own.map (·.2))) := by
  refine ⟨fun pins s σ H Q I h => ?_⟩
  rw [eval_ListComp]
  refine lc_coreH hp1 hpm hN I hi ok hg ht he hs h fun L C s' m H' I' q hn f => ⟨m, hn, fun h'' sb => ?_⟩
  obtain ⟨f0, f1, f2, f3, f4, f5⟩ := f
  exact ⟨.ref L, H', I'.turned (t' := s'.toks) (fun b o hb e => (sb.2 b hb).trans e) f0 f1 f3 f4 f5, rfl, q⟩
end
end Hm

set_option Elab.async false
set_option linter.all false
set_option maxRecDepth 100000
set_option maxHeartbeats 2000000
/-! # P10: lambdas handed to a def that calls them under a try -/
namespace Hm
open PySem PySem.Spec PyProof.Rows L2 L2H LamX
/-- the context of a lambda's body, exceptions told with their context -/
abbrev lamN (X : Cx) (A : Around) (outer : List Env) (s : Shared) (H : Hp) (E : XK) (scope : Scope) (f c' : Addr) : Cx :=
  (lamCx X A outer s H E scope f c').wish fun e s' => wpAny (model X.prog X.w) (A.deeper (lamEnv X scope s.heap.objs.size f c')) (leaving (lamEnv X scope s.heap.objs.size f c') e) (fun _ s'' => L2N.CX X.prog X.w outer H s E e s'') (fun e' s'' => L2N.CX X.prog X.w outer H s E e' s'') s'
section
variable {X : Cx} {pins : List (Addr × Obj)} {σ : L2.St} {H : Hp} {s : Shared}
theorem pe_actN {CXg : CXT} {Eg : XK} {Ng : List Str} {qg : Str} {sg : Scope} {g f c' : Addr} {cdg pm ctv : Value} {params : Arguments} {body : Expr} {scope : Scope} {k i : Nat} {a : Str} {pn : List (Addr × Obj)} {xe : Value → Shared → Prop} {W : WX} {E : XK} {tb : TE} {p1 p2 : Pos}
    (I : Inv X pins σ H s) (L : LamS X.env.scope scope) (hf : s.heap.get? f = some (PySem.W.kla_obj "<lambda>" (X.env.qual ++ "<lambda>") params body scope (cloFrom X.env.cells scope.names []) pm c' ctv)) (hfn : H f = none) (hfr : f ∉ frs X.stack)
    (hbind : bindArgs (PySem.W.kla_fn "<lambda>" (X.env.qual ++ "<lambda>") params body scope (cloFrom X.env.cells scope.names []) pm (.ref c') ctv) ⟨[], []⟩ = pure [])
    (tk : L2N.Takes ((cxOf CXg X.prog X.w X.K X.mg X.base Ng qg sg g cdg X.A X.stack s H Eg).tr pn xe) W) (hW : ∀ cls d σ' H', E cls d H' → W cls d σ' H') (hr : Room (k + 1) (X.A.deeper (envOfC qg sg s.heap.objs.size g cdg)))
    (hbody : ∀ (A : Around) (outer : List Env) (s : Shared) (H : Hp), Room k (A.deeper (lamEnv X scope s.heap.objs.size f c')) → PE (lamN X A outer s H E scope f c') body tb)
    (hN : Ng[i]? = some a) (hv : Vis sg a) (hd : (a == ("__debug__" : Str)) = false := by decide) (hcd : (a == ("__classdict__" : Str)) = false := by decide) :
    PE ((cxOf CXg X.prog X.w X.K X.mg X.base Ng qg sg g cdg X.A X.stack s H Eg).tr pn xe) (.Call (.Name a p1) [] [] p2)
      (fun σZ HZ Q => σZ[i]? = some (some (.ref f)) ∧ HZ c' = some (CodeO c' (X.env.qual ++ "<lambda>")) ∧ tb σ HZ Q) := by
  constructor
  rintro pinsZ sZ σZ HZ Q IZ ⟨hs, hc, ht⟩
  refine wpAny_Call_Name_kw (thn ((pe_var (pos := p1) (i := i) hN hv hd hcd).run pinsZ sZ σZ HZ (fun v H1 => v = .ref f ∧ H1 = HZ) IZ ⟨.ref f, hs, rfl, rfl⟩) fun u s1 ⟨v, H1, I1, r1, ev, eH⟩ => ?_)
  subst ev
  rw [eH] at I1
  obtain rfl : u = Value.ref f := r1
  have of1 : s1.heap.get? f = some (PySem.W.kla_obj "<lambda>" (X.env.qual ++ "<lambda>") params body scope (cloFrom X.env.cells scope.names []) pm c' ctv) := I1.base.keep f _ hf hfn hfr (fun z => nomatch (show f ∈ ([] : List Addr) from z))
  refine PySem.W.callWith_F0 ⟨_, _, _, _, of1⟩ ?_
  have un : Un (frs X.stack) [] H HZ s.heap s1.heap := I1.base
  obtain ⟨⟨oc, vs, t, hoc, hdc, hvc⟩, _, _⟩ := I1.hok c' _ hc
  have rc : codeAny (model X.prog X.w) (X.A.deeper (envOfC qg sg s.heap.objs.size g cdg)) (.call (.ref f) ⟨[], []⟩) (CR (L2N.CX X.prog X.w) (envOfC qg sg s.heap.objs.size g cdg :: X.stack) X.prog X.w HZ s1 Q E) s1 := by
    refine PySem.W.kla_callFunE hr.depth of1 rfl L.co L.gen rfl ⟨c', oc, vs, t, rfl, hoc, hdc, hvc⟩ ?_
    rw [hbind]
    refine wpAny_pure (wpAny_newFunctionEnv (fun y hy => (L.own y hy).2) (fun y hy => absurd hy (by simp)) (fun h₁ hns hsb => ⟨I1.nolimit.fresh _ hsb, ?_⟩) L.kind)
    show codeAny _ _ (.expr body (lamEnv X scope s1.heap.objs.size f c')) _ _
    have kp : ∀ b o, s1.heap.get? b = some o → h₁.get? b = some o := fun b o e => hsb.extBut b o (Nat.ne_of_lt (Heap.lt_size e)) (Heap.get?_push_of_some _ e)
    have J := (lam_start2 (tk := s1.toks + ([] : List (Str × Value)).length) (E := E) (c' := c') (f := f) I L I1.env0 hr.hd un hns kp).wish fun e s' => wpAny (model X.prog X.w) ((X.A.deeper (envOfC qg sg s.heap.objs.size g cdg)).deeper (lamEnv X scope s1.heap.objs.size f c')) (leaving (lamEnv X scope s1.heap.objs.size f c') e) (fun _ s'' => L2N.CX X.prog X.w (envOfC qg sg s.heap.objs.size g cdg :: X.stack) HZ s1 E e s'') (fun e' s'' => L2N.CX X.prog X.w (envOfC qg sg s.heap.objs.size g cdg :: X.stack) HZ s1 E e' s'') s'
    refine PySem.W.kla_codeExpr (wpAny_mono ((hbody _ _ s1 HZ (hr.deeper _)).run [] _ _ HZ Q J ht) (fun v s' hq => ?_) fun e s' hq => hq)
    obtain ⟨w', H', J', rv, q⟩ := hq
    exact ⟨w', H', J'.os, J'.bare, J'.base, J'.hok, rv, q⟩
  have hx : Passes (L2N.CX X.prog X.w) ((cxOf CXg X.prog X.w X.K X.mg X.base Ng qg sg g cdg X.A X.stack s H Eg).tr pn xe) E := L2N.passes_call tk hW
  refine wpAny_call (codeAny_mono rc fun r s' hq => ?_)
  cases r with
  | error e => exact hx pinsZ σZ HZ s1 e s' I1 hq
  | ok fl =>
    cases fl with
    | ret u => exact I1.after hq
    | next => exact False.elim hq
    | brk => exact False.elim hq
    | cont => exact False.elim hq
def GivesN (X : Cx) (Ng : List Str) (x : Str) (sg : Scope) (g : Addr) (cdg : Value) (bg : List Stmt) (a : Str) (q : Str) (TT : (XK → Hp → VK → Prop) → Hp → VK → Prop) : Prop :=
  ∀ (f c' : Addr) (s : Shared) (H : Hp) (Q : VK) (tl : XK → Hp → VK → Prop),
    (∀ (W : WX) (pn : List (Addr × Obj)) (xe : Value → Shared → Prop) (E : XK) (p1 p2 : Pos), L2N.Takes ((cxOf C8.CX0 X.prog X.w X.K X.mg X.base Ng x sg g cdg X.A X.stack s H C8.E0).tr pn xe) W → (∀ cls d σ' H', E cls d H' → W cls d σ' H') →
      PE ((cxOf C8.CX0 X.prog X.w X.K X.mg X.base Ng x sg g cdg X.A X.stack s H C8.E0).tr pn xe) (.Call (.Name a p1) [] [] p2) (fun σZ HZ Q => σZ[0]? = some (some (.ref f)) ∧ HZ c' = some (CodeO c' q) ∧ tl E HZ Q)) →
    H c' = some (CodeO c' q) → TT tl H Q →
    ∃ t, PSs (cxOf C8.CX0 X.prog X.w X.K X.mg X.base Ng x sg g cdg X.A X.stack s H C8.E0).nox bg t ∧ t { nx := fun _ H' => Q .non H', rt := Q } (L2.start Ng [.ref f]) H
end
/-! ### within an except suite -/
structure CtH (X : Cx) (w : Wd) (p : Addr × Obj) : Prop where
  hK : X.K = w.K
  hmg : X.mg = w.mg
  nd : X.N.Nodup
  hot : Hot1 X.A p
  pm : p ∈ X.pn
theorem CtH.hc {X : Cx} {w : Wd} {p : Addr × Obj} (C : CtH X w p) : HotC X := ⟨p, C.hot, C.pm⟩
theorem CtH.blk {X : Cx} {w : Wd} {p : Addr × Obj} (C : CtH X w p) (s : Shared) (H : Hp) (scope : Scope) (cenv : Env) (fp : List Addr) : CtH (blkH X s H scope cenv fp p) w p := ⟨C.hK, C.hmg, C.nd, C.hot, List.mem_singleton.mpr rfl⟩
section
variable {X : Cx} {w : Wd} {W : XK} {p : Addr × Obj} {e a b : Expr} {pos q1 q2 : Pos} {tg elt iter : Expr} {ifs : List Expr} {scope : Scope} {own : List (Str × Nat)}
theorem PIH.imp {wi wi' : TI} (h : PIH X tg e wi) (hm : ∀ σ H R, wi' σ H R → wi σ H R) : PIH X tg e wi' := ⟨fun pins s σ H R I q => h.run pins s σ H R I (hm σ H R q)⟩
def cItemsL (f : Ev → M D) : Ev → M (List D) := fun env c => (f env c).bnd fun d c1 => match d with
  | .lst ds => .ok ds c1
  | _ => .bad
theorem it_lstB {ca : Option Addr} {F : Addr → Prop} {H : Hp} {x : V} {ds : List D} (hc : ∀ a, ca = some a → ¬ F a) (h : DB w.K ca F H x (.lst ds)) :
    ∃ a, x = .ref a ∧ (∃ xs, SqL w.K H a xs) ∧ ItOkB w ca F H (Itl w.K a) ds := by
  rcases h with h | ⟨a, xs, es, e1, e2, n, e3, r⟩
  · cases h with
    | lst f e1 r =>
      rename_i a xs
      refine ⟨a, rfl, ⟨_, SqL.of e1⟩, ItOk.bo hc ⟨fun H1 => SqL w.K H1 a xs, YAt xs, ?_, fun F1 H1 fr => SqL.of (fr.2 _ _ f e1 fun ps z => nomatch z), ?_⟩⟩
      · rw [← r.length]
        exact walk_list
      · intro i H1 x H2 F1 d e fr hd y
        obtain ⟨e1, e2⟩ := y
        obtain ⟨v, e3, e4⟩ := r.get e
        rw [e2] at e3
        cases e3
        rw [e1]
        exact ⟨F1, Grow.refl hd, e4.mono fr⟩
  · subst e1
    cases e2
    refine ⟨a, rfl, ⟨xs, SqL.of e3⟩, fun H1 => SqL w.K H1 a xs, YAt xs, ?_, fun F1 H1 s => SqL.of (s.keep a _ e3 n fun ps z => nomatch z), fun i H1 x H2 F1 d e s y => ?_⟩
    · rw [← r.length]
      exact walk_list
    · obtain ⟨e1, e2⟩ := y
      obtain ⟨v, e3, e4⟩ := r.get e
      rw [e2] at e3
      cases e3
      rw [e1]
      exact ⟨F1, Grow.refl s.dom, e4.mono (s.fr hc)⟩
theorem pi_seqH {f : Ev → M D} (C : CtH X w p) (h : PE X e (tB w W f)) : PIH X tg e (tX w W (RIB w) (cItemsL f)) := PIH.imp (pi_listH h) fun σ H R ⟨G, F, env, c, S, q⟩ => by
  refine ⟨G, F, env, c, S, (Post.bnd (R1 := RB w) sh_RIB q).imp (fun _ _ _ _ _ z => z) ?_⟩
  rintro x H1 ⟨F1, d, c1, s1, S1, r1, q1⟩
  split at q1
  · rename_i ds
    obtain ⟨a, e, h1, h2⟩ := it_lstB S1.cupF r1
    exact ⟨a, e, by rw [C.hK]; exact h1, by rw [C.hK]; exact q1 F1 _ H1 (Step.refl S1.dom) S1 h2⟩
  · exact q1.elim
theorem pt_ofH {f : Ev → M D} (hK : X.K = w.K) (h : PE X e (tB w W f)) (he : ∀ whole, isTrue e X.env whole = (do let v ← whole; standAt e.pos; holding [v] (truthy v)) := by intro _; rfl) : PT X e (tT w W (cTr f)) :=
  PT.imp (pt_truth h he) fun σ H Q ⟨G, F, env, c, S, q⟩ => by
    refine ⟨G, F, env, c, S, (Post.bnd (R1 := RB w) sh_RT q).imp (fun _ _ _ _ _ z => z) ?_⟩
    rintro x H1 ⟨F1, d, c1, s1, S1, r1, q1⟩
    cases hz : d.tru with
    | none => rw [hz] at q1; exact q1.elim
    | some z =>
      rw [hz] at q1
      exact ⟨z, by rw [hK]; exact r1.tru S1.cupF hz, q1 F1 z H1 (Step.refl S1.dom) S1 rfl⟩
theorem pg_nH {i : Nat} {x : Str} (nd : X.N.Nodup) (hi : X.N[i]? = some x) (hx : Loc X.env.scope x) (hf : X.fn x = true ∨ X.env.scope.names.lookup x = some .local := by first | exact .inl rfl | exact .inr rfl | assumption) : PG X (.Name x pos) (tG w (.nm i)) :=
  PG.imp (pg_name nd hi hx hf) fun v σ H Q ⟨G, F, env, c, d, env', S, r, e, q⟩ => by
    cases e
    refine q _ ⟨by simp, fun j hj => ?_⟩ (S.setFz r)
    have hj' : j ≠ i := by simpa [Tg.ix] using hj
    rw [List.getElem?_set_ne (Ne.symm hj')]
theorem pg_tH {es : List Expr} {ts : List Tg} {kk : Nat} (C : CtH X w p) (h : PGs X es (tGs w ts)) (hn : (assignEach es X.env).length = ts.length := by rfl) (hst : (assignEach es X.env).findIdx? (·.1) = none := by rfl) : PG X (.Tuple es kk pos) (tG w (.tp ts)) :=
  PG.imp (pg_tupH C.hc h hn hst) fun v σ H Q ⟨G, F, env, c, d, env', S, r, e, q⟩ => by
    cases d with
    | tup ds =>
      obtain ⟨p, xs, h1, h2, h3⟩ := r.tupS
      have e' : bindTs ts ds env = some env' := e
      exact ⟨p, xs, h1, by rw [C.hK]; exact h2, by rw [h3.length, bindTs_len e'], G, F, env, c, ds, env', S, h3, e', q⟩
    | _ => cases e
theorem pf_lcH {t : Tg} {it : Ev → M (List D)} {cond : Ev → M Bool} {el : Ev → M D} (C : CtH X w p) (hi : PIH X tg iter (tX w W (RIB w) it)) (ok : BlkOk X.N X.env.scope scope own) (hix : ∀ i ∈ t.ix, i ∈ own.map (·.2))
    (hg : ∀ (s : Shared) (H : Hp) (Ca : Addr) (cl : List (Str × Addr)) (fp : List Addr), CtH (blkH X s H scope (compEnvC scope cl Ca X.env) fp p) w p → PG (blkH X s H scope (compEnvC scope cl Ca X.env) fp p) tg (tG w t))
    (ht : ∀ (s : Shared) (H : Hp) (Ca : Addr) (cl : List (Str × Addr)) (fp : List Addr), CtH (blkH X s H scope (compEnvC scope cl Ca X.env) fp p) w p → PTs (blkH X s H scope (compEnvC scope cl Ca X.env) fp p) ifs (tT w W0 cond))
    (he : ∀ (s : Shared) (H : Hp) (Ca : Addr) (cl : List (Str × Addr)) (fp : List Addr), CtH (blkH X s H scope (compEnvC scope cl Ca X.env) fp p) w p → PE (blkH X s H scope (compEnvC scope cl Ca X.env) fp p) elt (tP w W0 el))
    (hs : ∀ x, foldedSetIterable iter X.env x = pure x := by intro _; rfl) : PE X (.ListComp elt [⟨tg, iter, ifs, 0⟩] scope pos) (tF w W (cComp (own.map (·.2)) t it cond el)) :=
  PE.imp (pe_lcH C.hot C.pm C.nd hi ok (fun s H Ca cl fp => hg s H Ca cl fp (C.blk ..)) (fun s H Ca cl fp => ht s H Ca cl fp (C.blk ..)) (fun s H Ca cl fp => he s H Ca cl fp (C.blk ..)) hs) (comp_read hix)
theorem ps_sH {i : Nat} {x : Str} {pos' : Pos} {f : Ev → M D} (nd : X.N.Nodup) (hi : X.N[i]? = some x) (hx : Loc X.env.scope x) (he : PE X e (tP w W f)) (hs : swapsWith e (some (.Name x pos')) pos.line X.env = pure false := by rfl)
    (hf : X.fn x = true ∨ X.env.scope.names.lookup x = some .local := by first | exact .inl rfl | exact .inr rfl | assumption) : PS X (.Assign [.Name x pos'] e pos) (tS w W (sSet i f)) := PS.imp (ps_set nd hi hx he hs hf) rd_set
/-- sep.join([..]) -/
def strsOf : List D → Option (List Str)
  | [] => some []
  | .str x :: r => (strsOf r).map (x :: ·)
  | _ => none
theorem strsOf_eq : ∀ {ds : List D} {ys : List Str} {K : PySem.W.Frag} {ca : Option Addr} {F : Addr → Prop} {H : Hp} {vs : List V}, strsOf ds = some ys → DFs K ca F H vs ds → vs = ys.map V.str
  | [], ys, _, _, _, _, vs, e, r => by
    cases e
    cases r
    rfl
  | d :: ds, ys, _, _, _, _, vs, e, r => by
    cases r with
    | cons a b =>
      cases d with
      | str x =>
        simp only [strsOf] at e
        cases h : strsOf ds with
        | none => rw [h] at e; cases e
        | some zs =>
          rw [h] at e
          cases e
          cases a
          rw [strsOf_eq h b]
          rfl
      | _ => cases e
def cJoin (sep : Str) (f : Ev → M (List D)) : Ev → M D := fun env c => (f env c).bnd fun ds c1 => match strsOf ds with
  | some ys => if (ys.map (·.length)).sum + ys.length * sep.length ≤ 16777216 then .ok (.str (Txt.join sep ys)) c1 else .bad
  | none => .bad
theorem pp_join {sep : Str} {j : Nat} {apos : Pos} {f : Ev → M (List D)} (he : PE X e (tF w W f)) (hs : starEach [e] X.env = [(false, eval e X.env)] := by rfl) (hbase : attributeBase (.Constant (.str sep) j q1) "join" X.env (eval (.Constant (.str sep) j q1) X.env) = eval (.Constant (.str sep) j q1) X.env := by rfl) (hline : (apos.endLine == pos.line) = true := by rfl) :
    PE X (.Call (.Attribute (.Constant (.str sep) j q1) "join" apos) [e] [] pos) (tP w W (cJoin sep f)) :=
  PE.imp (pe_join pe_str he hs hbase hline) fun σ H Q ⟨G, F, env, c, S, q⟩ => by
    refine ⟨⟨sep, rfl⟩, G, F, env, c, S, (Post.bnd (R1 := RF w) sh_RD q).imp (fun _ _ _ _ _ z => z) ?_⟩
    rintro x H1 ⟨F1, ds, c1, s1, S1, ⟨pa, us, e1, h1, h2, h3, h4⟩, q1⟩
    cases hz : strsOf ds with
    | none => rw [hz] at q1; exact q1.elim
    | some ys =>
      rw [hz] at q1
      dsimp only at q1
      split at q1
      · rename_i hl
        have eu := strsOf_eq hz h4
        subst eu
        exact ⟨sep, pa, ys, rfl, by rw [e1], .inl (SqL.of h3), hl, q1 F1 _ H1 (Step.refl S1.dom) S1 (.str _)⟩
      · exact q1.elim
/-- isinstance(e, C), e what is handled -/
def cIsE (a : Addr) (b : Bool) (f : Ev → M D) : Ev → M D := fun env c => (f env c).bnd fun d c1 => match d with
  | .obj a' => if a' = a then .ok (.bl b) c1 else .bad
  | _ => .bad
theorem pp_isE {a Da Ca : Addr} {b : Bool} {oe : Obj} {pn : List (Addr × Obj)} {cx : Str} {f : Ev → M D} (hK : X.K = w.K) (hmg : X.mg = w.mg) (E : ExcC w.K Da) (hz : Zc (.ref Da) none oe) (hf : ∃ vs, oe.data = .fields vs)
    (hg : Gl (X.suite a ((a, oe) :: pn)) "isinstance") (hm : w.mg "isinstance" = none) (hgc : Gl (X.suite a ((a, oe) :: pn)) cx) (hmc : w.mg cx = some (.ref Ca)) (hb : PySem.W.kitOne w.K (.ref Da) (.ref Ca) = some b) (ha : PE (X.suite a ((a, oe) :: pn)) e (tP w W f)) (hd : (cx == ("__debug__" : Str)) = false := by decide)
    (he : starEach (e :: [.Name cx q2]) X.env = (false, eval e X.env) :: starEach [.Name cx q2] X.env := by rfl) (he2 : starEach ((.Name cx q2) :: []) X.env = (false, eval (.Name cx q2) X.env) :: starEach [] X.env := by rfl) (hpl : (backTo pos (starEach [.Name cx q2] X.env)).any (·.1) = false := by rfl) :
    PE (X.suite a ((a, oe) :: pn)) (.Call (.Name "isinstance" q1) [e, .Name cx q2] [] pos) (tP w W (cIsE a b f)) :=
  PE.imp (pe_callB (call_isE (hK ▸ E) hz hf) hg (by show X.mg _ = none; rw [hmg]; exact hm) (by decide +kernel) (pa_cons ha (pa_cons (pe_glob (v := .ref Ca) hgc (by show X.mg _ = _; rw [hmg]; exact hmc) rfl hd) pa_nil he2) he) (by decide) (by decide) he hpl) fun σ H Q ⟨G, F, env, c, S, q⟩ => by
    refine ⟨G, F, env, c, S, (Post.bnd (R1 := RD w) sh_RD q).imp (fun _ _ _ _ _ z => z) ?_⟩
    rintro x H1 ⟨F1, d, c1, s1, S1, r1, q1⟩
    split at q1
    · rename_i a'
      split at q1
      · rename_i ea
        subst ea
        cases r1
        exact ⟨.ref Ca, .ref Ca, b, rfl, fun u r => r, by show PySem.W.kitOne X.K _ _ = _; rw [hK]; exact hb, q1 F1 _ H1 (Step.refl S1.dom) S1 (.bl b)⟩
      · exact q1.elim
    · exact q1.elim
end
end Hm

set_option Elab.async false
set_option linter.all false
set_option maxRecDepth 100000
set_option maxHeartbeats 2000000
/-! # P11: what a try makes of a lambda's call -/
namespace Hm
open PySem PySem.Spec PyProof.Rows L2 L2H LamX
/-- all but the tables stay, nothing goes -/
def ExtT (H H' : Hp) : Prop := ExtN H H' ∧ ∀ b o, H b = some o → ∃ o', H' b = some o'
section
variable {X : Cx} {pins : List (Addr × Obj)} {σ : L2.St} {H : Hp} {s : Shared}
theorem lam_mk3 {T : List (Addr × Str)} {c P : Addr} {params : Arguments} {body : Expr} {scope : Scope} {pos : Pos} {E : Value → Shared → Prop} {Q : Value → Shared → Prop} (I : Inv X pins σ H s) (TB : TabB X.base X.mg c P) (hcd : X.env.code = .ref c)
    (hm : (P, X.env.qual ++ "<lambda>") ∈ T) (hu : ∀ p ∈ T, p.1 = P → p.2 = X.env.qual ++ "<lambda>") (hT : Tabs T H) (hdf : defaultsOf params X.env = ([], [])) (hfr : ∀ y ∈ scope.names, y.2 = .free → ∃ c, X.env.cells.lookup y.1 = some c)
    (h : ∀ (f c' : Addr) (pm ctv : Value) (H1 : Hp) (s' : Shared), Inv X pins σ H1 s' → ExtT H H1 → Tabs T H1 →
      s'.heap.get? f = some (PySem.W.kla_obj "<lambda>" (X.env.qual ++ "<lambda>") params body scope (cloFrom X.env.cells scope.names []) pm c' ctv) → H1 f = none → f ∉ frs X.stack → H1 c' = some (CodeO c' (X.env.qual ++ "<lambda>")) → Q (.ref f) s') :
    wpAny (model X.prog X.w) X.A (eval (.Lambda params body scope pos) X.env) Q E s := by
  obtain ⟨ps, hP, ht, ha⟩ := hT _ hm
  refine PySem.W.kla_eval hdf ?_
  have bPP : s.heap.BuiltinsAt X.mg P := TB.bm.keeps I.bk
  have hP' : s.heap.get? P = some { cls := .none, data := .fields ps } := I.hok P _ hP
  have nofrm : ∀ f, s.heap.objs.size ≤ f → f ∉ frs X.stack := fun f hf z => by
    rcases List.mem_cons.mp (I.stkSub _ z) with e | e
    · have h1 := I.lt
      rw [← e] at h1
      exact Nat.lt_irrefl _ (Nat.lt_of_lt_of_le h1 hf)
    · exact I.nofs hf e
  cases hcq : codeAmong pos ps.toList with
  | none =>
    refine PySem.W.kla_makeFunction (mg := X.mg) (c := c) (P := P) (ps := ps) (closure_ok hfr) I.ok.glob (I.mod.glob.keeps I.bk) hcd (TB.code.keeps I.bk) hP' ht hcq TB.gP bPP fun c' ctv h' tk kx gge llt rec1 tb1 => ?_
    obtain ⟨c2, oc, vs, t, e2, hoc, hd, hv⟩ := rec1
    cases e2
    have szz : s.heap.objs.size ≤ h'.objs.size := Nat.le_trans gge (Nat.le_of_lt llt)
    have nC : H c' = none := I.hok.fresh gge
    have I1 := inv_table (t' := tk) (more := #[rawInt pos.line, rawInt pos.col, .ref c']) (h' := h'.push (PySem.W.kla_obj "<lambda>" (X.env.qual ++ "<lambda>") params body scope (cloFrom X.env.cells scope.names []) ((X.mg "__name__").getD .none) c' ctv)) I hP
      (fun b o hb e => Heap.get?_push_of_some _ (kx b o hb e)) (Heap.get?_push_of_some _ tb1) gge ⟨oc, vs, t, Heap.get?_push_of_some _ hoc, hd, hv⟩
    have hE : ExtN H (upd (upd H P (.tbl (ps ++ #[rawInt pos.line, rawInt pos.col, .ref c']))) c' (CodeO c' (X.env.qual ++ "<lambda>"))) := fun b o e n => by
      rw [upd_ne (ne_of_none e nC), upd_ne (fun z => n ps (Option.some.inj (e.symm.trans (by rw [z]; exact hP))))]
      exact e
    have eL : (ps ++ #[rawInt pos.line, rawInt pos.col, .ref c']).toList = ps.toList ++ [rawInt pos.line, rawInt pos.col, .ref c'] := by simp
    refine h h'.objs.size c' ((X.mg "__name__").getD .none) ctv _ _ I1 ⟨hE, fun b o e => by
      by_cases nb : b = P
      · exact ⟨_, by rw [nb, upd_ne (ne_of_none hP nC), upd_same]⟩
      · exact ⟨o, by rw [upd_ne (ne_of_none e nC), upd_ne nb]; exact e⟩⟩ (fun p hp => ?_) (Heap.get?_push_size _ rfl) ?_ (nofrm _ szz) upd_same
    · by_cases hb : p.1 = P
      · rw [hu p hp hb, hb]
        refine ⟨_, by rw [upd_ne (ne_of_none hP nC), upd_same], by rw [eL]; exact PySem.TriplesOk_snoc _ _ _ _ ht, fun p' cv hcv => ?_⟩
        rw [eL] at hcv
        rcases among_app _ ht hcv with z | z
        · obtain ⟨c0, e1, e2⟩ := ha p' cv z
          exact ⟨c0, e1, hE _ _ e2 codeO_ne⟩
        · exact ⟨c', z, upd_same⟩
      · obtain ⟨ps', a1, a2, a3⟩ := hT p hp
        refine ⟨ps', by rw [upd_ne (ne_of_none a1 nC), upd_ne hb]; exact a1, a2, fun p' cv hcv => ?_⟩
        obtain ⟨c0, e1, e2⟩ := a3 p' cv hcv
        exact ⟨c0, e1, hE _ _ e2 codeO_ne⟩
    · have n1 : h'.objs.size ≠ c' := Nat.ne_of_gt llt
      have n2 : h'.objs.size ≠ P := Nat.ne_of_gt (Nat.lt_of_lt_of_le (Heap.lt_size hP') szz)
      rw [upd_ne n1, upd_ne n2]
      exact I.hok.fresh szz
  | some cv =>
    obtain ⟨c', e, hco⟩ := ha pos cv hcq
    subst e
    refine PySem.W.kla_makeFunctionHit (mg := X.mg) (c := c) (P := P) (ps := ps) (closure_ok hfr) I.ok.glob (I.mod.glob.keeps I.bk) hcd (TB.code.keeps I.bk) hP' ht hcq bPP fun ctv h' tk kx szz => ?_
    have I1 : Inv X pins σ H { s with heap := h'.push (PySem.W.kla_obj "<lambda>" (X.env.qual ++ "<lambda>") params body scope (cloFrom X.env.cells scope.names []) ((X.mg "__name__").getD .none) c' ctv), toks := tk } := I.kept fun b o e => Heap.get?_push_of_some _ (kx b o e)
    exact h h'.objs.size c' ((X.mg "__name__").getD .none) ctv H _ I1 ⟨ExtN.refl H, fun b o e => ⟨o, e⟩⟩ hT (Heap.get?_push_size _ rfl) (I.hok.fresh szz) (nofrm _ szz) hco
end
def tLamT (T : List (Addr × Str)) (TT : (XK → Hp → VK → Prop) → Hp → VK → Prop) (t : XK → TE) : TE := fun σ H Q => Tabs T H ∧ ∀ H1, ExtT H H1 → Tabs T H1 → TT (fun E H' Q' => t E σ H' Q') H1 Q
section
variable {X : Cx} {pins : List (Addr × Obj)} {σ : L2.St} {H : Hp} {s : Shared}
theorem pe_lamcallN {T : List (Addr × Str)} {TT : (XK → Hp → VK → Prop) → Hp → VK → Prop} {x a : Str} {g c P : Addr} {k : Nat} {pg : Arguments} {bg : List Stmt} {sg : Scope} {dV kV doc pm cdv ct oc : Value} {an od : Option Addr} {osl : Array (Option Value)} {Ng : List Str}
    {params : Arguments} {body : Expr} {scope : Scope} {t : XK → TE} {p lpos pos : Pos} (hg : Gl X x) (hm : X.mg x = some (.ref g)) (hk : PySem.W.keepIn X.K (.ref g) = true)
    (lk : X.K.lookup g = some ⟨oc, od, .func (PySem.W.fnOf x x pg bg sg dV kV doc pm an cdv ct), osl⟩) (hcg : PySem.W.codeIn X.K cdv x = true) (hb : L2.Binds X.K (PySem.W.fnOf x x pg bg sg dV kV doc pm an cdv ct) [a] []) (Sg : FnScope Ng [a] sg) (hNg : Ng[0]? = some a) (hva : Vis sg a)
    (hG : GivesN X Ng x sg g cdv bg a (X.env.qual ++ "<lambda>") TT)
    (TB : TabB X.base X.mg c P) (hcode : X.env.code = .ref c) (hmT : (P, X.env.qual ++ "<lambda>") ∈ T) (hu : ∀ p ∈ T, p.1 = P → p.2 = X.env.qual ++ "<lambda>") (hr : Room (k + 2) X.A) (L : LamS X.env.scope scope) (hdef : defaultsOf params X.env = ([], []))
    (hbind : ∀ (q : Str) (cl : List (Str × Addr)) (pm cv ctv : Value), bindArgs (PySem.W.kla_fn "<lambda>" q params body scope cl pm cv ctv) ⟨[], []⟩ = pure [])
    (hbody : ∀ (A : Around) (outer : List Env) (s : Shared) (H : Hp) (E : XK) (f c' : Addr), Room k (A.deeper (lamEnv X scope s.heap.objs.size f c')) → PE (lamN X A outer s H E scope f c') body (t E))
    (hdb : (x == ("__debug__" : Str)) = false := by decide) (hd : (a == ("__debug__" : Str)) = false := by decide) (hcd : (a == ("__classdict__" : Str)) = false := by decide) :
    PE X (.Call (.Name x p) [.Lambda params body scope lpos] [] pos) (tLamT T TT t) := by
  constructor
  rintro pins s σ H Q I ⟨hT, h⟩
  refine wpAny_Call_Name_kw (ld_glob I hg hm ?_ hdb)
  refine PySem.W.callWith_K (h₀ := X.base) I.ok.mod.kin hk ?_ (by rfl) (by rfl)
  show wpAny _ _ (spliced ((false, eval (.Lambda params body scope lpos) X.env) :: backTo pos (starEach [] X.env))) _ _ s
  refine Calls.spliced_cons (lam_mk3 I TB hcode hmT hu hT hdef (L.has I.ok) fun f c' pm' ctv H1 s' I1 eN T1 hf hfn hfr hco => ?_)
  refine Calls.spliced_nil ⟨I1.kIn, ?_⟩
  have rc : codeAny (model X.prog X.w) X.A (.call (.ref g) ⟨[.ref f], []⟩) (CR C8.CX0 X.stack X.prog X.w H1 s' Q C8.E0) s' := by
    refine run_ofS (N := Ng) (ps := [a]) (us := [.ref f]) (vs := [.ref f]) lk hcg Sg hr I1.env0 (hb s' [.ref f] I1.kIn rfl) (.cons rfl .nil) rfl fun hr' => ?_
    obtain ⟨t', ht', hq'⟩ := hG f c' s' H1 Q (fun E H' Q' => t E σ H' Q') (fun W pn xe E p1 p2 tk hW => pe_actN (i := 0) I1 L hf hfn hfr (hbind _ _ _ _ _) tk hW hr' (fun A outer s H hr2 => hbody A outer s H E f c' hr2) hNg hva hd hcd) hco (h H1 eN T1)
    exact ⟨t', ht'.nox, hq'⟩
  refine wpAny_call (codeAny_mono rc fun r s2 hq => ?_)
  cases r with
  | error e => exact (show False from hq).elim
  | ok fl =>
    cases fl with
    | ret u => exact I1.after hq
    | next => exact False.elim hq
    | brk => exact False.elim hq
    | cont => exact False.elim hq
end

section
variable {X : Cx} {w : Wd} {W : XK} {k : Nat}
theorem SR.any {ca : Option Addr} {F : Addr → Prop} {H : Hp} {σ : L2.St} {n : Nat} {c : Cup} (hl : σ.length = n) (hc : CupAt ca c H) (hF : ∀ a, ca = some a → ¬ F a) (ht : Tabs w.T H) (hd : ∀ b, F b → ∃ o, H b = some o) :
    SR w ⟨ca, H, F⟩ F σ (List.replicate n .no) c H := by
  have no : ∀ {i : Nat} {sl : Sl}, (List.replicate n Sl.no)[i]? = some sl → sl = .no := fun {i sl} e => (List.mem_replicate.mp (List.mem_of_getElem? e)).2
  exact ⟨by simp [hl], fun i sl e => by rw [no e]; trivial, fun i j us es a _ e1 _ _ _ => (by have := no e1; cases this), hc, hF, ht, hd, fun b f => .inl f, fun b o e _ _ => e, fun b o e => ⟨o, e⟩⟩
/-- what the suite makes of an exception -/
def SuitOk (w : Wd) (word : Str → Option Str) (cls : Value) (dd : Option Addr) (H : Hp) (Q : VK) : Prop :=
  ∃ (nm y : Str) (Da : Addr) (ca : Option Addr) (F : Addr → Prop) (c : Cup), word nm = some y ∧ w.mg nm = some (.ref Da) ∧ cls = .ref Da ∧ dd = none ∧ CupAt ca c H ∧ (∀ a, ca = some a → ¬ F a) ∧ Tabs w.T H ∧ (∀ b, F b → ∃ o, H b = some o) ∧
    ∀ F' H', Step ca F H F' H' → CupAt ca c H' → Tabs w.T H' → Q (.str y) H'
def TTerr (w : Wd) (word : Str → Option Str) (dflt : Str) : (XK → Hp → VK → Prop) → Hp → VK → Prop := fun tl H Q =>
  ∃ E : XK, tl E H (fun _ H' => Q (.str dflt) H') ∧ ∀ cls dd H', E cls dd H' → SuitOk w word cls dd H' Q
/-- the suite's own words -/
abbrev envE (n i : Nat) (a : Addr) : Ev := (List.replicate n Sl.no).set i (.fz (.obj a))
theorem gives_err {Ng : List Str} {x a en hx q dflt : Str} {sg : Scope} {g CH : Addr} {cdg : Value} {j i : Nat} {p1 p2 p3 p4 p5 p6 p7 p8 : Pos} {b₀ : Stmt} {suite : List Stmt} {word : Str → Option Str} {sufn : Addr → Str → MS}
    (hK : X.K = w.K) (hmg : X.mg = w.mg) (nd : Ng.Nodup) (hi : Ng[i]? = some en) (hln : sg.names.lookup en = some .local) (hge : sg.names.lookup hx = some .globalImplicit) (hme : w.mg hx = some (.ref CH)) (hi0 : Ng ≠ [])
    (hexm : ∀ nm y Da, word nm = some y → w.mg nm = some (.ref Da) → PySem.W.exmOne w.K (.ref Da) (.ref CH) = some true)
    (hsu : ∀ (s : Shared) (H : Hp) (a : Addr) (oe : Obj) (pn : List (Addr × Obj)) (nm y : Str) (Da : Addr), word nm = some y → w.mg nm = some (.ref Da) → L2N.Zn (.ref Da) none oe → (∃ vs, oe.data = .fields vs) →
      CtH ((cxOf C8.CX0 X.prog X.w X.K X.mg X.base Ng x sg g cdg X.A X.stack s H C8.E0).nox.suite a ((a, oe) :: pn)) w (a, oe) →
      PSs ((cxOf C8.CX0 X.prog X.w X.K X.mg X.base Ng x sg g cdg X.A X.stack s H C8.E0).nox.suite a ((a, oe) :: pn)) (b₀ :: suite) (tS w W0 (sufn a nm)))
    (hres : ∀ a nm y c, word nm = some y → ∃ env', sufn a nm (envE Ng.length i a) c = .ok (.ret (.str y), env') c)
    (hde : (hx == ("__debug__" : Str)) = false := by decide) :
    GivesN X Ng x sg g cdg [.Try [.Expr (.Call (.Name a p1) [] [] p2) p3] [.ExceptHandler (some (.Name hx p4)) (some en) (b₀ :: suite) p7] [] [] p8, .Return (some (.Constant (.str dflt) j p5)) p6] a q (TTerr w word dflt) := by
  intro f c' s H Q tl act hc h
  obtain ⟨E, h1, h2⟩ := h
  have hgl : Gl (cxOf C8.CX0 X.prog X.w X.K X.mg X.base Ng x sg g cdg X.A X.stack s H C8.E0).nox hx := hge
  refine ⟨_, pss_cons (L2N.ps_try_as (X := (cxOf C8.CX0 X.prog X.w X.K X.mg X.base Ng x sg g cdg X.A X.stack s H C8.E0).nox) (c := .ref CH) (i := i)
      (tb := fun W De σ H => ∃ Ech : XK, (∀ cls d σ' H', Ech cls d H' → W cls d σ' H') ∧ σ[0]? = some (some (.ref f)) ∧ H c' = some (CodeO c' q) ∧ tl Ech H (fun _ H' => De.nx σ H'))
      (ts := fun a cls d De σ H => σ.length = Ng.length → ∃ nm y Da, word nm = some y ∧ w.mg nm = some (.ref Da) ∧ cls = .ref Da ∧ d = none ∧ tS w W0 (sufn a nm) De σ H)
      (Wout := fun _ _ _ _ => False) rfl rfl nd hi hln ⟨hgl, hde, .inl (by show X.mg _ = _; rw [hmg]; exact hme)⟩ takesN0 (fun W pn xe tk _ => ?_) (fun a oe cls d pn hz hv => ?_)) (pss_one (ps_ret pe_str)), ?_⟩
  · refine ⟨fun pins s' σ H' De I h' => ?_⟩
    obtain ⟨Ech, hW, e1, e2, e3⟩ := h'
    exact (pss_one (ps_expr (pos := p3) (act W pn xe Ech p1 p2 tk hW))).run pins s' σ H' De I ⟨e1, e2, e3⟩
  · refine ⟨fun pins s' σ H' De I h' => ?_⟩
    obtain ⟨nm, y, Da, e1, e2, e3, e4, e5⟩ := h' I.len
    subst e3 e4
    obtain ⟨vs, hvs⟩ := hv
    exact (hsu s H a oe pn nm y Da e1 e2 hz ⟨vs, hvs⟩ ⟨hK, hmg, nd, ⟨rfl, vs, hvs, hz.2.2 vs hvs⟩, List.mem_cons_self⟩).run pins s' σ H' De I e5
  · refine ⟨E, fun cls d σ' H' z => ?_, ?_, hc, h1⟩
    · obtain ⟨nm, y, Da, ca, F, c, z1, z2, z3, z4, z5, z6, z7, z8, z9⟩ := h2 cls d H' z
      subst z3 z4
      refine ⟨true, by show PySem.W.exmOne X.K _ _ = _; rw [hK]; exact hexm nm y Da z1 z2, fun _ a ha hlen => ⟨nm, y, Da, z1, z2, rfl, rfl, ?_⟩, fun z => nomatch z⟩
      have S := (SR.any (w := w) (F := F) (σ := σ') (n := Ng.length) (by simpa using hlen) z5 z6 z7 z8).setFz (i := i) (DF.obj a)
      refine ⟨⟨ca, H', F⟩, F, _, c, S, ?_⟩
      obtain ⟨env', er⟩ := hres a nm y c z1
      rw [er]
      intro F' σ2 env2 v H2 f2 S2 r2
      cases r2
      exact z9 F' H2 ⟨f2.1, fun b o e n t => S2.ext b o e n t, S2.there, S2.sub, S2.dom⟩ S2.cup S2.tabs
    · unfold L2.start
      cases Ng with
      | nil => exact absurd rfl hi0
      | cons y r => rfl
end

section
variable {X : Cx} {w : Wd} {W : XK} {k : Nat} {pos : Pos}
/-- the table of a def that makes lambdas -/
structure LamT (w : Wd) (base : Heap) (x q : Str) (f : Addr) (c P : Addr) : Prop where
  code : ∃ (oc : Value) (od : Option Addr) (fd : FuncData) (osl : Array (Option Value)), w.K.lookup f = some ⟨oc, od, .func fd, osl⟩ ∧ fd.code = .ref c
  tab : TabB base w.mg c P
  mem : (P, q) ∈ w.T
  one : ∀ p ∈ w.T, p.1 = P → p.2 = q
def cErr (word : Str → Option Str) (dflt : Str) (f : Ev → M D) : Ev → M D := fun env c => match f env c with
  | .ok _ c' => .ok (.str dflt) c'
  | .exc e c' => match e.arg with
    | none => (match word e.nm with
      | some y => .ok (.str y) c'
      | none => .bad)
    | some _ => .bad
  | .bad => .bad
/-- the def that tells errors -/
structure ErrD (X : Cx) (w : Wd) (x : Str) (word : Str → Option Str) (dflt : Str) : Prop where
  ex : ∃ (g : Addr) (a : Str) (pg : Arguments) (bg : List Stmt) (sg : Scope) (dV kV doc pm cdv ct oc : Value) (an od : Option Addr) (osl : Array (Option Value)) (Ng : List Str),
    X.mg x = some (.ref g) ∧ PySem.W.keepIn X.K (.ref g) = true ∧ X.K.lookup g = some ⟨oc, od, .func (PySem.W.fnOf x x pg bg sg dV kV doc pm an cdv ct), osl⟩ ∧ PySem.W.codeIn X.K cdv x = true ∧ L2.Binds X.K (PySem.W.fnOf x x pg bg sg dV kV doc pm an cdv ct) [a] [] ∧
    FnScope Ng [a] sg ∧ Ng[0]? = some a ∧ Vis sg a ∧ (a == ("__debug__" : Str)) = false ∧ (a == ("__classdict__" : Str)) = false ∧ ∀ q, GivesN X Ng x sg g cdv bg a q (TTerr w word dflt)
theorem pp_err {x : Str} {params : Arguments} {body : Expr} {scope : Scope} {lpos p : Pos} {f' : Ev → M D} {word : Str → Option Str} {dflt : Str} {q : Str} {c P : Addr} {f0 : Addr} {x0 : Str} (C : Ctx X w W (k + 2)) (E : ErrD X w x word dflt) (hg : Gl X x)
    (LT : LamT w X.base x0 q f0 c P) (hq : X.env.qual ++ "<lambda>" = q) (hcode : X.env.code = .ref c) (L : LamS X.env.scope scope) (hdef : defaultsOf params X.env = ([], []))
    (hbind : ∀ (q : Str) (cl : List (Str × Addr)) (pm cv ctv : Value), bindArgs (PySem.W.kla_fn "<lambda>" q params body scope cl pm cv ctv) ⟨[], []⟩ = pure [])
    (hbody : ∀ (A : Around) (outer : List Env) (s : Shared) (H : Hp) (E : XK) (f c' : Addr), Ctx (lamN X A outer s H E scope f c') w E k → PE (lamN X A outer s H E scope f c') body (tP w E f'))
    (hdb : (x == ("__debug__" : Str)) = false := by decide) :
    PE X (.Call (.Name x p) [.Lambda params body scope lpos] [] pos) (tP w W (cErr word dflt f')) := by
  obtain ⟨g, a, pg, bg, sg, dV, kV, doc, pm, cdv, ct, oc, an, od, osl, Ng, e1, e2, e3, e4, e5, e6, e7, e8, e9, e10, e11⟩ := E.ex
  subst hq
  refine PE.imp (pe_lamcallN (T := w.T) (TT := TTerr w word dflt) (t := fun E => tP w E f') (k := k) hg e1 e2 e3 e4 e5 e6 e7 e8 (e11 _) (C.hmg ▸ LT.tab) hcode LT.mem LT.one C.room L hdef hbind
    (fun A outer s H E f c' hr => hbody A outer s H E f c' ⟨C.hK, C.hmg, L2N.takes_of rfl rfl rfl rfl, rfl, C.nd, hr, passes_of rfl⟩) hdb e9 e10) fun σ H Q ⟨G, F, env, c, S, qq⟩ => ?_
  refine ⟨S.tabs, fun H1 eT T1 => ?_⟩
  have s1 : Step G.ca F H F H1 := ⟨fun _ z => z, fun b o e _ n => eT.1 b o e n, eT.2, fun _ z => .inl z, fun b z => by
    obtain ⟨o, e⟩ := S.dom b z
    exact eT.2 b o e⟩
  have c1 : CupAt G.ca c H1 := fun a e => eT.1 a _ (S.cup a e) fun ps z => nomatch z
  have S1 := S.step s1 c1 T1
  unfold cErr at qq
  refine ⟨fun cls dd H' => SuitOk w word cls dd H' Q, ?_, fun cls dd H' z => z⟩
  refine ⟨G, F, env, c, S1, ?_⟩
  cases hr : f' env c with
  | bad => rw [hr] at qq; exact qq.elim
  | ok d c' =>
    rw [hr] at qq
    exact fun F' v H' s' S' _ => qq F' (.str dflt) H' (s1.trans s') S' (.str dflt)
  | exc e c' =>
    rw [hr] at qq
    dsimp only at qq
    cases ea : e.arg with
    | some _ => rw [ea] at qq; exact qq.elim
    | none =>
      rw [ea] at qq
      dsimp only at qq
      cases ew : word e.nm with
      | none => rw [ew] at qq; exact qq.elim
      | some y =>
        rw [ew] at qq
        intro F' cls dd H' s' S' r'
        obtain ⟨Da, r1, r2, r3⟩ := r'
        rw [ea] at r3
        exact ⟨e.nm, y, Da, G.ca, F', c', ew, r1, r2, r3, S'.cup, S'.cupF, S'.tabs, S'.dom, fun F2 H2 s2 c2 t2 => qq F2 (.str y) H2 (s1.trans (s'.trans s2)) (S'.step s2 c2 t2) (.str y)⟩
end
end Hm

set_option Elab.async false
set_option linter.all false
set_option maxRecDepth 100000
set_option maxHeartbeats 2000000
/-! # P12: t[::-1] -/
namespace Hm
open PySem PySem.Spec PyProof.Rows L2
section
variable {prog : Program} {w : World} {A : Around} {E : Value → Shared → Prop} {s : Shared}
theorem places_rev (n : Nat) : Builtin.Slice.slicePlaces ((n : Int) - 1) (-1) (-1) = n := by
  unfold Builtin.Slice.slicePlaces
  rw [if_neg (by omega)]
  by_cases h : n = 0
  · subst h
    rfl
  · rw [if_pos (by omega)]
    rw [show (n : Int) - 1 - -1 - 1 = n - 1 by omega, show -(-1 : Int) = 1 by rfl, Int.ediv_one]
    omega
theorem pick_rev (xs : Array Value) : ((List.range xs.size).filterMap fun (m : Nat) => xs[(((xs.size : Int) - 1) + (m : Int) * -1).toNat]?).toArray = xs.toList.reverse.toArray := by
  have key : ∀ l : List Value, (List.range l.length).filterMap (fun (m : Nat) => l[(((l.length : Int) - 1) + (m : Int) * -1).toNat]?) = l.reverse := by
    intro l
    have h2 : (List.range l.length).map (fun (m : Nat) => l[(((l.length : Int) - 1) + (m : Int) * -1).toNat]?) = l.reverse.map some := by
      apply List.ext_getElem
      · simp
      · intro i h1 h2
        simp only [List.length_map, List.length_range] at h1
        simp only [List.getElem_map, List.getElem_range, List.getElem_reverse]
        rw [show (((l.length : Int) - 1) + (i : Int) * -1).toNat = l.length - 1 - i by omega]
        rw [List.getElem?_eq_getElem (by omega)]
    have h3 : (List.range l.length).filterMap (fun (m : Nat) => l[(((l.length : Int) - 1) + (m : Int) * -1).toNat]?) = ((List.range l.length).map (fun (m : Nat) => l[(((l.length : Int) - 1) + (m : Int) * -1).toNat]?)).filterMap id := by
      rw [List.filterMap_map]
      rfl
    rw [h3, h2, List.filterMap_map]
    simp
  have k := key xs.toList
  simp only [Array.length_toList, Array.getElem?_toList] at k
  rw [k]
theorem applied_rev {sl : Addr} {vs : Value} {n : Nat} {Q : Int × Int × Nat → Shared → Prop} (hs : s.heap.IsSliceOf sl .none .none vs) (ps : IsPart vs (some (-1)))
    (h : Q ((n : Int) - 1, -1, n) s) : wpAny (model prog w) A (Builtin.Slice.sliceApplied (.ref sl) (pure (n : Int))) Q E s := by
  obtain ⟨ob, hob, hcb, hdb⟩ := id hs
  unfold Builtin.Slice.sliceApplied Builtin.Slice.sliceFields
  refine wpAny_bind (wpAny_bind (wpAny_field hob hdb (x := .none) rfl (wpAny_bind (wpAny_field hob hdb (x := .none) rfl (wpAny_bind (wpAny_field hob hdb (x := vs) rfl (wpAny_pure ?_)))))))
  refine wpAny_bind (HT.slicePart_ ps ?_)
  show wpAny _ _ (if ((-1 : Int) == 0) = true then _ else _) _ _ s
  rw [if_neg (by decide)]
  refine wpAny_bind (HT.slicePart_ .none (wpAny_bind (HT.slicePart_ .none (wpAny_bind (wpAny_pure ?_)))))
  show wpAny _ _ (pure (((n : Int) - 1), (-1 : Int), Builtin.Slice.slicePlaces ((n : Int) - 1) (-1) (-1))) _ _ s
  rw [places_rev]
  exact wpAny_pure h
theorem item_rev {t sl : Addr} {items : Array Value} {vs : Value} {Q : Value → Shared → Prop} (ht : IsTup s.heap t items) (hs : s.heap.IsSliceOf sl .none .none vs) (ps : IsPart vs (some (-1)))
    (h : Q (.ref s.heap.objs.size) { s with heap := s.heap.push { cls := .type "tuple", data := .seq items.toList.reverse.toArray } }) (hsz : items.size ≤ sizeLine) : wpAny (model prog w) A (getItem (.ref t) (.ref sl)) Q E s := by
  have hr : sizeOk (.seq items.toList.reverse.toArray) := by
    show items.toList.reverse.toArray.size ≤ sizeLine
    simpa using hsz
  obtain ⟨ob, hob, hcb, hdb⟩ := id hs
  have hTs : s.TypeIs (.ref sl) "slice" := ⟨ob, hob, hcb⟩
  unfold getItem
  try with_reducible refine wpAny_holding ?_
  first | refine wpAny_bind (wpAny_pure ?_) | skip
  refine wpAny_bind (wpAny_sequenceKey ht.typeIs (by decide) ?_)
  refine wpAny_bind (wpAny_callSpecial?_slot (name := Str.ofString "__getitem__") ht.typeIs PyProof.Rows.slot_tuple_getitem (wpAny_call_entry PyProof.Rows.slot_tuple_getitem ht.typeIs entry_tuple_getitem ?_ (args_tuple_getitem _ _)))
  show wpAny _ _ (Builtin.Tuple.tupleItemsOf (.ref t) >>= _) _ _ s
  refine wpAny_bind (tupleItemsOf_ ht ?_)
  refine wpAny_bind (wpAny_typeOf hTs ?_)
  rw [if_pos (by decide)]
  refine wpAny_bind (applied_rev hs ps ?_)
  show wpAny _ _ (if (((items.size : Int) - 1) == 0 && (-1 : Int) == 1 && items.size == items.size) = true then _ else _) _ _ s
  rw [if_neg (by simp), pick_rev]
  first
    | exact wpAny_bind (m := Builtin.Tuple.tupleExact _) (wpAny_newObj_type (wpAny_pure ⟨_, rfl, wpAny_pure h⟩) hr)
    | exact wpAny_bind (m := Builtin.Tuple.tupleExact _) (wpAny_newObj_type (wpAny_bind (wpAny_pure (wpAny_pure ⟨_, rfl, wpAny_pure h⟩))) hr)
    | exact wpAny_bind (wpAny_bind (m := Builtin.Tuple.tupleExact _) (wpAny_newObj_type (wpAny_pure (wpAny_pure ⟨_, rfl, wpAny_pure h⟩)) hr))
    | exact wpAny_bind (wpAny_bind (m := Builtin.Tuple.tupleExact _) (wpAny_newObj_type (wpAny_pure ⟨_, rfl, wpAny_pure h⟩) hr))
end
section
variable {X : Cx}
def tRevT (K : PySem.W.Frag) (te : TE) : TE := fun σ H Q => te σ H fun x H1 => ∃ a xs, x = .ref a ∧ SqT K H1 a xs ∧ ∀ p, H1 p = none → Q (.ref p) (upd H1 p (.tup xs.reverse))
theorem pe_revT {e : Expr} {te : TE} {k : Nat} {p1 p2 p3 pos : Pos} (he : PE X e te) : PE X (.Subscript e (.Slice none none (some (.UnaryOp .USub (.Constant (.int 1) k p1) p2)) p3) pos) (tRevT X.K te) := by
  constructor
  intro pins s σ H Q I h
  refine Subscript_ (thn (he.run pins s σ H _ I h) fun v s1 ⟨x, H1, I1, r1, a, xs, ex, hx, q⟩ => ?_)
  subst ex
  cases r1
  have hst : PO X (some (.UnaryOp .USub (.Constant (.int 1) k p1) p2)) (tPart (tUn (rU fun i => .int (-i)) (tC (.int 1)))) := po_some (pe_un un_neg pe_int)
  refine wpAny_Slice (thn (po_none.run pins s1 σ H1 (fun o H2 => o = none ∧ H2 = H1) I1 ⟨rfl, rfl⟩) fun vl s2 ⟨l, H2, I2, pl, el, e2⟩ => ?_)
  subst el e2
  refine thn (po_none.run pins s2 σ H2 (fun o H3 => o = none ∧ H3 = H2) I2 ⟨rfl, rfl⟩) fun vu s3 ⟨u, H3, I3, pu, eu, e3⟩ => ?_
  subst eu e3
  refine thn (hst.run pins s3 σ H3 (fun o H4 => o = some (-1) ∧ H4 = H3) I3 ⟨1, rfl, -1, rfl, rfl, rfl⟩) fun vs s4 ⟨o, H4, I4, ps, eo, e4⟩ => ?_
  subst eo e4
  cases pl
  cases pu
  have I5 : Inv X pins σ H4 { s4 with heap := s4.heap.push { cls := .type "slice", data := .fields #[.none, .none, vs] } } := I4.kept (t' := s4.toks) fun b ob q => Heap.get?_push_of_some _ q
  obtain ⟨its, r, ht, hz⟩ := I5.tuple hx
  have hlen := r.length
  show wpAny (model X.prog X.w) X.A (subscriptTail e (.Slice none none (some (.UnaryOp .USub (.Constant (.int 1) k p1) p2)) p3) (.ref a) (.ref s4.heap.objs.size)) (EP X pins σ Q) X.xe { s4 with heap := s4.heap.push { cls := .type "slice", data := .fields #[.none, .none, vs] } }
  refine tail_any (ops := [.ref a, .ref s4.heap.objs.size]) ht.typeIs (PyProof.Rows.slot_tuple_getitem.lookup) ?_ (by with_unfolding_all rfl)
  refine item_rev ht (Heap.IsSliceOf.new _ .none .none vs) ps ?_ (by rw [List.size_toArray]; omega)
  refine ⟨.ref _, _, I5.laid (t' := s4.toks) (o := .tup xs.reverse) (fun b ob q => Heap.get?_push_of_some _ q) (Nat.le_refl _) ?_, rfl, q _ (I5.hok.fresh (Nat.le_refl _))⟩
  exact ⟨by rw [List.length_reverse]; exact hz, _, by simpa using r.reverse, IsTup.new _ _⟩
end
section
variable {X : Cx} {w : Wd} {W : XK} {k : Nat} {e : Expr} {pos : Pos}
def dRev : D → Option D
  | .tup xs => some (.tup xs.reverse)
  | _ => none
theorem pp_rev {f : Ev → M D} {j : Nat} {p1 p2 p3 : Pos} (C : Ctx X w W k) (he : PE X e (tB w W f)) : PE X (.Subscript e (.Slice none none (some (.UnaryOp .USub (.Constant (.int 1) j p1) p2)) p3) pos) (tP w W (cUn dRev f)) :=
  PE.imp (pe_revT he) fun σ H Q ⟨G, F, env, c, S, q⟩ => by
    refine ⟨G, F, env, c, S, (Post.bnd (R1 := RB w) sh_RD q).imp (fun _ _ _ _ _ z => z) ?_⟩
    rintro x H1 ⟨F1, d, c1, s1, S1, r1, q1⟩
    cases hz : dRev d with
    | none => rw [hz] at q1; exact q1.elim
    | some z =>
      rw [hz] at q1
      have fin := Post.val S1 q1
      unfold dRev at hz
      split at hz
      · cases hz
        obtain ⟨p, us, rfl, ha, ra⟩ := r1.tup.tupS
        exact ⟨p, us, rfl, by rw [C.hK]; exact ha, fun p hp => new_tup S1.dom fin ra.reverse hp⟩
      · cases hz
end
end Hm

set_option Elab.async false
set_option linter.all false
set_option maxRecDepth 100000
set_option maxHeartbeats 2000000
/-! # P13: defs with lambdas, errors' facts, the law -/
namespace Hm
open PySem PySem.Spec PyProof.Rows L2 L2H LamX
section
variable {w : Wd}
/-! ### what is asked of an exception's class -/
def excOkB (K : PySem.W.Frag) (nm hum : Str) (cs : List Str) : Bool :=
  decide (PySem.W.findIn K (.ref (He.ga K nm)) "__getattribute__" = some (some (.builtin "BaseException.__getattribute__"))) && (decide (PySem.W.findIn K (.ref (He.ga K nm)) "__getattr__" = some none) &&
    (decide (PySem.W.subIn K (.ref (He.ga K nm)) (.type "BaseException") = some true) && (PySem.W.hasDictIn K (He.ga K nm) && (decide (PySem.W.findIn K (.ref (He.ga K nm)) "__class__" = some (some (.builtin "object.__class__"))) &&
      (decide (PySem.W.specialIn K (.builtin "object.__class__") "__get__" = some (some (.builtin "getset_descriptor.__get__"))) && (decide (PySem.W.takesIn K (.builtin "object.__class__") = some true) && (decide (PySem.W.mroIn K (He.ga K nm) (.type "object") = some true) &&
        (decide (PySem.W.exmOne K (.ref (He.ga K nm)) (.ref (He.ga K hum)) = some true) && cs.all fun c => decide (PySem.W.kitOne K (.ref (He.ga K nm)) (.ref (He.ga K c)) = some (decide (nm = c)))))))))))
structure ExcOk (K : PySem.W.Frag) (nm hum : Str) (cs : List Str) : Prop where
  cls : ExcC K (He.ga K nm)
  exm : PySem.W.exmOne K (.ref (He.ga K nm)) (.ref (He.ga K hum)) = some true
  kit : ∀ c ∈ cs, PySem.W.kitOne K (.ref (He.ga K nm)) (.ref (He.ga K c)) = some (decide (nm = c))
theorem excOk_of {K : PySem.W.Frag} {nm hum : Str} {cs : List Str} (h : excOkB K nm hum cs = true) : ExcOk K nm hum cs := by
  unfold excOkB at h
  simp only [Bool.and_eq_true, decide_eq_true_eq, List.all_eq_true] at h
  obtain ⟨h1, h2, h3, h4, h5, h6, h7, h8, h9, h10⟩ := h
  exact ⟨⟨h1, h2, h3, h4, h5, h6, h7, h8⟩, h9, h10⟩
/-- the errors that a law tells: their names and words -/
structure Errs (w : Wd) (hum : Str) (cs : List Str) (tab : List (Str × Str)) : Prop where
  hgl : w.mg hum = some (.ref (He.ga w.K hum))
  gl : ∀ p ∈ tab, w.mg p.1 = some (.ref (He.ga w.K p.1))
  ok : ∀ p ∈ tab, ExcOk w.K p.1 hum cs
  cs : ∀ c ∈ cs, w.mg c = some (.ref (He.ga w.K c))
def wordOf (tab : List (Str × Str)) (nm : Str) : Option Str := tab.lookup nm
theorem Errs.at {hum : Str} {cs : List Str} {tab : List (Str × Str)} (E : Errs w hum cs tab) {nm y : Str} {Da : Addr} (h : wordOf tab nm = some y) (hm : w.mg nm = some (.ref Da)) : ExcOk w.K nm hum cs ∧ Da = He.ga w.K nm := by
  have hmem : (nm, y) ∈ tab := PySem.mem_of_lookup h
  have e := E.gl _ hmem
  rw [hm] at e
  exact ⟨E.ok _ hmem, by cases e; rfl⟩
theorem Errs.cls {hum : Str} {cs : List Str} {tab : List (Str × Str)} (E : Errs w hum cs tab) {nm y : Str} {Da : Addr} (h : wordOf tab nm = some y) (hm : w.mg nm = some (.ref Da)) : ExcC w.K Da := by
  obtain ⟨h1, rfl⟩ := E.at h hm
  exact h1.cls
theorem Errs.exm {hum : Str} {cs : List Str} {tab : List (Str × Str)} (E : Errs w hum cs tab) {nm y : Str} {Da : Addr} (h : wordOf tab nm = some y) (hm : w.mg nm = some (.ref Da)) : PySem.W.exmOne w.K (.ref Da) (.ref (He.ga w.K hum)) = some true := by
  obtain ⟨h1, rfl⟩ := E.at h hm
  exact h1.exm
theorem Errs.kit {hum : Str} {cs : List Str} {tab : List (Str × Str)} (E : Errs w hum cs tab) {nm y c : Str} {Da : Addr} (h : wordOf tab nm = some y) (hm : w.mg nm = some (.ref Da)) (hc : c ∈ cs) : PySem.W.kitOne w.K (.ref Da) (.ref (He.ga w.K c)) = some (decide (nm = c)) := by
  obtain ⟨h1, rfl⟩ := E.at h hm
  exact h1.kit c hc
theorem word_all {tab : List (Str × Str)} {p : Str → Str → Prop} (h : ∀ q ∈ tab, p q.1 q.2) {nm y : Str} (e : wordOf tab nm = some y) : p nm y := h (nm, y) (PySem.mem_of_lookup e)
end
theorem res_by {r : Res (Fl × Ev)} {d : D} {c : Cup} (h : (match r with | .ok (.ret d', _) c' => some (d', c') | _ => none) = some (d, c)) : ∃ env', r = .ok (.ret d, env') c := by
  match r, h with
  | .ok (.ret d', env') c', h =>
    cases h
    exact ⟨env', rfl⟩
section
variable {P : Program} {wl : World} {base : Heap} {w : Wd}
theorem LamT.cd {x q qual : Str} {f c Pa : Addr} {params : Arguments} {body : List Stmt} {scope : Scope} {dV kV doc pm cdv ct oc : Value} {an od : Option Addr} {osl : Array (Option Value)} (L : LamT w base x q f c Pa)
    (lk : w.K.lookup f = some ⟨oc, od, .func (PySem.W.fnOf x qual params body scope dV kV doc pm an cdv ct), osl⟩) : cdv = .ref c := by
  obtain ⟨oc', od', fd', osl', e1, e2⟩ := L.code
  rw [lk] at e1
  cases e1
  exact e2
theorem fnDL {x q qual : Str} {st : Stmt} {f c Pa : Addr} {fd : FuncData} {N ps : List Str} {k : Nat} {g : MS} (F : Fun w.K x qual st f fd) (L : LamT w base x q f c Pa) (S : FnScope N ps (defScope st))
    (hbody : ∀ (cdv : Value) (A : Around) (outer : List Env) (s : Shared) (H : Hp) (E : XK), cdv = .ref c → Ctx (cxOf (L2N.CX P wl) P wl w.K w.mg base N qual (defScope st) f cdv A outer s H E) w E k →
      PSs (cxOf (L2N.CX P wl) P wl w.K w.mg base N qual (defScope st) f cdv A outer s H E) (defBody st) (tS w E g)) :
    FnOk P wl w.K w.mg base (L2N.CX P wl) (k + 1) f fd ps (spD w ps.length (runD N.length g)) := by
  obtain ⟨oc, od, kV, doc, pm, an, cdv, ct, osl, rfl, lk, hcd⟩ := F.ex
  refine fn_of lk hcd S (fun vs H Q E h => ?_) (fun A outer s H vs Q E hr h => ⟨tS w E g, hbody cdv A outer s H E (L.cd lk) ⟨rfl, rfl, L2N.takes_of rfl rfl rfl rfl, rfl, S.nd, hr, passes_of rfl⟩, ?_⟩)
  · obtain ⟨_, _, _, _, h, _⟩ := h
    exact h
  · obtain ⟨ca, F, ds, c, hl, hv, hc, hF, ht, hd, q⟩ := h
    exact ⟨⟨ca, H, F⟩, F, startE N.length ds, c, SR.start N hv hc hF ht hd, PostS.fin q⟩
theorem defDL {x q : Str} {st : Stmt} {N ps : List Str} {k n np : Nat} {g : MS} (hT : ∃ f fd, Fun w.K x x st f fd ∧ w.mg x = some (.ref f)) (hL : ∃ f c Pa, w.mg x = some (.ref f) ∧ LamT w base x q f c Pa) (S : FnScope N ps (defScope st)) (hn : N.length = n) (hp : ps.length = np)
    (hb : ∀ (kV doc pm : Value) (an : Option Addr) (cdv ct : Value) (us : List Value), us.length = ps.length → bindArgs (PySem.W.fnOf x x (defArgs st) (defBody st) (defScope st) .none kV doc pm an cdv ct) ⟨us, []⟩ = pure (ps.zip us))
    (hbody : ∀ (f c Pa : Addr) (cdv : Value) (A : Around) (outer : List Env) (s : Shared) (H : Hp) (E : XK), LamT w base x q f c Pa → cdv = .ref c → Ctx (cxOf (L2N.CX P wl) P wl w.K w.mg base N x (defScope st) f cdv A outer s H E) w E k →
      PSs (cxOf (L2N.CX P wl) P wl w.K w.mg base N x (defScope st) f cdv A outer s H E) (defBody st) (tS w E g)) : DefD P wl base w x (k + 1) np (runD n g) := by
  obtain ⟨f, fd, F, hm⟩ := hT
  obtain ⟨f', c, Pa, hm', L⟩ := hL
  rw [hm] at hm'
  cases hm'
  subst hn hp
  exact ⟨f, fd, ps, hm, F.kp, F.binds hb, rfl, fnDL F L S fun cdv A outer s H E e => hbody f c Pa cdv A outer s H E L e⟩
/-! ### the law -/
def spLaw (w : Wd) (n : Nat) : Sp := fun vs H Q _ => ∃ (a : Addr) (ns : List Int), vs = [V.ref a] ∧ ns.length ≤ n ∧ SqL w.K H a (ns.map V.int) ∧ Tabs w.T H ∧ ∀ H', Q (.bl true) H'
theorem scr_at {a : Addr} {ns : List Int} {H : Hp} (h : SqL w.K H a (ns.map V.int)) : ∃ F0 : Addr → Prop, (∀ b, F0 b → ∃ o, H b = some o) ∧ DF w.K none F0 H (.ref a) (.scr ns) := by
  rcases h with (h | ⟨o, h⟩) | ⟨o, its, m, e1, e2, e3, e4, e5, e6⟩
  · exact ⟨fun b => b = a, fun b e => ⟨_, (congrArg H (show b = a from e)).trans h⟩, .scrL rfl h⟩
  · exact ⟨fun b => b = a, fun b e => ⟨_, (congrArg H (show b = a from e)).trans h⟩, .scr rfl h⟩
  · exact ⟨fun _ => False, fun b e => e.elim, .scrK e1 e2 e3 e4 e5 e6⟩
theorem set_same {σ : L2.St} {i : Nat} {v : V} (h : σ[i]?.join = some v) : σ.set i (some v) = σ := by
  cases e : σ[i]? with
  | none => rw [e] at h; cases h
  | some o =>
    rw [e] at h
    have h' : o = some v := h
    subst h'
    obtain ⟨hi, e2⟩ := List.getElem?_eq_some_iff.mp e
    rw [← e2]
    exact List.set_getElem_self hi
theorem law_ok {st : Stmt} {f : Addr} {fd : FuncData} {x : Str} {N : List Str} {k n i : Nat} {g1 g2 : XK → MS} {Lc : Value → Prop} (F : Fun w.K x x st f fd) (hL : ∀ (oc : Value) (od : Option Addr) (kV doc pm : Value) (an : Option Addr) (cdv ct : Value) (osl : Array (Option Value)), w.K.lookup f = some ⟨oc, od, .func (PySem.W.fnOf x x (defArgs st) (defBody st) (defScope st) .none kV doc pm an cdv ct), osl⟩ → Lc cdv)
    (S : FnScope N ["script"] (defScope st)) (hN : N ≠ [])
    (hbody : ∀ (cdv : Value) (A : Around) (outer : List Env) (s : Shared) (H : Hp) (E : XK), Lc cdv → Ctx (cxOf (L2N.CX P wl) P wl w.K w.mg base N x (defScope st) f cdv A outer s H E) w E k →
      PSs (cxOf (L2N.CX P wl) P wl w.K w.mg base N x (defScope st) f cdv A outer s H E) (defBody st) (tSeq (tS w E (g1 E)) (tS w E (g2 E))))
    (hplain : ∀ (E : XK) (ns : List Int), ns.length ≤ n → ∃ a b env', g1 E ((List.replicate N.length .no).set 0 (.fz (.scr ns))) [] = .ok (.nx, env') [] ∧ env'.length = N.length ∧ env'[i]? = some (.fz (.lst [.int a, .int b])) ∧
      ∃ env2 c2, g2 E ((List.replicate N.length .no).set i (.fz .cup)) [a, b] = .ok (.ret (.bl true), env2) c2) :
    FnOk P wl w.K w.mg base (L2N.CX P wl) (k + 1) f fd ["script"] (spLaw w n) := by
  obtain ⟨oc, od, kV, doc, pm, an, cdv, ct, osl, rfl, lk, hcd⟩ := F.ex
  refine fn_of lk hcd S (fun vs H Q E h => ?_) (fun A outer s H vs Q E hr h => ⟨_, hbody cdv A outer s H E (hL _ _ _ _ _ _ _ _ _ lk) ⟨rfl, rfl, L2N.takes_of rfl rfl rfl rfl, rfl, S.nd, hr, passes_of rfl⟩, ?_⟩)
  · obtain ⟨a, ns, rfl, _⟩ := h
    rfl
  · obtain ⟨a, ns, rfl, hl, hs, ht, hq⟩ := h
    obtain ⟨F0, hd, r0⟩ := scr_at hs
    obtain ⟨x1, x2, env', e1, e2, e3, env2, c2, e4⟩ := hplain E ns hl
    have hst : (L2.start N [V.ref a])[0]?.join = some (.ref a) := by
      unfold L2.start
      cases N with
      | nil => exact absurd rfl hN
      | cons y r => rfl
    have hlen : (L2.start N [V.ref a]).length = N.length := by
      unfold L2.start
      cases N with
      | nil => exact absurd rfl hN
      | cons y r => simp
    have S0 := (SR.any (w := w) (ca := none) (F := F0) (H := H) (σ := L2.start N [V.ref a]) (c := []) hlen (fun b e => nomatch e) (fun b e => nomatch e) ht hd).setFz (i := 0) r0
    rw [set_same hst] at S0
    refine ⟨⟨none, H, F0⟩, F0, _, [], S0, ?_⟩
    rw [e1]
    intro F' σ' H' f' S'
    obtain ⟨v, h1, h2⟩ := S'.slot i _ e3
    cases h2 with
    | lst fp hp rr =>
      rename_i p xs
      have ex : xs = [.int x1, .int x2] := by
        cases rr with
        | cons a1 r1 =>
          cases r1 with
          | cons a2 r2 =>
            cases r2
            cases a1
            cases a2
            rfl
      subst ex
      have S1 := (SR.any (w := w) (ca := some p) (F := fun _ => False) (H := H') (σ := σ') (c := [x1, x2]) (n := N.length) (by rw [S'.len, e2]) (fun b e => by cases e; exact hp) (fun b e z => z) S'.tabs fun b z => z.elim).setFz (i := i) (DF.cup (K := w.K) (F := fun _ => False) (H := H') (a := p) rfl)
      rw [set_same h1] at S1
      refine ⟨⟨some p, H', fun _ => False⟩, fun _ => False, _, [x1, x2], S1, ?_⟩
      rw [e4]
      intro F2 σ2 env3 v H2 f2 S2 r2
      cases r2
      exact hq H2
theorem spLaw_in {n : Nat} {a : Addr} {ns : List Int} {H : Hp} (h1 : ns.length ≤ n) (h2 : SqL w.K H a (ns.map V.int)) (h3 : Tabs w.T H) : spLaw w n [.ref a] H (fun v _ => v = .bl true) fun _ _ _ => False := ⟨a, ns, rfl, h1, h2, h3, fun _ => rfl⟩
end
end Hm

set_option Elab.async false
set_option linter.all false
set_option maxRecDepth 100000
set_option maxHeartbeats 2000000
/-! # P14: from the head's facts to the law's -/
namespace Hm
open PySem PySem.Spec PyProof.Rows L2 L2H LamX
section
variable {K : PySem.W.Frag} {h base : Heap} {mg : Str → Option Value} {w : World} {fa : List He.Fa} {fn : List He.DefD} {tf : List He.Defn} {ex : PySem.W.Frag → Bool} {T : List (Addr × Str)}
theorem fun_of {x : Str} {st : Stmt} {f : Addr} {fd : FuncData} (F : FunD K x x (defArgs st) (defBody st) (defScope st) [] [] f fd) : Fun K x x st f fd := by
  obtain ⟨oc, od, dV, kV, doc, pm, an, cdv, ct, osl, e, lk, hcd, hD, _⟩ := F.ex
  rcases hD with ⟨_, e2⟩ | ⟨e2, _⟩
  · subst e2
    exact ⟨⟨oc, od, kV, doc, pm, an, cdv, ct, osl, e, lk, hcd⟩, F.kp⟩
  · exact absurd rfl e2
theorem exc_of {x : Str} (X : K.In h) (G : h.Ns mainGlobals mg) (c1 : (He.Fa.glo x).ok K = true) (c2 : (He.Fa.exc x).ok K = true) : ∃ Ca, ExcD (⟨K, mg, T⟩ : Wd).K (⟨K, mg, T⟩ : Wd).mg x Ca := by
  obtain ⟨a, b, c, d⟩ := He.exc_ok c2
  exact ⟨He.ga K x, He.glo_ok X G c1, a, b, c, d⟩
theorem def_of {x : Str} {st : Stmt} (X : K.In h) (G : h.Ns mainGlobals mg) (c1 : (He.Fa.glo x).ok K = true) (F : ∃ fd, FunD K x x (defArgs st) (defBody st) (defScope st) [] [] (He.fAd K (x, none)) fd) :
    ∃ f fd, Fun (⟨K, mg, T⟩ : Wd).K x x st f fd ∧ (⟨K, mg, T⟩ : Wd).mg x = some (.ref f) := by
  obtain ⟨fd, F⟩ := F
  exact ⟨_, fd, fun_of F, He.glo_ok X G c1⟩
theorem nodup_inj {α β : Type} {f : α → β} : ∀ {l : List α}, (l.map f).Nodup → ∀ {a b : α}, a ∈ l → b ∈ l → f a = f b → a = b
  | x :: r, h, a, b, ha, hb, e => by
    rw [List.map_cons, List.nodup_cons] at h
    rcases List.mem_cons.mp ha with e1 | h1
    · rcases List.mem_cons.mp hb with e2 | h2
      · rw [e1, e2]
      · exact absurd (List.mem_map.mpr ⟨b, h2, by rw [← e1, e]⟩) h.1
    · rcases List.mem_cons.mp hb with e2 | h2
      · exact absurd (List.mem_map.mpr ⟨a, h1, by rw [← e2, e]⟩) h.1
      · exact nodup_inj h.2 h1 h2 e
abbrev tabsOf (K : PySem.W.Frag) (tf : List He.Defn) (qof : He.Defn → Str) : List (Addr × Str) := tf.map fun p => ((He.cT K p).2, qof p)
theorem lam_of {x : Str} {st : Stmt} {qof : He.Defn → Str} (X : K.In h) (G : h.Ns mainGlobals mg) (c1 : (He.Fa.glo x).ok K = true) (F : ∃ fd, FunD K x x (defArgs st) (defBody st) (defScope st) [] [] (He.fAd K (x, none)) fd)
    (hm : (x, none) ∈ tf) (nd : (tf.map fun p => (He.cT K p).2).Nodup) (TB : ∀ p ∈ tf, TabB base mg (He.cT K p).1 (He.cT K p).2) :
    ∃ f c Pa, (⟨K, mg, tabsOf K tf qof⟩ : Wd).mg x = some (.ref f) ∧ LamT ⟨K, mg, tabsOf K tf qof⟩ base x (qof (x, none)) f c Pa := by
  obtain ⟨fd, F⟩ := F
  obtain ⟨oc, od, dV, kV, doc, pm, an, cdv, ct, osl, e, lk, hcd, _, _⟩ := F.ex
  subst e
  obtain ⟨c0, ec⟩ := He.codeIn_ref hcd
  have e2 : He.codeOf K (x, none) = c0 := He.codeOf_eq lk ec
  refine ⟨He.fAd K (x, none), (He.cT K (x, none)).1, (He.cT K (x, none)).2, He.glo_ok X G c1, ⟨oc, od, _, osl, lk, ?_⟩, TB _ hm, List.mem_map.mpr ⟨_, hm, rfl⟩, fun p hp e3 => ?_⟩
  · show cdv = .ref (He.codeOf K (x, none))
    rw [e2]
    exact ec
  · obtain ⟨q, hq, e4⟩ := List.mem_map.mp hp
    subst e4
    rw [nodup_inj nd hq hm e3]
theorem errs_of {hum : Str} {cs : List Str} {tab : List (Str × Str)} (X : K.In h) (G : h.Ns mainGlobals mg) (c1 : (He.Fa.glo hum).ok K = true) (c2 : ∀ p ∈ tab, (He.Fa.glo p.1).ok K = true) (c3 : ∀ c ∈ cs, (He.Fa.glo c).ok K = true) (c4 : (tab.all fun p => excOkB K p.1 hum cs) = true) : Errs (⟨K, mg, T⟩ : Wd) hum cs tab :=
  ⟨He.glo_ok X G c1, fun p hp => He.glo_ok X G (c2 p hp), fun p hp => excOk_of (List.all_eq_true.mp c4 p hp), fun c hc => He.glo_ok X G (c3 c hc)⟩
theorem law_at {l : PySem.W.OpenLaw} {n k : Nat} {f : Addr} {fd : FuncData} {qof : He.Defn → Str} (X : K.In h) (c : He.SaysX fa fn [] tf ex w h K) (hb : ∀ (s : Shared) (u : Value), BindsTo s fd ⟨[u], []⟩ [("script", u)])
    (hF : ∀ base : Heap, K.In base → base.Ns mainGlobals mg → (∀ p ∈ tf, TabB base mg (He.cT K p).1 (He.cT K p).2) → FnOk l.prog w K mg base (L2N.CX l.prog w) k f fd ["script"] (spLaw ⟨K, mg, tabsOf K tf qof⟩ n)) :
    LawAtS l w K (L2N.CX l.prog w) k n "script" mg f h := by
  refine ⟨fd, tf.map (He.cT K), spLaw ⟨K, mg, tabsOf K tf qof⟩ n, fun p hp => ?_, fun p hp => ?_, fun p hp => ?_, hb, fun H a ns h1 _ h2 h3 => spLaw_in h1 h3 fun p hp => ?_, fun base k1 k2 k3 => hF base k1 k2 fun p hp => k3 _ (List.mem_map.mpr ⟨p, hp, rfl⟩)⟩
  · obtain ⟨q, hq, rfl⟩ := List.mem_map.mp hp
    exact c.empty q hq
  · obtain ⟨q, hq, rfl⟩ := List.mem_map.mp hp
    exact c.out q hq
  · obtain ⟨q, hq, rfl⟩ := List.mem_map.mp hp
    exact PySem.W.codeHd_of_K X (c.hd q hq)
  · obtain ⟨q, hq, rfl⟩ := List.mem_map.mp hp
    exact TabS.nil (h2 _ (List.mem_map.mpr ⟨q, hq, rfl⟩))
end
end Hm

set_option Elab.async false
set_option linter.all false
set_option maxRecDepth 100000
/-! # P15: steps of denotations -/
namespace Hm
open PySem PySem.Spec PyProof.Rows L2
section
variable {env e' : Ev} {c c' c1 : Cup} {g h : MS} {n i j : Nat} {d : D} {ds : List D} {r : Res (Fl × Ev)} {f : Ev → M D} {t : Ev → M Bool}
theorem run_ret (h : g (startE n ds) c = .ok (.ret d, e') c') : runD n g ds c = .ok d c' := by unfold runD; rw [h]; rfl
theorem run_nx (h : g (startE n ds) c = .ok (.nx, e') c') : runD n g ds c = .ok .non c' := by unfold runD; rw [h]; rfl
theorem run_exc {e : Exn} (h : g (startE n ds) c = .exc e c') : runD n g ds c = .exc e c' := by unfold runD; rw [h]; rfl
theorem seq_nx (h1 : g env c = .ok (.nx, e') c') (h2 : h e' c' = r) : sSeq g h env c = r := by unfold sSeq; rw [h1]; exact h2
theorem seq_ret (h1 : g env c = .ok (.ret d, e') c') : sSeq g h env c = .ok (.ret d, e') c' := by unfold sSeq; rw [h1]; rfl
theorem seq_exc {e : Exn} (h1 : g env c = .exc e c') : sSeq g h env c = .exc e c' := by unfold sSeq; rw [h1]; rfl
theorem if_t (h1 : t env c = .ok true c') (h2 : g env c' = r) : sIf t g h env c = r := by unfold sIf; rw [h1]; exact h2
theorem if_f (h1 : t env c = .ok false c') (h2 : h env c' = r) : sIf t g h env c = r := by unfold sIf; rw [h1]; exact h2
theorem if_nil_f (h1 : t env c = .ok false c') : sIf t g sNil env c = .ok (.nx, env) c' := by unfold sIf; rw [h1]; rfl
theorem set_ok (h1 : f env c = .ok d c') : sSet i f env c = .ok (.nx, env.set i (.fz d)) c' := by unfold sSet; rw [h1]; rfl
theorem setO_ok {f : Ev → M (List D)} (h1 : f env c = .ok ds c') : sSetO i f env c = .ok (.nx, env.set i (.ow ds)) c' := by unfold sSetO; rw [h1]; rfl
theorem ret_ok (h1 : f env c = .ok d c') : sRet f env c = .ok (.ret d, env) c' := by unfold sRet; rw [h1]; rfl
theorem expr_ok (h1 : f env c = .ok d c') : sExpr f env c = .ok (.nx, env) c' := by unfold sExpr; rw [h1]; rfl
theorem expr_exc {e : Exn} (h1 : f env c = .exc e c') : sExpr f env c = .exc e c' := by unfold sExpr; rw [h1]; rfl
theorem for_ok {tg : Tg} {it : Ev → M (List D)} (h1 : it env c = .ok ds c') (h2 : forL tg g ds env c' = r) : sFor tg it g env c = r := by unfold sFor; rw [h1]; exact h2
theorem forL_nil {tg : Tg} : forL tg g [] env c = .ok (.nx, env) c := rfl
theorem forL_nx {tg : Tg} {e2 : Ev} (h0 : bindT tg d env = some e2) (h1 : g e2 c = .ok (.nx, e') c') (h2 : forL tg g ds e' c' = r) : forL tg g (d :: ds) env c = r := by
  simp only [forL, h0, ofO_some, bnd_ok, h1]
  exact h2
theorem forL_ret {tg : Tg} {e2 : Ev} {d2 : D} (h0 : bindT tg d env = some e2) (h1 : g e2 c = .ok (.ret d2, e') c') : forL tg g (d :: ds) env c = .ok (.ret d2, e') c' := by
  simp only [forL, h0, ofO_some, bnd_ok, h1]
theorem while_f (h1 : t env c = .ok false c') : whileL t g (n + 1) env c = .ok (.nx, env) c' := by simp [whileL, h1]
theorem while_t (h1 : t env c = .ok true c') (h2 : g env c' = .ok (.nx, e') c1) (h3 : whileL t g n e' c1 = r) : whileL t g (n + 1) env c = r := by simp [whileL, h1, h2, h3]
theorem comp_ok {vs : List Nat} {tg : Tg} {it : Ev → M (List D)} {cond : Ev → M Bool} {el : Ev → M D} {xs : List D} (h1 : it env c = .ok ds c') (hl : ds.length ≤ 16777216) (h2 : compL tg cond el (wipeE env vs) ds c' = .ok xs c1) :
    cComp vs tg it cond el env c = .ok xs c1 := by
  unfold cComp
  rw [h1]
  simp only [bnd_ok]
  rw [if_pos (show lenOk ds = true from by unfold lenOk; simpa using hl)]
  exact h2
theorem compL_nil {tg : Tg} {cond : Ev → M Bool} {el : Ev → M D} : compL tg cond el env [] c = .ok [] c := rfl
theorem compL_t {tg : Tg} {cond : Ev → M Bool} {el : Ev → M D} {e2 : Ev} {x : D} {xs : List D} {c2 c3 : Cup} (h0 : bindT tg d env = some e2) (h1 : cond e2 c = .ok true c1) (h2 : el e2 c1 = .ok x c2) (h3 : compL tg cond el env ds c2 = .ok xs c3) :
    compL tg cond el env (d :: ds) c = .ok (x :: xs) c3 := by simp [compL, h0, h1, h2, h3, noX]
theorem compL_f {tg : Tg} {cond : Ev → M Bool} {el : Ev → M D} {e2 : Ev} {rr : Res (List D)} (h0 : bindT tg d env = some e2) (h1 : cond e2 c = .ok false c1) (h3 : compL tg cond el env ds c1 = rr) :
    compL tg cond el env (d :: ds) c = rr := by simp [compL, h0, h1, h3, noX]
/-- a comprehension whose parts leave the cup alone -/
theorem compL_pure {tg : Tg} {cond : Ev → M Bool} {el : Ev → M D} {p : D → Bool} {v : D → D} : ∀ {ds : List D}, (∀ d ∈ ds, ∃ e2, bindT tg d env = some e2 ∧ cond e2 c = .ok (p d) c ∧ (p d = true → el e2 c = .ok (v d) c)) →
    compL tg cond el env ds c = .ok ((ds.filter p).map v) c
  | [], _ => rfl
  | d :: ds, h => by
    obtain ⟨e2, h0, h1, h2⟩ := h d List.mem_cons_self
    have ih := compL_pure (tg := tg) (cond := cond) (el := el) (p := p) (v := v) (ds := ds) fun x hx => h x (List.mem_cons_of_mem _ hx)
    cases hp : p d with
    | true =>
      rw [compL_t h0 (by rw [h1, hp]) (h2 hp) ih, List.filter_cons, if_pos hp, List.map_cons]
    | false =>
      rw [compL_f h0 (by rw [h1, hp]) ih, List.filter_cons, if_neg (by rw [hp]; exact Bool.false_ne_true)]
theorem rangeOf1_int {i : Int} (h : small i = true) : rangeOf1 [.int i] = some (rangeD 0 i.toNat) := by
  show (if small i = true then some (rangeD 0 i.toNat) else none) = _
  rw [if_pos h]
theorem rng1_ok {f : Ev → M (List D)} {i : Int} (h : f env c = .ok [.int i] c') (hs : small i = true) : cRng1 f env c = .ok (rangeD 0 i.toNat) c' := by
  unfold cRng1
  rw [h, bnd_ok, rangeOf1_int hs]
  rfl
theorem small_int {i : Int} (h0 : -1000000000000 ≤ i) (h1 : i ≤ 1000000000000) : small i = true := by
  unfold small
  rw [Bool.and_eq_true, decide_eq_true_eq, decide_eq_true_eq]
  constructor
  · exact Int.le_trans (by decide) h0
  · exact Int.lt_of_le_of_lt h1 (by decide)
theorem rangeD_length (lo : Int) (n : Nat) : (rangeD lo n).length = n := by simp [rangeD]
theorem cons_ok {g : Ev → M (List D)} (h1 : f env c = .ok d c') (h2 : g env c' = .ok ds c1) : cCons f g env c = .ok (d :: ds) c1 := by
  unfold cCons
  rw [h1, bnd_ok, h2]
  rfl
theorem nil_ok : cNil env c = .ok [] c := rfl
theorem def_ok {g : Ev → M (List D)} {fn : Fn} {rr : Res D} (h1 : g env c = .ok ds c') (h2 : fn ds c' = rr) : cDef fn g env c = rr := by
  unfold cDef
  rw [h1]
  exact h2
theorem lst_ok {g : Ev → M (List D)} (h1 : g env c = .ok ds c') (h2 : ds.length ≤ 16777216) : cFz (cLst g) env c = .ok (.lst ds) c' := by
  have h : lenOk ds = true := decide_eq_true h2
  unfold cFz cLst
  rw [h1, bnd_ok, h]
  rfl
theorem lst_ok' {g : Ev → M (List D)} (h1 : g env c = .ok ds c') (h2 : ds.length ≤ 16777216) : cLst g env c = .ok ds c' := by
  have h : lenOk ds = true := decide_eq_true h2
  unfold cLst
  rw [h1, bnd_ok, h]
  rfl
theorem fz_ok {g : Ev → M (List D)} (h1 : g env c = .ok ds c') : cFz g env c = .ok (.lst ds) c' := by
  unfold cFz
  rw [h1]
  rfl
theorem tup_ok {g : Ev → M (List D)} (h1 : g env c = .ok ds c') (h2 : ds.length ≤ 16777216) : cTup g env c = .ok (.tup ds) c' := by
  have h : lenOk ds = true := decide_eq_true h2
  unfold cTup
  rw [h1, bnd_ok, h]
  rfl
theorem call_ok {g : Ev → M (List D)} {fn : List D → Option D} (h1 : g env c = .ok ds c') (h2 : fn ds = some d) : cCall fn g env c = .ok d c' := by
  unfold cCall
  rw [h1, bnd_ok, h2]
  rfl
theorem bin_ok {op : D → D → Option D} {fa fb : Ev → M D} {x y : D} (h1 : fa env c = .ok x c') (h2 : fb env c' = .ok y c1) (h3 : op x y = some d) : cBin op fa fb env c = .ok d c1 := by
  unfold cBin
  rw [h1, bnd_ok, h2, bnd_ok, h3]
  rfl
theorem un_ok {op : D → Option D} {x : D} (h1 : f env c = .ok x c') (h3 : op x = some d) : cUn op f env c = .ok d c' := by
  unfold cUn
  rw [h1, bnd_ok, h3]
  rfl
theorem tr_ok {b : Bool} (h1 : f env c = .ok (.bl b) c') : cTr f env c = .ok b c' := by
  unfold cTr
  rw [h1]
  rfl
theorem tb_ok {b : Bool} (h1 : f env c = .ok (.bl b) c') : cTb f env c = .ok b c' := by
  unfold cTb
  rw [h1]
  rfl
theorem notT_ok {b : Bool} (h1 : t env c = .ok b c') : cNotT t env c = .ok (!b) c' := by
  unfold cNotT
  rw [h1]
  rfl
theorem v_ok (h : env[i]? = some (.fz d)) : cV i env c = .ok d c := by
  unfold cV
  rw [h]
theorem sapp_ok (h1 : env[i]? = some (.ow ds)) (h2 : f env c = .ok d c') (h3 : ds.length < 16777216) : sApp i f env c = .ok (.nx, env.set i (.ow (ds ++ [d]))) c' := by
  unfold sApp
  rw [h1]
  dsimp only
  rw [h2, bnd_ok, if_pos (decide_eq_true h3)]
end
end Hm

set_option Elab.async false
set_option linter.all false
set_option maxRecDepth 100000
set_option maxHeartbeats 4000000
namespace K54
open PySem PySem.Spec PyProof.Rows L2 Hm LamX

def top (i : Nat) : Stmt := PySem.Challenge.pw_humless_k54_whole_digits.main.body.getD i (.Pass ⟨0, 0, 0, 0⟩)
abbrev s_is_whole : Stmt := top 5
abbrev s_need_whole : Stmt := top 6
abbrev s_is_tuple_of : Stmt := top 7
abbrev s_is_ascending : Stmt := top 8
abbrev s_two_to : Stmt := top 12
abbrev s_is_digits : Stmt := top 13
abbrev s_need_digits : Stmt := top 14
abbrev s_value_of : Stmt := top 15
abbrev s_is_apart : Stmt := top 16
abbrev s_apart_digits : Stmt := top 17
abbrev s_signed : Stmt := top 18
abbrev s_fewest : Stmt := top 19
abbrev s_w_cup : Stmt := top 21
abbrev s_w_roll : Stmt := top 22
abbrev s_w_two : Stmt := top 23
abbrev s_w_some : Stmt := top 24
abbrev s_w_sort : Stmt := top 25
abbrev s_w_like : Stmt := top 26
abbrev s_w_bent : Stmt := top 27
abbrev s_w_error : Stmt := top 28
abbrev s_w_bits : Stmt := top 29
abbrev s_w_is_digits : Stmt := top 30
abbrev s_w_value : Stmt := top 31
abbrev s_w_right : Stmt := top 32
abbrev s_law : Stmt := top 33
abbrev N_is_whole : List Str := ["value", "low", "high"]
theorem sc_is_whole : FnScope N_is_whole ["value", "low", "high"] (defScope s_is_whole) := ⟨rfl, rfl, rfl, by decide +kernel, rfl, by decide +kernel, by decide +kernel⟩
abbrev N_need_whole : List Str := ["value", "low", "high"]
theorem sc_need_whole : FnScope N_need_whole ["value", "low", "high"] (defScope s_need_whole) := ⟨rfl, rfl, rfl, by decide +kernel, rfl, by decide +kernel, by decide +kernel⟩
abbrev N_is_tuple_of : List Str := ["value", "low", "high"]
theorem sc_is_tuple_of : FnScope N_is_tuple_of ["value", "low", "high"] (defScope s_is_tuple_of) := ⟨rfl, rfl, rfl, by decide +kernel, rfl, by decide +kernel, by decide +kernel⟩
abbrev N_is_ascending : List Str := ["values", "one", "other"]
theorem sc_is_ascending : FnScope N_is_ascending ["values"] (defScope s_is_ascending) := ⟨rfl, rfl, rfl, by decide +kernel, rfl, by decide +kernel, by decide +kernel⟩
abbrev N_two_to : List Str := ["many", "result", "_"]
theorem sc_two_to : FnScope N_two_to ["many"] (defScope s_two_to) := ⟨rfl, rfl, rfl, by decide +kernel, rfl, by decide +kernel, by decide +kernel⟩
abbrev N_is_digits : List Str := ["value", "one", "_", "place"]
theorem sc_is_digits : FnScope N_is_digits ["value"] (defScope s_is_digits) := ⟨rfl, rfl, rfl, by decide +kernel, rfl, by decide +kernel, by decide +kernel⟩
abbrev N_need_digits : List Str := ["value"]
theorem sc_need_digits : FnScope N_need_digits ["value"] (defScope s_need_digits) := ⟨rfl, rfl, rfl, by decide +kernel, rfl, by decide +kernel, by decide +kernel⟩
abbrev N_value_of : List Str := ["digits", "sign", "place"]
theorem sc_value_of : FnScope N_value_of ["digits"] (defScope s_value_of) := ⟨rfl, rfl, rfl, by decide +kernel, rfl, by decide +kernel, by decide +kernel⟩
abbrev N_is_apart : List Str := ["digits", "one", "later"]
theorem sc_is_apart : FnScope N_is_apart ["digits"] (defScope s_is_apart) := ⟨rfl, rfl, rfl, by decide +kernel, rfl, by decide +kernel, by decide +kernel⟩
abbrev N_apart_digits : List Str := ["number", "result", "place", "sign"]
theorem sc_apart_digits : FnScope N_apart_digits ["number"] (defScope s_apart_digits) := ⟨rfl, rfl, rfl, by decide +kernel, rfl, by decide +kernel, by decide +kernel⟩
abbrev N_signed : List Str := ["number"]
theorem sc_signed : FnScope N_signed ["number"] (defScope s_signed) := ⟨rfl, rfl, rfl, by decide +kernel, rfl, by decide +kernel, by decide +kernel⟩
abbrev N_fewest : List Str := ["number"]
theorem sc_fewest : FnScope N_fewest ["number"] (defScope s_fewest) := ⟨rfl, rfl, rfl, by decide +kernel, rfl, by decide +kernel, by decide +kernel⟩
abbrev N_w_cup : List Str := ["script", "cell"]
theorem sc_w_cup : FnScope N_w_cup ["script"] (defScope s_w_cup) := ⟨rfl, rfl, rfl, by decide +kernel, rfl, by decide +kernel, by decide +kernel⟩
abbrev N_w_roll : List Str := ["cup", "many", "found", "deep"]
theorem sc_w_roll : FnScope N_w_roll ["cup", "many"] (defScope s_w_roll) := ⟨rfl, rfl, rfl, by decide +kernel, rfl, by decide +kernel, by decide +kernel⟩
abbrev N_w_two : List Str := ["many", "found", "turn"]
theorem sc_w_two : FnScope N_w_two ["many"] (defScope s_w_two) := ⟨rfl, rfl, rfl, by decide +kernel, rfl, by decide +kernel, by decide +kernel⟩
abbrev N_w_some : List Str := ["cup", "things"]
theorem sc_w_some : FnScope N_w_some ["cup", "things"] (defScope s_w_some) := ⟨rfl, rfl, rfl, by decide +kernel, rfl, by decide +kernel, by decide +kernel⟩
abbrev N_w_sort : List Str := ["value"]
theorem sc_w_sort : FnScope N_w_sort ["value"] (defScope s_w_sort) := ⟨rfl, rfl, rfl, by decide +kernel, rfl, by decide +kernel, by decide +kernel⟩
abbrev N_w_like : List Str := ["one", "other", "sort", "first", "second"]
theorem sc_w_like : FnScope N_w_like ["one", "other"] (defScope s_w_like) := ⟨rfl, rfl, rfl, by decide +kernel, rfl, by decide +kernel, by decide +kernel⟩
abbrev N_w_bent : List Str := ["cup", "value", "some", "at", "way"]
theorem sc_w_bent : FnScope N_w_bent ["cup", "value"] (defScope s_w_bent) := ⟨rfl, rfl, rfl, by decide +kernel, rfl, by decide +kernel, by decide +kernel⟩
abbrev N_w_error : List Str := ["call", "e", "some", "word", "fits"]
theorem sc_w_error : FnScope N_w_error ["call"] (defScope s_w_error) := ⟨rfl, rfl, rfl, by decide +kernel, rfl, by decide +kernel, by decide +kernel⟩
abbrev N_w_bits : List Str := ["number", "size", "sign", "found", "place", "one"]
theorem sc_w_bits : FnScope N_w_bits ["number"] (defScope s_w_bits) := ⟨rfl, rfl, rfl, by decide +kernel, rfl, by decide +kernel, by decide +kernel⟩
abbrev N_w_is_digits : List Str := ["value", "last", "one"]
theorem sc_w_is_digits : FnScope N_w_is_digits ["value"] (defScope s_w_is_digits) := ⟨rfl, rfl, rfl, by decide +kernel, rfl, by decide +kernel, by decide +kernel⟩
abbrev N_w_value : List Str := ["digits", "found", "sign", "place"]
theorem sc_w_value : FnScope N_w_value ["digits"] (defScope s_w_value) := ⟨rfl, rfl, rfl, by decide +kernel, rfl, by decide +kernel, by decide +kernel⟩
abbrev N_w_right : List Str := ["cup", "number", "own", "turned", "told", "values", "fits", "value", "sign", "place", "turn", "one", "other"]
theorem sc_w_right : FnScope N_w_right ["cup", "number"] (defScope s_w_right) := ⟨rfl, rfl, rfl, by decide +kernel, rfl, by decide +kernel, by decide +kernel⟩
abbrev N_law : List Str := ["script", "cup", "numbers", "words", "odd", "size", "number"]
theorem sc_law : FnScope N_law ["script"] (defScope s_law) := ⟨rfl, rfl, rfl, by decide +kernel, rfl, by decide +kernel, by decide +kernel⟩
def tab_w_error : List (Str × Str) := [("InvalidNumber", "number"), ("InvalidPaper", "paper")]
def cs_w_error : List Str := ["InvalidNumber", "InvalidPaper"]
def dfl_w_error : Str := ""
def su_w_error (a : Addr) (nm : Str) : MS :=
  (sSeq (sSet 2 (cFz (cLst (cCons (cTup (cCons (cC (.str "number")) (cCons (cIsE a (decide (nm = "InvalidNumber")) (cV 1)) cNil))) (cCons (cTup (cCons (cC (.str "paper")) (cCons (cIsE a (decide (nm = "InvalidPaper")) (cV 1)) cNil))) cNil)))))
  (sRet (cJoin " " (cComp [3, 4] (.tp [.nm 3, .nm 4]) (cItemsL (cV 2)) (cTr (cV 4)) (cV 3)))))
def g_is_whole : MS :=
  (sRet (cAnd (cIsi .int (cV 0)) (cAnd (cUn dNot (cIsi .bool (cV 0))) (cChain (dCmpI fun i j => decide (i ≤ j)) (dCmpI fun i j => decide (i ≤ j)) (cV 1) (cV 0) (cV 2)))))
def f_is_whole : Fn := runD 3 g_is_whole
def g_need_whole : MS :=
  (sIf (cNotT (cTr (cDef f_is_whole (cCons (cV 0) (cCons (cV 1) (cCons (cV 2) cNil))))))
  (sRaise "InvalidNumber")
  sNil)
def f_need_whole : Fn := runD 3 g_need_whole
def g_is_tuple_of : MS :=
  (sRet (cAnd (cIsi .tuple (cV 0)) (cChain (dCmpI fun i j => decide (i ≤ j)) (dCmpI fun i j => decide (i ≤ j)) (cV 1) (cCall dLen (cCons (cV 0) cNil)) (cV 2))))
def f_is_tuple_of : Fn := runD 3 g_is_tuple_of
def g_is_ascending : MS :=
  (sRet (cCall dAll (cCons (cFz (cComp [1, 2] (.tp [(.nm 1), (.nm 2)]) (cZip (cCons (cV 0) (cCons (cSl (cV 0) (cPart (cC (.int (1)))) cNoPart) cNil))) cYes (cBin dLt (cV 1) (cV 2)))) cNil)))
def f_is_ascending : Fn := runD 3 g_is_ascending
def g_two_to : MS :=
  (sSeq (sSet 1 (cC (.int (1))))
  (sSeq (sFor (.nm 2) (cRng1 (cCons (cV 0) cNil))
  (sAug 1 dMulI (cC (.int (2)))))
  (sRet (cV 1))))
def f_two_to : Fn := runD 3 g_two_to
def g_is_digits : MS :=
  (sSeq (sIf (cNotT (cTr (cDef f_is_tuple_of (cCons (cV 0) (cCons (cC (.int (0))) (cCons (cBin dAdd (cC (.int (81))) (cC (.int (1)))) cNil))))))
  (sRet (cC (.bl false)))
  sNil)
  (sSeq (sFor (.nm 1) (cItems (cV 0))
  (sIf (cOrT (cNotT (cTr (cDef f_is_tuple_of (cCons (cV 1) (cCons (cC (.int (2))) (cCons (cC (.int (2))) cNil)))))) (cOrT (cNotT (cTr (cDef f_is_whole (cCons (cBin dIx (cV 1) (cC (.int (0)))) (cCons (cUn dNeg (cC (.int (1)))) (cCons (cC (.int (1))) cNil)))))) (cOrT (cTb (cBin dEq (cBin dIx (cV 1) (cC (.int (0)))) (cC (.int (0))))) (cNotT (cTr (cDef f_is_whole (cCons (cBin dIx (cV 1) (cC (.int (1)))) (cCons (cC (.int (0))) (cCons (cC (.int (81))) cNil)))))))))
  (sRet (cC (.bl false)))
  sNil))
  (sRet (cDef f_is_ascending (cCons (cCall dTuple (cCons (cFz (cComp [2, 3] (.tp [(.nm 2), (.nm 3)]) (cItems (cV 0)) cYes (cV 3))) cNil)) cNil)))))
def f_is_digits : Fn := runD 4 g_is_digits
def g_need_digits : MS :=
  (sIf (cNotT (cTr (cDef f_is_digits (cCons (cV 0) cNil))))
  (sRaise "InvalidPaper")
  sNil)
def f_need_digits : Fn := runD 1 g_need_digits
def g_value_of : MS :=
  (sSeq (sExpr (cDef f_need_digits (cCons (cV 0) cNil)))
  (sRet (cCall dSum (cCons (cFz (cComp [1, 2] (.tp [(.nm 1), (.nm 2)]) (cItems (cV 0)) cYes (cBin dMul (cV 1) (cDef f_two_to (cCons (cV 2) cNil))))) cNil))))
def f_value_of : Fn := runD 3 g_value_of
def g_is_apart : MS :=
  (sSeq (sExpr (cDef f_need_digits (cCons (cV 0) cNil)))
  (sRet (cCall dAll (cCons (cFz (cComp [1, 2] (.tp [(.nm 1), (.nm 2)]) (cZip (cCons (cV 0) (cCons (cSl (cV 0) (cPart (cC (.int (1)))) cNoPart) cNil))) cYes (cBin (dCmpI fun i j => decide (j ≤ i)) (cBin dSub (cBin dIx (cV 2) (cC (.int (1)))) (cBin dIx (cV 1) (cC (.int (1))))) (cC (.int (2)))))) cNil))))
def f_is_apart : Fn := runD 3 g_is_apart
def g_apart_digits : MS :=
  (sSeq (sSetO 1 (cLst cNil))
  (sSeq (sSet 2 (cC (.int (0))))
  (sSeq (whileL (cTb (cBin dNe (cV 0) (cC (.int (0)))))
  (sSeq (sIf (cTb (cBin dEq (cBin dMod (cCall dInt (cCons (cV 0) cNil)) (cC (.int (2)))) (cC (.int (1)))))
  (sSeq (sSet 3 (cBin dSub (cC (.int (2))) (cBin dMod (cCall dInt (cCons (cV 0) cNil)) (cC (.int (4))))))
  (sSeq (sApp 1 (cTup (cCons (cV 3) (cCons (cV 2) cNil))))
  (sAug 0 dSub (cV 3))))
  sNil)
  (sSeq (sAug 0 dDiv (cC (.int (2))))
  (sAug 2 dAddI (cC (.int (1)))))) 300)
  (sRet (cCall dTuple (cCons (cO 1) cNil))))))
def f_apart_digits : Fn := runD 4 g_apart_digits
def g_signed : MS :=
  (sSeq (sExpr (cDef f_need_whole (cCons (cV 0) (cCons (cUn dNeg (cC (.int (1208925819614629174706176)))) (cCons (cC (.int (1208925819614629174706176))) cNil)))))
  (sRet (cDef f_apart_digits (cCons (cV 0) cNil))))
def f_signed : Fn := runD 1 g_signed
def g_fewest : MS :=
  (sSeq (sExpr (cDef f_need_whole (cCons (cV 0) (cCons (cUn dNeg (cC (.int (1208925819614629174706176)))) (cCons (cC (.int (1208925819614629174706176))) cNil)))))
  (sRet (cCall dLen (cCons (cDef f_apart_digits (cCons (cV 0) cNil)) cNil))))
def f_fewest : Fn := runD 1 g_fewest
def g_w_cup : MS :=
  (sSeq (sSet 1 (cCall dAbs (cCons (cBin dIx (cBin dAdd (cCall dList (cCons (cV 0) cNil)) (cFz (cLst (cCons (cC (.int (0))) cNil)))) (cC (.int (0)))) cNil)))
  (sRet (cFz (cLst (cCons (cIf (cTb (cBin (dCmpI fun i j => decide (j ≤ i)) (cV 1) (cBin dPow (cC (.int (10))) (cC (.int (18)))))) (cBin dDiv (cV 1) (cC (.int (113)))) (cC (.int (0)))) (cCons (cBin dAdd (cBin dMod (cCall dInt (cCons (cBin dAdd (cBin dMul (cV 1) (cC (.int (367)))) (cC (.int (5347)))) cNil)) (cC (.int (1994132857)))) (cC (.int (241)))) cNil))))))
def f_w_cup : Fn := runD 2 g_w_cup
def g_w_roll : MS :=
  (sSeq (sIf (cTb (cBin (dCmpI fun i j => decide (j < i)) (cCupIx (cV 0) 0) (cC (.int (0)))))
  (sSeq (sSet 2 (cBin dMod (cCall dInt (cCons (cCupIx (cV 0) 0) cNil)) (cV 1)))
  (sSeq (sCupSet 0 0 (cBin dDiv (cCupIx (cV 0) 0) (cV 1)))
  (sRet (cV 2))))
  sNil)
  (sSeq (sCupSet 0 1 (cBin dMod (cCall dInt (cCons (cBin dAdd (cBin dMul (cCupIx (cV 0) 1) (cC (.int (30269)))) (cC (.int (9173)))) cNil)) (cC (.int (2147483579)))))
  (sSeq (sSet 3 (cBin dMod (cCall dInt (cCons (cBin dMul (cCupIx (cV 0) 1) (cBin dAdd (cCupIx (cV 0) 1) (cC (.int (307))))) cNil)) (cC (.int (2147483563)))))
  (sRet (cBin dMod (cCall dInt (cCons (cBin dDiv (cV 3) (cC (.int (887)))) cNil)) (cV 1))))))
def f_w_roll : Fn := runD 4 g_w_roll
def g_w_two : MS :=
  (sSeq (sSet 1 (cC (.int (1))))
  (sSeq (sFor (.nm 2) (cRng1 (cCons (cV 0) cNil))
  (sSet 1 (cBin dMul (cV 1) (cC (.int (2))))))
  (sRet (cV 1))))
def f_w_two : Fn := runD 3 g_w_two
def g_w_some : MS :=
  (sRet (cBin dIx (cV 1) (cDef f_w_roll (cCons (cV 0) (cCons (cCall dLen (cCons (cV 1) cNil)) cNil)))))
def f_w_some : Fn := runD 2 g_w_some
def g_w_sort : MS :=
  (sSeq (sIf (cOrT (cTb (cBin dIs (cV 0) (cC .non))) (cTr (cIsi .bool (cV 0))))
  (sRet (cIf (cTb (cBin dIs (cV 0) (cC .non))) (cC (.int (0))) (cC (.int (1)))))
  sNil)
  (sSeq (sIf (cOrT (cTr (cIsi .int (cV 0))) (cTr (cIsi .str (cV 0))))
  (sRet (cIf (cTr (cIsi .int (cV 0))) (cC (.int (2))) (cC (.int (3)))))
  sNil)
  (sRet (cIf (cTr (cIsi .tuple (cV 0))) (cC (.int (4))) (cIf (cTr (cIsi .list (cV 0))) (cC (.int (5))) (cC (.int (6))))))))
def f_w_sort : Fn := runD 1 g_w_sort
def g_w_like (rec : Fn) : MS :=
  (sSeq (sSet 2 (cDef f_w_sort (cCons (cV 1) cNil)))
  (sSeq (sIf (cOrT (cTb (cBin dNe (cDef f_w_sort (cCons (cV 0) cNil)) (cV 2))) (cTb (cBin dEq (cV 2) (cC (.int (6))))))
  (sRet (cC (.bl false)))
  sNil)
  (sSeq (sIf (cTb (cBin dIn (cV 2) (cTup (cCons (cC (.int (4))) (cCons (cC (.int (5))) cNil)))))
  (sRet (cAnd (cBin dEq (cCall dLen (cCons (cV 0) cNil)) (cCall dLen (cCons (cV 1) cNil))) (cBin dEq (cFz (cComp [3, 4] (.tp [(.nm 3), (.nm 4)]) (cZip (cCons (cV 0) (cCons (cV 1) cNil))) (cNotT (cTr (cDef rec (cCons (cV 3) (cCons (cV 4) cNil))))) (cC (.int (1))))) (cFz (cLst cNil)))))
  sNil)
  (sRet (cBin dEq (cV 0) (cV 1))))))
def f_w_like : Nat → Fn
  | 0 => fun _ _ => .bad
  | n + 1 => runD 5 (g_w_like (f_w_like n))
def g_w_bent (rec : Fn) : MS :=
  (sSeq (sIf (cOrT (cNotT (cTr (cIsi .tuple (cV 1)))) (cOrT (cTb (cBin dEq (cV 1) (cTup cNil))) (cTb (cBin dEq (cDef f_w_roll (cCons (cV 0) (cCons (cC (.int (6))) cNil))) (cC (.int (0)))))))
  (sSeq (sSet 2 (cFz (cLst (cCons (cC .non) (cCons (cC (.bl true)) (cCons (cC (.int (0))) (cCons (cC (.int (1))) (cCons (cUn dNeg (cC (.int (1)))) (cCons (cC (.int (2))) (cCons (cC (.int (9))) (cCons (cC (.int (13))) (cCons (cC (.int (26))) (cCons (cC (.str "")) (cCons (cC (.str "add")) (cCons (cTup cNil) (cCons (cFz (cLst cNil)) (cCons (cTup (cCons (cC (.int (0))) cNil)) (cCons (cTup (cCons (cC (.int (0))) (cCons (cC (.int (0))) cNil))) (cCons (cTup (cCons (cC (.int (1))) (cCons (cC (.int (1))) cNil))) cNil)))))))))))))))))))
  (sRet (cDef f_w_some (cCons (cV 0) (cCons (cBin dAdd (cV 2) (cIf (cTb (cBin dEq (cDef f_w_sort (cCons (cV 1) cNil)) (cC (.int (2))))) (cBin dMul (cFz (cLst (cCons (cBin dAdd (cV 1) (cC (.int (1)))) (cCons (cBin dSub (cV 1) (cC (.int (1)))) cNil)))) (cC (.int (4)))) (cFz (cLst cNil)))) cNil)))))
  sNil)
  (sSeq (sPar 3 4 (cCons (cDef f_w_roll (cCons (cV 0) (cCons (cCall dLen (cCons (cV 1) cNil)) cNil))) (cCons (cDef f_w_roll (cCons (cV 0) (cCons (cC (.int (10))) cNil))) cNil)))
  (sSeq (sIf (cTb (cBin dLt (cV 4) (cC (.int (2)))))
  (sRet (cBin dAdd (cBin dAdd (cSl (cV 1) cNoPart (cPart (cV 3))) (cSl (cV 1) (cPart (cBin dAdd (cV 3) (cV 4))) cNoPart)) (cIf (cTb (cBin dEq (cV 4) (cC (.int (0))))) (cSl (cV 1) (cPart (cV 3)) (cPart (cBin dAdd (cV 3) (cC (.int (1)))))) (cTup cNil))))
  sNil)
  (sSeq (sIf (cTb (cBin dEq (cV 4) (cC (.int (2)))))
  (sRet (cCall dList (cCons (cV 1) cNil)))
  sNil)
  (sSeq (sIf (cTb (cBin dEq (cV 4) (cC (.int (3)))))
  (sRet (cUn dRev (cV 1)))
  sNil)
  (sRet (cBin dAdd (cBin dAdd (cSl (cV 1) cNoPart (cPart (cV 3))) (cTup (cCons (cDef rec (cCons (cV 0) (cCons (cBin dIx (cV 1) (cV 3)) cNil))) cNil))) (cSl (cV 1) (cPart (cBin dAdd (cV 3) (cC (.int (1))))) cNoPart))))))))
def f_w_bent : Nat → Fn
  | 0 => fun _ _ => .bad
  | n + 1 => runD 5 (g_w_bent (f_w_bent n))
def g_w_bits : MS :=
  (sSeq (sPar 1 2 (cCons (cCall dAbs (cCons (cV 0) cNil)) (cCons (cIf (cTb (cBin (dCmpI fun i j => decide (j ≤ i)) (cV 0) (cC (.int (0))))) (cC (.int (1))) (cUn dNeg (cC (.int (1))))) cNil)))
  (sSeq (sSetO 3 (cLst cNil))
  (sSeq (sFor (.nm 4) (cRng1 (cCons (cC (.int (90))) cNil))
  (sSeq (sSet 5 (cBin dSub (cBin dMod (cCall dInt (cCons (cBin dDiv (cBin dMul (cC (.int (3))) (cV 1)) (cDef f_w_two (cCons (cBin dAdd (cV 4) (cC (.int (1)))) cNil))) cNil)) (cC (.int (2)))) (cBin dMod (cCall dInt (cCons (cBin dDiv (cV 1) (cDef f_w_two (cCons (cBin dAdd (cV 4) (cC (.int (1)))) cNil))) cNil)) (cC (.int (2))))))
  (sIf (cTb (cBin dNe (cV 5) (cC (.int (0)))))
  (sApp 3 (cTup (cCons (cBin dMul (cV 2) (cV 5)) (cCons (cV 4) cNil))))
  sNil)))
  (sRet (cCall dTuple (cCons (cO 3) cNil))))))
def f_w_bits : Fn := runD 6 g_w_bits
def g_w_is_digits : MS :=
  (sSeq (sIf (cOrT (cTb (cBin dNe (cDef f_w_sort (cCons (cV 0) cNil)) (cC (.int (4))))) (cTb (cBin (dCmpI fun i j => decide (j < i)) (cCall dLen (cCons (cV 0) cNil)) (cC (.int (82))))))
  (sRet (cC (.bl false)))
  sNil)
  (sSeq (sSet 1 (cUn dNeg (cC (.int (1)))))
  (sSeq (sFor (.nm 2) (cItems (cV 0))
  (sSeq (sIf (cOrT (cTb (cBin dNe (cDef f_w_sort (cCons (cV 2) cNil)) (cC (.int (4))))) (cOrT (cTb (cBin dNe (cCall dLen (cCons (cV 2) cNil)) (cC (.int (2))))) (cOrT (cTb (cBin dNe (cDef f_w_sort (cCons (cBin dIx (cV 2) (cC (.int (0)))) cNil)) (cC (.int (2))))) (cTb (cBin dNe (cDef f_w_sort (cCons (cBin dIx (cV 2) (cC (.int (1)))) cNil)) (cC (.int (2))))))))
  (sRet (cC (.bl false)))
  sNil)
  (sSeq (sIf (cOrT (cTb (cBin dNotIn (cBin dIx (cV 2) (cC (.int (0)))) (cTup (cCons (cC (.int (1))) (cCons (cUn dNeg (cC (.int (1)))) cNil))))) (cOrT (cTb (cBin (dCmpI fun i j => decide (i ≤ j)) (cBin dIx (cV 2) (cC (.int (1)))) (cV 1))) (cTb (cBin (dCmpI fun i j => decide (j < i)) (cBin dIx (cV 2) (cC (.int (1)))) (cC (.int (81)))))))
  (sRet (cC (.bl false)))
  sNil)
  (sSet 1 (cBin dIx (cV 2) (cC (.int (1))))))))
  (sRet (cC (.bl true))))))
def f_w_is_digits : Fn := runD 3 g_w_is_digits
def g_w_value : MS :=
  (sSeq (sSet 1 (cC (.int (0))))
  (sSeq (sFor (.tp [(.nm 2), (.nm 3)]) (cItems (cUn dRev (cV 0)))
  (sSet 1 (cBin dAdd (cV 1) (cBin dMul (cV 2) (cDef f_w_two (cCons (cV 3) cNil))))))
  (sRet (cV 1))))
def f_w_value : Fn := runD 4 g_w_value
def g_w_right : MS :=
  (sSeq (sSet 2 (cDef f_w_bits (cCons (cV 1) cNil)))
  (sSeq (sSet 3 (cCall dTuple (cCons (cFz (cComp [8, 9] (.tp [(.nm 8), (.nm 9)]) (cItems (cV 2)) cYes (cTup (cCons (cUn dNeg (cV 8)) (cCons (cV 9) cNil))))) cNil)))
  (sSeq (sSet 4 (cFz (cLst (cCons (cDef f_signed (cCons (cV 1) cNil)) (cCons (cDef f_signed (cCons (cUn dNeg (cV 1)) cNil)) (cCons (cDef f_value_of (cCons (cV 2) cNil)) (cCons (cDef f_value_of (cCons (cV 3) cNil)) (cCons (cDef f_fewest (cCons (cV 1) cNil)) (cCons (cDef f_is_apart (cCons (cV 2) cNil)) (cCons (cDef f_is_digits (cCons (cV 2) cNil)) cNil))))))))))
  (sSeq (sIf (cNotT (cTr (cDef (f_w_like 8) (cCons (cV 4) (cCons (cFz (cLst (cCons (cV 2) (cCons (cV 3) (cCons (cV 1) (cCons (cUn dNeg (cV 1)) (cCons (cCall dLen (cCons (cV 2) cNil)) (cCons (cC (.bl true)) (cCons (cC (.bl true)) cNil))))))))) cNil)))))
  (sRet (cC (.bl false)))
  sNil)
  (sSeq (sSet 5 (cBin dAdd (cFz (cComp [10] (.nm 10) (cRng1 (cCons (cC (.int (8))) cNil)) cYes (cDef (f_w_bent 8) (cCons (cV 0) (cCons (cV 2) cNil))))) (cFz (cLst (cCons (cTup (cCons (cTup (cCons (cC (.int (0))) (cCons (cC (.int (1))) cNil))) cNil)) (cCons (cTup (cCons (cTup (cCons (cC (.int (1))) (cCons (cUn dNeg (cC (.int (1)))) cNil))) cNil)) (cCons (cTup (cCons (cTup (cCons (cC (.int (1))) (cCons (cC (.int (82))) cNil))) cNil)) (cCons (cTup (cCons (cTup (cCons (cC (.int (1))) (cCons (cC (.int (81))) cNil))) cNil)) (cCons (cFz (cLst (cCons (cTup (cCons (cC (.int (1))) (cCons (cC (.int (0))) cNil))) cNil))) (cCons (cTup (cCons (cTup (cCons (cC (.bl true)) (cCons (cC (.int (0))) cNil))) cNil)) (cCons (cTup (cCons (cTup (cCons (cC (.int (1))) (cCons (cC (.int (3))) cNil))) (cCons (cTup (cCons (cC (.int (1))) (cCons (cC (.int (3))) cNil))) cNil))) (cCons (cTup (cCons (cTup (cCons (cC (.int (1))) (cCons (cC (.int (3))) cNil))) (cCons (cTup (cCons (cUn dNeg (cC (.int (1)))) (cCons (cC (.int (4))) cNil))) cNil))) cNil))))))))))))
  (sSeq (sFor (.nm 7) (cItems (cV 5))
  (sSeq (sSet 6 (cDef f_w_is_digits (cCons (cV 7) cNil)))
  (sSeq (sIf (cNotT (cTr (cDef (f_w_like 8) (cCons (cDef f_is_digits (cCons (cV 7) cNil)) (cCons (cV 6) cNil)))))
  (sRet (cC (.bl false)))
  sNil)
  (sSeq (sIf (cAndT (cTr (cV 6)) (cNotT (cTr (cDef (f_w_like 8) (cCons (cFz (cLst (cCons (cDef f_value_of (cCons (cV 7) cNil)) (cCons (cDef f_is_apart (cCons (cV 7) cNil)) cNil)))) (cCons (cFz (cLst (cCons (cDef f_w_value (cCons (cV 7) cNil)) (cCons (cBin dEq (cFz (cComp [11, 12] (.tp [(.nm 11), (.nm 12)]) (cZip (cCons (cV 7) (cCons (cSl (cV 7) (cPart (cC (.int (1)))) cNoPart) cNil))) (cTb (cBin dLt (cBin dIx (cV 12) (cC (.int (1)))) (cBin dAdd (cBin dIx (cV 11) (cC (.int (1)))) (cC (.int (2)))))) (cC (.int (1))))) (cFz (cLst cNil))) cNil)))) cNil))))))
  (sRet (cC (.bl false)))
  sNil)
  (sSeq (sIf (cAndT (cNotT (cTr (cV 6))) (cTb (cBin dNe (cErr (wordOf tab_w_error) dfl_w_error (cDef f_value_of (cCons (cV 7) cNil))) (cC (.str "paper")))))
  (sRet (cC (.bl false)))
  sNil)
  (sIf (cAndT (cNotT (cTr (cV 6))) (cTb (cBin dNe (cErr (wordOf tab_w_error) dfl_w_error (cDef f_is_apart (cCons (cV 7) cNil))) (cC (.str "paper")))))
  (sRet (cC (.bl false)))
  sNil))))))
  (sRet (cC (.bl true)))))))))
def f_w_right : Fn := runD 13 g_w_right
def g1_law : MS :=
  (sSet 1 (cDef f_w_cup (cCons (cV 0) cNil)))
def g2_law : MS :=
  (sSeq (sSetO 2 (cLst (cCons (cC (.int (0))) (cCons (cC (.int (1))) (cCons (cUn dNeg (cC (.int (1)))) (cCons (cC (.int (7))) (cCons (cUn dNeg (cC (.int (6)))) (cCons (cC (.int (11))) (cCons (cBin dPow (cC (.int (4))) (cC (.int (40)))) (cCons (cUn dNeg (cBin dPow (cC (.int (4))) (cC (.int (40))))) (cCons (cBin dSub (cBin dPow (cC (.int (4))) (cC (.int (40)))) (cC (.int (1)))) (cCons (cBin dMul (cC (.int (3))) (cBin dPow (cC (.int (4))) (cC (.int (39))))) cNil))))))))))))
  (sSeq (sSetO 2 (cCat (cO 2) (cFz (cComp [5] (.nm 5) (cItems (cTup (cCons (cC (.int (3))) (cCons (cC (.int (6))) (cCons (cC (.int (9))) (cCons (cC (.int (20))) (cCons (cC (.int (30))) cNil))))))) cYes (cBin dMul (cDef f_w_roll (cCons (cV 1) (cCons (cDef f_w_two (cCons (cV 5) cNil)) cNil))) (cDef f_w_some (cCons (cV 1) (cCons (cFz (cLst (cCons (cC (.int (1))) (cCons (cUn dNeg (cC (.int (1)))) cNil)))) cNil))))))))
  (sSeq (sApp 2 (cBin dMul (cBin dAdd (cBin dMul (cDef f_w_roll (cCons (cV 1) (cCons (cBin dPow (cC (.int (2))) (cC (.int (30)))) cNil))) (cBin dPow (cC (.int (2))) (cC (.int (30))))) (cDef f_w_roll (cCons (cV 1) (cCons (cBin dPow (cC (.int (2))) (cC (.int (30)))) cNil)))) (cDef f_w_some (cCons (cV 1) (cCons (cFz (cLst (cCons (cC (.int (1))) (cCons (cUn dNeg (cC (.int (1)))) (cCons (cBin dPow (cC (.int (2))) (cC (.int (15)))) cNil))))) cNil)))))
  (sSeq (sIf (cTb (cBin dNe (cFz (cComp [6] (.nm 6) (cItems (cO 2)) (cNotT (cTr (cDef f_w_right (cCons (cV 1) (cCons (cV 6) cNil))))) (cC (.int (1))))) (cFz (cLst cNil))))
  (sRet (cC (.bl false)))
  sNil)
  (sSeq (sIf (cNotT (cTr (cDef (f_w_like 8) (cCons (cFz (cLst (cCons (cDef f_signed (cCons (cC (.int (7))) cNil)) (cCons (cDef f_signed (cCons (cUn dNeg (cC (.int (6)))) cNil)) (cCons (cDef f_signed (cCons (cC (.int (0))) cNil)) (cCons (cDef f_fewest (cCons (cC (.int (11))) cNil)) (cCons (cDef f_value_of (cCons (cTup (cCons (cTup (cCons (cC (.int (1))) (cCons (cC (.int (0))) cNil))) (cCons (cTup (cCons (cUn dNeg (cC (.int (1)))) (cCons (cC (.int (1))) cNil))) (cCons (cTup (cCons (cC (.int (1))) (cCons (cC (.int (2))) cNil))) cNil)))) cNil)) cNil))))))) (cCons (cFz (cLst (cCons (cTup (cCons (cTup (cCons (cUn dNeg (cC (.int (1)))) (cCons (cC (.int (0))) cNil))) (cCons (cTup (cCons (cC (.int (1))) (cCons (cC (.int (3))) cNil))) cNil))) (cCons (cTup (cCons (cTup (cCons (cC (.int (1))) (cCons (cC (.int (1))) cNil))) (cCons (cTup (cCons (cUn dNeg (cC (.int (1)))) (cCons (cC (.int (3))) cNil))) cNil))) (cCons (cTup cNil) (cCons (cC (.int (3))) (cCons (cC (.int (3))) cNil))))))) cNil)))))
  (sRet (cC (.bl false)))
  sNil)
  (sSeq (sSetO 3 (cLst cNil))
  (sSeq (sFor (.nm 4) (cItems (cTup (cCons (cC .non) (cCons (cC (.bl true)) (cCons (cC (.str "1")) (cCons (cBin dAdd (cBin dPow (cC (.int (4))) (cC (.int (40)))) (cC (.int (1)))) (cCons (cBin dSub (cUn dNeg (cBin dPow (cC (.int (4))) (cC (.int (40))))) (cC (.int (1)))) (cCons (cTup (cCons (cC (.int (1))) cNil)) cNil))))))))
  (sSeq (sApp 3 (cErr (wordOf tab_w_error) dfl_w_error (cDef f_signed (cCons (cV 4) cNil))))
  (sApp 3 (cErr (wordOf tab_w_error) dfl_w_error (cDef f_fewest (cCons (cV 4) cNil))))))
  (sRet (cBin dEq (cO 3) (cBin dMul (cFz (cLst (cCons (cC (.str "number")) cNil))) (cC (.int (12)))))))))))))
abbrev q_w_right : Str := (envOfC "_law_right" (defScope s_w_right) 0 0 .none).qual ++ "<lambda>"
abbrev q_law : Str := (envOfC "law" (defScope s_law) 0 0 .none).qual ++ "<lambda>"
structure Tx (P : Program) (wl : World) (base : Heap) (w : Wd) : Prop where
  exc_InvalidNumber : ∃ Ca, ExcD w.K w.mg "InvalidNumber" Ca
  exc_InvalidPaper : ∃ Ca, ExcD w.K w.mg "InvalidPaper" Ca
  free_abs : w.mg "abs" = none
  free_all : w.mg "all" = none
  free_bool : w.mg "bool" = none
  free_int : w.mg "int" = none
  free_isinstance : w.mg "isinstance" = none
  free_len : w.mg "len" = none
  free_list : w.mg "list" = none
  free_range : w.mg "range" = none
  free_str : w.mg "str" = none
  free_sum : w.mg "sum" = none
  free_tuple : w.mg "tuple" = none
  free_zip : w.mg "zip" = none
  int_GREATEST : ∃ t, w.mg "GREATEST" = some (.int (1208925819614629174706176) t)
  int_LAST : ∃ t, w.mg "LAST" = some (.int (81) t)
  def_is_whole : ∃ f fd, Fun w.K "is_whole" "is_whole" s_is_whole f fd ∧ w.mg "is_whole" = some (.ref f)
  def_need_whole : ∃ f fd, Fun w.K "need_whole" "need_whole" s_need_whole f fd ∧ w.mg "need_whole" = some (.ref f)
  def_is_tuple_of : ∃ f fd, Fun w.K "is_tuple_of" "is_tuple_of" s_is_tuple_of f fd ∧ w.mg "is_tuple_of" = some (.ref f)
  def_is_ascending : ∃ f fd, Fun w.K "is_ascending" "is_ascending" s_is_ascending f fd ∧ w.mg "is_ascending" = some (.ref f)
  def_two_to : ∃ f fd, Fun w.K "two_to" "two_to" s_two_to f fd ∧ w.mg "two_to" = some (.ref f)
  def_is_digits : ∃ f fd, Fun w.K "is_digits" "is_digits" s_is_digits f fd ∧ w.mg "is_digits" = some (.ref f)
  def_need_digits : ∃ f fd, Fun w.K "need_digits" "need_digits" s_need_digits f fd ∧ w.mg "need_digits" = some (.ref f)
  def_value_of : ∃ f fd, Fun w.K "value_of" "value_of" s_value_of f fd ∧ w.mg "value_of" = some (.ref f)
  def_is_apart : ∃ f fd, Fun w.K "is_apart" "is_apart" s_is_apart f fd ∧ w.mg "is_apart" = some (.ref f)
  def_apart_digits : ∃ f fd, Fun w.K "apart_digits" "apart_digits" s_apart_digits f fd ∧ w.mg "apart_digits" = some (.ref f)
  def_signed : ∃ f fd, Fun w.K "signed" "signed" s_signed f fd ∧ w.mg "signed" = some (.ref f)
  def_fewest : ∃ f fd, Fun w.K "fewest" "fewest" s_fewest f fd ∧ w.mg "fewest" = some (.ref f)
  def_w_cup : ∃ f fd, Fun w.K "_law_cup" "_law_cup" s_w_cup f fd ∧ w.mg "_law_cup" = some (.ref f)
  def_w_roll : ∃ f fd, Fun w.K "_law_roll" "_law_roll" s_w_roll f fd ∧ w.mg "_law_roll" = some (.ref f)
  def_w_two : ∃ f fd, Fun w.K "_law_two" "_law_two" s_w_two f fd ∧ w.mg "_law_two" = some (.ref f)
  def_w_some : ∃ f fd, Fun w.K "_law_some" "_law_some" s_w_some f fd ∧ w.mg "_law_some" = some (.ref f)
  def_w_sort : ∃ f fd, Fun w.K "_law_sort" "_law_sort" s_w_sort f fd ∧ w.mg "_law_sort" = some (.ref f)
  def_w_like : ∃ f fd, Fun w.K "_law_like" "_law_like" s_w_like f fd ∧ w.mg "_law_like" = some (.ref f)
  def_w_bent : ∃ f fd, Fun w.K "_law_bent" "_law_bent" s_w_bent f fd ∧ w.mg "_law_bent" = some (.ref f)
  def_w_bits : ∃ f fd, Fun w.K "_law_bits" "_law_bits" s_w_bits f fd ∧ w.mg "_law_bits" = some (.ref f)
  def_w_is_digits : ∃ f fd, Fun w.K "_law_is_digits" "_law_is_digits" s_w_is_digits f fd ∧ w.mg "_law_is_digits" = some (.ref f)
  def_w_value : ∃ f fd, Fun w.K "_law_value" "_law_value" s_w_value f fd ∧ w.mg "_law_value" = some (.ref f)
  def_w_right : ∃ f fd, Fun w.K "_law_right" "_law_right" s_w_right f fd ∧ w.mg "_law_right" = some (.ref f)
  def_w_error : ∃ f fd, Fun w.K "_law_error" "_law_error" s_w_error f fd ∧ w.mg "_law_error" = some (.ref f)
  errs_w_error : Errs w "HumError" cs_w_error tab_w_error
  lam_w_right : ∃ f c Pa, w.mg "_law_right" = some (.ref f) ∧ LamT w base "_law_right" q_w_right f c Pa
  lam_law : ∃ f c Pa, w.mg "law" = some (.ref f) ∧ LamT w base "law" q_law f c Pa
end K54

set_option Elab.async false
set_option linter.all false
set_option maxRecDepth 100000
set_option maxHeartbeats 4000000
namespace K54
open PySem PySem.Spec PyProof.Rows L2 Hm LamX

theorem res_w_error (a : Addr) (nm y : Str) (c : Cup) (h : wordOf tab_w_error nm = some y) : ∃ env', su_w_error a nm (envE 5 1 a) c = .ok (.ret (.str y), env') c := by
  refine word_all (p := fun nm y => ∃ env', su_w_error a nm (envE 5 1 a) c = .ok (.ret (.str y), env') c) ?_ h
  intro p hp
  unfold tab_w_error at hp
  simp only [List.mem_cons, List.mem_nil_iff, or_false] at hp
  rcases hp with rfl | rfl <;> exact res_by (by simp [su_w_error, sSeq, sSet, cFz, cLst, cCons, cTup, cC, cNil, cIsE, cV, envE, sRet, cJoin, cComp, cItemsL, compL]; try rfl)
section
variable {P : Program} {wl : World} {base : Heap} {w : Wd}
theorem D_w_error (T : Tx P wl base w) {X : Cx} {W : XK} {k : Nat} (C : Ctx X w W k) : ErrD X w "_law_error" (wordOf tab_w_error) dfl_w_error := by
  obtain ⟨f, fd, F, hm⟩ := T.def_w_error
  have hbn := F.binds (ps := ["call"]) (fun _ _ _ _ _ _ us hl => match us, hl with | [_], _ => rfl)
  obtain ⟨oc, od, kV, doc, pm, an, cdv, ct, osl, efd, lk, hcd⟩ := F.ex
  subst efd
  have Er := T.errs_w_error
  exact ⟨⟨f, "call", defArgs s_w_error, defBody s_w_error, defScope s_w_error, .none, kV, doc, pm, cdv, ct, oc, an, od, osl, N_w_error, C.hmg ▸ hm, C.hK ▸ F.kp, C.hK ▸ lk, C.hK ▸ hcd, C.hK ▸ hbn, sc_w_error, rfl, .inl rfl, by decide, by decide, fun _ => gives_err (i := 1) (sufn := su_w_error) C.hK C.hmg sc_w_error.nd rfl rfl rfl Er.hgl (by decide) (fun nm y Da h1 h2 => Er.exm h1 h2) (fun s H a oe pn nm y Da hw hm hz hv CC =>
   (pss_c (ps_sH (i := 2) CC.nd rfl (.inl rfl) (PE.fz (pf_lst (pa_c (pp_tup (pa_c pp_str (pa_c (pp_isE C.hK C.hmg (Er.cls hw hm) hz.zc hv rfl T.free_isinstance rfl (Er.cs "InvalidNumber" (by decide +kernel)) (Er.kit hw hm (c := "InvalidNumber") (by decide +kernel)) (pp_var (i := 1) rfl (.inl rfl))) pa_n))) (pa_c (pp_tup (pa_c pp_str (pa_c (pp_isE C.hK C.hmg (Er.cls hw hm) hz.zc hv rfl T.free_isinstance rfl (Er.cs "InvalidPaper" (by decide +kernel)) (Er.kit hw hm (c := "InvalidPaper") (by decide +kernel)) (pp_var (i := 1) rfl (.inl rfl))) pa_n))) pa_n)))))
  (pss_1 (ps_r (pp_join (pf_lcH (own := [("word", 3), ("fits", 4)]) CC (pi_seqH CC (PE.b (pp_var (i := 2) rfl (.inl rfl)))) (blkOk_by (own := [("word", 3), ("fits", 4)]) (N := N_w_error) (sc := defScope s_w_error) (by decide +kernel)) (by decide) (fun _ _ _ _ _ C => (pg_tH C (pgs_c (pg_nH (i := 3) C.nd rfl (.inl rfl)) (pgs_c (pg_nH (i := 4) C.nd rfl (.inl rfl)) pgs_n)))) (fun _ _ _ _ _ C => pts_1 (pt_ofH C.hK (PE.b (pp_var (i := 4) rfl (.inl rfl))))) (fun _ _ _ _ _ C => (pp_var (i := 3) rfl (.inl rfl))))))))) res_w_error⟩⟩
theorem D_is_whole (T : Tx P wl base w) : DefD P wl base w "is_whole" 1 3 f_is_whole :=
  defD (k := 0) (g := g_is_whole) T.def_is_whole sc_is_whole rfl rfl (fun _ _ _ _ _ _ us hl => match us, hl with | [_, _, _], _ => rfl) (fun f cdv A outer s H E C =>
   (pss_1 (ps_r (pp_and C (pp_isi (t := .int) C rfl T.free_isinstance (PE.b (pp_var (i := 0) rfl (.inl rfl))) (pe_bltn rfl (C.hmg ▸ T.free_int) bb_int rfl)) (pp_and C (pp_not (PE.b (pp_isi (t := .bool) C rfl T.free_isinstance (PE.b (pp_var (i := 0) rfl (.inl rfl))) (pe_bltn rfl (C.hmg ▸ T.free_bool) bb_bool rfl))) C) (pe_one (pp_chain op_le (opd_cmpI _) op_le (opd_cmpI _) (PE.b (pp_var (i := 1) rfl (.inl rfl))) (PE.b (pp_var (i := 0) rfl (.inl rfl))) (PE.b (pp_var (i := 2) rfl (.inl rfl))))))))))
theorem D_need_whole (T : Tx P wl base w) (D_is_whole : DefD P wl base w "is_whole" 1 3 f_is_whole) : DefD P wl base w "need_whole" 2 3 f_need_whole :=
  defD (k := 1) (g := g_need_whole) T.def_need_whole sc_need_whole rfl rfl (fun _ _ _ _ _ _ us hl => match us, hl with | [_, _, _], _ => rfl) (fun f cdv A outer s H E C =>
   (pss_1 (ps_i (ptn (pt_of C (PE.b (pp_call C D_is_whole (by decide) rfl rfl (pa_c (pp_var (i := 0) rfl (.inl rfl)) (pa_c (pp_var (i := 1) rfl (.inl rfl)) (pa_c (pp_var (i := 2) rfl (.inl rfl)) pa_n))) (len_cons (len_cons (len_cons len_nil)))))))
  (pss_1 (ps_rs C (Exists.choose_spec T.exc_InvalidNumber) rfl))
  pss_n)))
theorem D_is_tuple_of (T : Tx P wl base w) : DefD P wl base w "is_tuple_of" 1 3 f_is_tuple_of :=
  defD (k := 0) (g := g_is_tuple_of) T.def_is_tuple_of sc_is_tuple_of rfl rfl (fun _ _ _ _ _ _ us hl => match us, hl with | [_, _, _], _ => rfl) (fun f cdv A outer s H E C =>
   (pss_1 (ps_r (pp_and C (pp_isi (t := .tuple) C rfl T.free_isinstance (PE.b (pp_var (i := 0) rfl (.inl rfl))) (pe_bltn rfl (C.hmg ▸ T.free_tuple) bb_tuple rfl)) (pe_one (pp_chain op_le (opd_cmpI _) op_le (opd_cmpI _) (PE.b (pp_var (i := 1) rfl (.inl rfl))) (PE.b (pp_callB C call_len_seq cd_len rfl T.free_len bb_len (pab_c (PE.b (pp_var (i := 0) rfl (.inl rfl))) pab_n))) (PE.b (pp_var (i := 2) rfl (.inl rfl)))))))))
theorem D_is_ascending (T : Tx P wl base w) : DefD P wl base w "is_ascending" 1 1 f_is_ascending :=
  defD (k := 0) (g := g_is_ascending) T.def_is_ascending sc_is_ascending rfl rfl (fun _ _ _ _ _ _ us hl => match us, hl with | [_], _ => rfl) (fun f cdv A outer s H E C =>
   (pss_1 (ps_r (pp_callB C (cr_all C.calm) cd_all rfl T.free_all bb_all (pab_c (PE.b (PE.fz (pf_lc (own := [("one", 1), ("other", 2)]) C (pi_zp C rfl T.free_zip (pab_c (PE.b (pp_var (i := 0) rfl (.inl rfl))) (pab_c (PE.b (pp_slice C (PE.b (pp_var (i := 0) rfl (.inl rfl))) (po_s (PE.b pp_int)) po_n)) pab_n))) (blkOk_by (own := [("one", 1), ("other", 2)]) (N := N_is_ascending) (sc := defScope s_is_ascending) (by decide +kernel)) (by decide) (fun _ _ _ _ _ C => (pg_t C (pgs_c (pg_n C (i := 1) rfl (.inl rfl)) (pgs_c (pg_n C (i := 2) rfl (.inl rfl)) pgs_n)))) (fun _ _ _ _ _ C => pts_n) (fun _ _ _ _ _ C => (pp_cmp (opr_lt C.room.units0) opd_lt (nomark _) (PE.b (pp_var (i := 1) rfl (.inl rfl))) (PE.b (pp_var (i := 2) rfl (.inl rfl)))))))) pab_n)))))
theorem D_two_to (T : Tx P wl base w) : DefD P wl base w "two_to" 1 1 f_two_to :=
  defD (k := 0) (g := g_two_to) T.def_two_to sc_two_to rfl rfl (fun _ _ _ _ _ _ us hl => match us, hl with | [_], _ => rfl) (fun f cdv A outer s H E C =>
   (pss_c (ps_s (i := 1) C rfl (.inl rfl) pp_int)
  (pss_c (ps_f C (pi_rng1 C rfl T.free_range (pab_c (PE.b (pp_var (i := 0) rfl (.inl rfl))) pab_n)) (pg_n C (i := 2) rfl (.inl rfl))
  (pss_1 (ps_ag (i := 1) C rfl (.inl rfl) iopr_mul opd_mulI (PE.b pp_int))))
  (pss_1 (ps_r (pp_var (i := 1) rfl (.inl rfl)))))))
theorem D_is_digits (T : Tx P wl base w) (D_is_tuple_of : DefD P wl base w "is_tuple_of" 1 3 f_is_tuple_of) (D_is_whole : DefD P wl base w "is_whole" 1 3 f_is_whole) (D_is_ascending : DefD P wl base w "is_ascending" 1 1 f_is_ascending) : DefD P wl base w "is_digits" 2 1 f_is_digits :=
  defD (k := 1) (g := g_is_digits) T.def_is_digits sc_is_digits rfl rfl (fun _ _ _ _ _ _ us hl => match us, hl with | [_], _ => rfl) (fun f cdv A outer s H E C =>
   (pss_c (ps_i (ptn (pt_of C (PE.b (pp_call C D_is_tuple_of (by decide) rfl rfl (pa_c (pp_var (i := 0) rfl (.inl rfl)) (pa_c pp_int (pa_c (pp_bin opr_add opd_add (PE.b (pp_glob C (v := .int (81)) rfl (Exists.choose_spec T.int_LAST) ⟨_, rfl⟩ (fun _ _ _ => .int _))) (PE.b pp_int)) pa_n))) (len_cons (len_cons (len_cons len_nil)))))))
  (pss_1 (ps_r pp_bl))
  pss_n)
  (pss_c (ps_f C (pi_seq C (pp_var (i := 0) rfl (.inl rfl))) (pg_n C (i := 1) rfl (.inl rfl))
  (pss_1 (ps_i (PWt.pt (wt_or (ptn (pt_of C (PE.b (pp_call C D_is_tuple_of (by decide) rfl rfl (pa_c (pp_var (i := 1) rfl (.inl rfl)) (pa_c pp_int (pa_c pp_int pa_n))) (len_cons (len_cons (len_cons len_nil))))))) (wt_or (ptn (pt_of C (PE.b (pp_call C D_is_whole (by decide) rfl rfl (pa_c (pp_ix C (PE.b (pp_var (i := 1) rfl (.inl rfl))) (PE.b pp_int)) (pa_c (pp_un un_neg opd_neg (PE.b pp_int)) (pa_c pp_int pa_n))) (len_cons (len_cons (len_cons len_nil))))))) (wt_or (pt_cmp (op_eqD C.room.units) opd_eq (nomark _) (PE.b (pp_ix C (PE.b (pp_var (i := 1) rfl (.inl rfl))) (PE.b pp_int))) (PE.b pp_int)) (wt_or1 (ptn (pt_of C (PE.b (pp_call C D_is_whole (by decide) rfl rfl (pa_c (pp_ix C (PE.b (pp_var (i := 1) rfl (.inl rfl))) (PE.b pp_int)) (pa_c pp_int (pa_c (pp_glob C (v := .int (81)) rfl (Exists.choose_spec T.int_LAST) ⟨_, rfl⟩ (fun _ _ _ => .int _)) pa_n))) (len_cons (len_cons (len_cons len_nil))))))))))))
  (pss_1 (ps_r pp_bl))
  pss_n)))
  (pss_1 (ps_r (pp_call C D_is_ascending (by decide) rfl rfl (pa_c (pp_callTy C call_tuple_of cd_tuple rfl T.free_tuple bb_tuple (pab_c (PE.b (PE.fz (pf_lc (own := [("_", 2), ("place", 3)]) C (pi_seqB C (PE.b (pp_var (i := 0) rfl (.inl rfl)))) (blkOk_by (own := [("_", 2), ("place", 3)]) (N := N_is_digits) (sc := defScope s_is_digits) (by decide +kernel)) (by decide) (fun _ _ _ _ _ C => (pg_t C (pgs_c (pg_n C (i := 2) rfl (.inl rfl)) (pgs_c (pg_n C (i := 3) rfl (.inl rfl)) pgs_n)))) (fun _ _ _ _ _ C => pts_n) (fun _ _ _ _ _ C => (pp_var (i := 3) rfl (.inl rfl)))))) pab_n)) pa_n) (len_cons len_nil)))))))
theorem D_need_digits (T : Tx P wl base w) (D_is_digits : DefD P wl base w "is_digits" 2 1 f_is_digits) : DefD P wl base w "need_digits" 3 1 f_need_digits :=
  defD (k := 2) (g := g_need_digits) T.def_need_digits sc_need_digits rfl rfl (fun _ _ _ _ _ _ us hl => match us, hl with | [_], _ => rfl) (fun f cdv A outer s H E C =>
   (pss_1 (ps_i (ptn (pt_of C (PE.b (pp_call C D_is_digits (by decide) rfl rfl (pa_c (pp_var (i := 0) rfl (.inl rfl)) pa_n) (len_cons len_nil)))))
  (pss_1 (ps_rs C (Exists.choose_spec T.exc_InvalidPaper) rfl))
  pss_n)))
theorem D_value_of (T : Tx P wl base w) (D_need_digits : DefD P wl base w "need_digits" 3 1 f_need_digits) (D_two_to : DefD P wl base w "two_to" 1 1 f_two_to) : DefD P wl base w "value_of" 4 1 f_value_of :=
  defD (k := 3) (g := g_value_of) T.def_value_of sc_value_of rfl rfl (fun _ _ _ _ _ _ us hl => match us, hl with | [_], _ => rfl) (fun f cdv A outer s H E C =>
   (pss_c (ps_e (pp_call C D_need_digits (by decide) rfl rfl (pa_c (pp_var (i := 0) rfl (.inl rfl)) pa_n) (len_cons len_nil)))
  (pss_1 (ps_r (pp_callB C (cr_sum C.calm) cd_sum rfl T.free_sum bb_sum (pab_c (PE.b (PE.fz (pf_lc (own := [("sign", 1), ("place", 2)]) C (pi_seqB C (PE.b (pp_var (i := 0) rfl (.inl rfl)))) (blkOk_by (own := [("sign", 1), ("place", 2)]) (N := N_value_of) (sc := defScope s_value_of) (by decide +kernel)) (by decide) (fun _ _ _ _ _ C => (pg_t C (pgs_c (pg_n C (i := 1) rfl (.inl rfl)) (pgs_c (pg_n C (i := 2) rfl (.inl rfl)) pgs_n)))) (fun _ _ _ _ _ C => pts_n) (fun _ _ _ _ _ C => (pp_bin opr_mul opd_mul (PE.b (pp_var (i := 1) rfl (.inl rfl))) (PE.b (pp_call C D_two_to (by decide) rfl rfl (pa_c (pp_var (i := 2) rfl (.inl rfl)) pa_n) (len_cons len_nil)))))))) pab_n))))))
theorem D_is_apart (T : Tx P wl base w) (D_need_digits : DefD P wl base w "need_digits" 3 1 f_need_digits) : DefD P wl base w "is_apart" 4 1 f_is_apart :=
  defD (k := 3) (g := g_is_apart) T.def_is_apart sc_is_apart rfl rfl (fun _ _ _ _ _ _ us hl => match us, hl with | [_], _ => rfl) (fun f cdv A outer s H E C =>
   (pss_c (ps_e (pp_call C D_need_digits (by decide) rfl rfl (pa_c (pp_var (i := 0) rfl (.inl rfl)) pa_n) (len_cons len_nil)))
  (pss_1 (ps_r (pp_callB C (cr_all C.calm) cd_all rfl T.free_all bb_all (pab_c (PE.b (PE.fz (pf_lc (own := [("one", 1), ("later", 2)]) C (pi_zp C rfl T.free_zip (pab_c (PE.b (pp_var (i := 0) rfl (.inl rfl))) (pab_c (PE.b (pp_slice C (PE.b (pp_var (i := 0) rfl (.inl rfl))) (po_s (PE.b pp_int)) po_n)) pab_n))) (blkOk_by (own := [("one", 1), ("later", 2)]) (N := N_is_apart) (sc := defScope s_is_apart) (by decide +kernel)) (by decide) (fun _ _ _ _ _ C => (pg_t C (pgs_c (pg_n C (i := 1) rfl (.inl rfl)) (pgs_c (pg_n C (i := 2) rfl (.inl rfl)) pgs_n)))) (fun _ _ _ _ _ C => pts_n) (fun _ _ _ _ _ C => (pp_cmp op_ge (opd_cmpI _) (nomark _) (PE.b (pp_bin op_sub opd_sub (PE.b (pp_ix C (PE.b (pp_var (i := 2) rfl (.inl rfl))) (PE.b pp_int))) (PE.b (pp_ix C (PE.b (pp_var (i := 1) rfl (.inl rfl))) (PE.b pp_int))))) (PE.b pp_int)))))) pab_n))))))
theorem D_apart_digits (T : Tx P wl base w) : DefD P wl base w "apart_digits" 1 1 f_apart_digits :=
  defD (k := 0) (g := g_apart_digits) T.def_apart_digits sc_apart_digits rfl rfl (fun _ _ _ _ _ _ us hl => match us, hl with | [_], _ => rfl) (fun f cdv A outer s H E C =>
   (pss_c (ps_so (i := 1) C rfl (.inl rfl) (pf_lst pa_n))
  (pss_c (ps_s (i := 2) C rfl (.inl rfl) pp_int)
  (pss_c (ps_w 300 C (pt_cmp (op_neD C.room.units) opd_ne (nomark _) (PE.b (pp_var (i := 0) rfl (.inl rfl))) (PE.b pp_int))
  (pss_c (ps_i (pt_cmp (op_eqD C.room.units) opd_eq (nomark _) (PE.b (pp_bin op_mod opd_mod (PE.b (pp_callTy C call_int1 cd_int rfl T.free_int bb_int (pab_c (PE.b (pp_var (i := 0) rfl (.inl rfl))) pab_n))) (PE.b pp_int))) (PE.b pp_int))
  (pss_c (ps_s (i := 3) C rfl (.inl rfl) (pp_bin op_sub opd_sub (PE.b pp_int) (PE.b (pp_bin op_mod opd_mod (PE.b (pp_callTy C call_int1 cd_int rfl T.free_int bb_int (pab_c (PE.b (pp_var (i := 0) rfl (.inl rfl))) pab_n))) (PE.b pp_int)))))
  (pss_c (ps_app (i := 1) C rfl (.inl rfl) (pp_tup (pa_c (pp_var (i := 3) rfl (.inl rfl)) (pa_c (pp_var (i := 2) rfl (.inl rfl)) pa_n))))
  (pss_1 (ps_ag (i := 0) C rfl (.inl rfl) iop_sub opd_sub (PE.b (pp_var (i := 3) rfl (.inl rfl)))))))
  pss_n)
  (pss_c (ps_ag (i := 0) C rfl (.inl rfl) iop_fdivW opd_div (PE.b pp_int))
  (pss_1 (ps_ag (i := 2) C rfl (.inl rfl) iopr_add opd_addI (PE.b pp_int))))))
  (pss_1 (ps_r (pp_callTy C call_tuple_of cd_tuple rfl T.free_tuple bb_tuple (pab_c (pb_var (i := 1) rfl (.inl rfl)) pab_n))))))))
theorem D_signed (T : Tx P wl base w) (D_need_whole : DefD P wl base w "need_whole" 2 3 f_need_whole) (D_apart_digits : DefD P wl base w "apart_digits" 1 1 f_apart_digits) : DefD P wl base w "signed" 3 1 f_signed :=
  defD (k := 2) (g := g_signed) T.def_signed sc_signed rfl rfl (fun _ _ _ _ _ _ us hl => match us, hl with | [_], _ => rfl) (fun f cdv A outer s H E C =>
   (pss_c (ps_e (pp_call C D_need_whole (by decide) rfl rfl (pa_c (pp_var (i := 0) rfl (.inl rfl)) (pa_c (pp_un un_neg opd_neg (PE.b (pp_glob C (v := .int (1208925819614629174706176)) rfl (Exists.choose_spec T.int_GREATEST) ⟨_, rfl⟩ (fun _ _ _ => .int _)))) (pa_c (pp_glob C (v := .int (1208925819614629174706176)) rfl (Exists.choose_spec T.int_GREATEST) ⟨_, rfl⟩ (fun _ _ _ => .int _)) pa_n))) (len_cons (len_cons (len_cons len_nil)))))
  (pss_1 (ps_r (pp_call C D_apart_digits (by decide) rfl rfl (pa_c (pp_var (i := 0) rfl (.inl rfl)) pa_n) (len_cons len_nil))))))
theorem D_fewest (T : Tx P wl base w) (D_need_whole : DefD P wl base w "need_whole" 2 3 f_need_whole) (D_apart_digits : DefD P wl base w "apart_digits" 1 1 f_apart_digits) : DefD P wl base w "fewest" 3 1 f_fewest :=
  defD (k := 2) (g := g_fewest) T.def_fewest sc_fewest rfl rfl (fun _ _ _ _ _ _ us hl => match us, hl with | [_], _ => rfl) (fun f cdv A outer s H E C =>
   (pss_c (ps_e (pp_call C D_need_whole (by decide) rfl rfl (pa_c (pp_var (i := 0) rfl (.inl rfl)) (pa_c (pp_un un_neg opd_neg (PE.b (pp_glob C (v := .int (1208925819614629174706176)) rfl (Exists.choose_spec T.int_GREATEST) ⟨_, rfl⟩ (fun _ _ _ => .int _)))) (pa_c (pp_glob C (v := .int (1208925819614629174706176)) rfl (Exists.choose_spec T.int_GREATEST) ⟨_, rfl⟩ (fun _ _ _ => .int _)) pa_n))) (len_cons (len_cons (len_cons len_nil)))))
  (pss_1 (ps_r (pp_callB C call_len_seq cd_len rfl T.free_len bb_len (pab_c (PE.b (pp_call C D_apart_digits (by decide) rfl rfl (pa_c (pp_var (i := 0) rfl (.inl rfl)) pa_n) (len_cons len_nil))) pab_n))))))
theorem D_w_cup (T : Tx P wl base w) : DefD P wl base w "_law_cup" 1 1 f_w_cup :=
  defD (k := 0) (g := g_w_cup) T.def_w_cup sc_w_cup rfl rfl (fun _ _ _ _ _ _ us hl => match us, hl with | [_], _ => rfl) (fun f cdv A outer s H E C =>
   (pss_c (ps_s (i := 1) C rfl (.inl rfl) (pp_callB C call_abs cd_abs rfl T.free_abs bb_abs (pab_c (PE.b (pp_ix C (PE.b (pp_bin opr_add opd_add (PE.b (pp_callTy C call_list_of cd_list rfl T.free_list bb_list (pab_c (PE.b (pp_var (i := 0) rfl (.inl rfl))) pab_n))) (PE.b (PE.fz (pf_lst (pa_c pp_int pa_n)))))) (PE.b pp_int))) pab_n)))
  (pss_1 (ps_r (PE.fz (pf_lst (pa_c (pp_ifExp (pt_cmp op_ge (opd_cmpI _) (nomark _) (PE.b (pp_var (i := 1) rfl (.inl rfl))) (PE.b (pp_bin op_pow opd_pow (PE.b pp_int) (PE.b pp_int)))) (pp_bin op_fdivW opd_div (PE.b (pp_var (i := 1) rfl (.inl rfl))) (PE.b pp_int)) pp_int) (pa_c (pp_bin opr_add opd_add (PE.b (pp_bin op_mod opd_mod (PE.b (pp_callTy C call_int1 cd_int rfl T.free_int bb_int (pab_c (PE.b (pp_bin opr_add opd_add (PE.b (pp_bin opr_mul opd_mul (PE.b (pp_var (i := 1) rfl (.inl rfl))) (PE.b pp_int))) (PE.b pp_int))) pab_n))) (PE.b pp_int))) (PE.b pp_int)) pa_n))))))))
theorem D_w_roll (T : Tx P wl base w) : DefD P wl base w "_law_roll" 1 2 f_w_roll :=
  defD (k := 0) (g := g_w_roll) T.def_w_roll sc_w_roll rfl rfl (fun _ _ _ _ _ _ us hl => match us, hl with | [_, _], _ => rfl) (fun f cdv A outer s H E C =>
   (pss_c (ps_i (pt_cmp op_gt (opd_cmpI _) (nomark _) (PE.b (pp_cupIx (n := 0) C (PE.b (pp_var (i := 0) rfl (.inl rfl))) pe_int)) (PE.b pp_int))
  (pss_c (ps_s (i := 2) C rfl (.inl rfl) (pp_bin op_mod opd_mod (PE.b (pp_callTy C call_int1 cd_int rfl T.free_int bb_int (pab_c (PE.b (pp_cupIx (n := 0) C (PE.b (pp_var (i := 0) rfl (.inl rfl))) pe_int)) pab_n))) (PE.b (pp_var (i := 1) rfl (.inl rfl)))))
  (pss_c (ps_cup (i := 0) (n := 0) C rfl (.inl rfl) (pp_bin op_fdivW opd_div (PE.b (pp_cupIx (n := 0) C (PE.b (pp_var (i := 0) rfl (.inl rfl))) pe_int)) (PE.b (pp_var (i := 1) rfl (.inl rfl)))) pe_int)
  (pss_1 (ps_r (pp_var (i := 2) rfl (.inl rfl))))))
  pss_n)
  (pss_c (ps_cup (i := 0) (n := 1) C rfl (.inl rfl) (pp_bin op_mod opd_mod (PE.b (pp_callTy C call_int1 cd_int rfl T.free_int bb_int (pab_c (PE.b (pp_bin opr_add opd_add (PE.b (pp_bin opr_mul opd_mul (PE.b (pp_cupIx (n := 1) C (PE.b (pp_var (i := 0) rfl (.inl rfl))) pe_int)) (PE.b pp_int))) (PE.b pp_int))) pab_n))) (PE.b pp_int)) pe_int)
  (pss_c (ps_s (i := 3) C rfl (.inl rfl) (pp_bin op_mod opd_mod (PE.b (pp_callTy C call_int1 cd_int rfl T.free_int bb_int (pab_c (PE.b (pp_bin opr_mul opd_mul (PE.b (pp_cupIx (n := 1) C (PE.b (pp_var (i := 0) rfl (.inl rfl))) pe_int)) (PE.b (pp_bin opr_add opd_add (PE.b (pp_cupIx (n := 1) C (PE.b (pp_var (i := 0) rfl (.inl rfl))) pe_int)) (PE.b pp_int))))) pab_n))) (PE.b pp_int)))
  (pss_1 (ps_r (pp_bin op_mod opd_mod (PE.b (pp_callTy C call_int1 cd_int rfl T.free_int bb_int (pab_c (PE.b (pp_bin op_fdivW opd_div (PE.b (pp_var (i := 3) rfl (.inl rfl))) (PE.b pp_int))) pab_n))) (PE.b (pp_var (i := 1) rfl (.inl rfl))))))))))
theorem D_w_two (T : Tx P wl base w) : DefD P wl base w "_law_two" 1 1 f_w_two :=
  defD (k := 0) (g := g_w_two) T.def_w_two sc_w_two rfl rfl (fun _ _ _ _ _ _ us hl => match us, hl with | [_], _ => rfl) (fun f cdv A outer s H E C =>
   (pss_c (ps_s (i := 1) C rfl (.inl rfl) pp_int)
  (pss_c (ps_f C (pi_rng1 C rfl T.free_range (pab_c (PE.b (pp_var (i := 0) rfl (.inl rfl))) pab_n)) (pg_n C (i := 2) rfl (.inl rfl))
  (pss_1 (ps_s (i := 1) C rfl (.inl rfl) (pp_bin opr_mul opd_mul (PE.b (pp_var (i := 1) rfl (.inl rfl))) (PE.b pp_int)))))
  (pss_1 (ps_r (pp_var (i := 1) rfl (.inl rfl)))))))
theorem D_w_some (T : Tx P wl base w) (D_w_roll : DefD P wl base w "_law_roll" 1 2 f_w_roll) : DefD P wl base w "_law_some" 2 2 f_w_some :=
  defD (k := 1) (g := g_w_some) T.def_w_some sc_w_some rfl rfl (fun _ _ _ _ _ _ us hl => match us, hl with | [_, _], _ => rfl) (fun f cdv A outer s H E C =>
   (pss_1 (ps_r (pp_ix C (PE.b (pp_var (i := 1) rfl (.inl rfl))) (PE.b (pp_call C D_w_roll (by decide) rfl rfl (pa_c (pp_var (i := 0) rfl (.inl rfl)) (pa_c (pp_callB C call_len_seq cd_len rfl T.free_len bb_len (pab_c (PE.b (pp_var (i := 1) rfl (.inl rfl))) pab_n)) pa_n)) (len_cons (len_cons len_nil))))))))
theorem D_w_sort (T : Tx P wl base w) : DefD P wl base w "_law_sort" 1 1 f_w_sort :=
  defD (k := 0) (g := g_w_sort) T.def_w_sort sc_w_sort rfl rfl (fun _ _ _ _ _ _ us hl => match us, hl with | [_], _ => rfl) (fun f cdv A outer s H E C =>
   (pss_c (ps_i (PWt.pt (wt_or (pt_cmp op_isN opd_is (nomark _) (PE.b (pp_var (i := 0) rfl (.inl rfl))) (PE.b pp_non)) (wt_or1 (pt_of C (PE.b (pp_isi (t := .bool) C rfl T.free_isinstance (PE.b (pp_var (i := 0) rfl (.inl rfl))) (pe_bltn rfl (C.hmg ▸ T.free_bool) bb_bool rfl)))))))
  (pss_1 (ps_r (pp_ifExp (pt_cmp op_isN opd_is (nomark _) (PE.b (pp_var (i := 0) rfl (.inl rfl))) (PE.b pp_non)) pp_int pp_int)))
  pss_n)
  (pss_c (ps_i (PWt.pt (wt_or (pt_of C (PE.b (pp_isi (t := .int) C rfl T.free_isinstance (PE.b (pp_var (i := 0) rfl (.inl rfl))) (pe_bltn rfl (C.hmg ▸ T.free_int) bb_int rfl)))) (wt_or1 (pt_of C (PE.b (pp_isi (t := .str) C rfl T.free_isinstance (PE.b (pp_var (i := 0) rfl (.inl rfl))) (pe_bltn rfl (C.hmg ▸ T.free_str) bb_str rfl)))))))
  (pss_1 (ps_r (pp_ifExp (pt_of C (PE.b (pp_isi (t := .int) C rfl T.free_isinstance (PE.b (pp_var (i := 0) rfl (.inl rfl))) (pe_bltn rfl (C.hmg ▸ T.free_int) bb_int rfl)))) pp_int pp_int)))
  pss_n)
  (pss_1 (ps_r (pp_ifExp (pt_of C (PE.b (pp_isi (t := .tuple) C rfl T.free_isinstance (PE.b (pp_var (i := 0) rfl (.inl rfl))) (pe_bltn rfl (C.hmg ▸ T.free_tuple) bb_tuple rfl)))) pp_int (pp_ifExp (pt_of C (PE.b (pp_isi (t := .list) C rfl T.free_isinstance (PE.b (pp_var (i := 0) rfl (.inl rfl))) (pe_bltn rfl (C.hmg ▸ T.free_list) bb_list rfl)))) pp_int pp_int)))))))
theorem D_w_like (T : Tx P wl base w) (D_w_sort : DefD P wl base w "_law_sort" 1 1 f_w_sort) : ∀ n, DefD P wl base w "_law_like" (1 + n) 2 (f_w_like n)
  | 0 => by
    obtain ⟨f, fd, F, hm⟩ := T.def_w_like
    exact ⟨f, fd, ["one", "other"], hm, F.kp, F.binds (fun _ _ _ _ _ _ us hl => match us, hl with | [_, _], _ => rfl), rfl, fnBad⟩
  | n + 1 => by
    have hrec := D_w_like T D_w_sort n
    exact defD (k := 1 + n) (g := g_w_like (f_w_like n)) T.def_w_like sc_w_like rfl rfl (fun _ _ _ _ _ _ us hl => match us, hl with | [_, _], _ => rfl) (fun f cdv A outer s H E C =>
   (pss_c (ps_s (i := 2) C rfl (.inl rfl) (pp_call C D_w_sort (by omega) rfl rfl (pa_c (pp_var (i := 1) rfl (.inl rfl)) pa_n) (len_cons len_nil)))
  (pss_c (ps_i (PWt.pt (wt_or (pt_cmp (op_neD C.room.units) opd_ne (nomark _) (PE.b (pp_call C D_w_sort (by omega) rfl rfl (pa_c (pp_var (i := 0) rfl (.inl rfl)) pa_n) (len_cons len_nil))) (PE.b (pp_var (i := 2) rfl (.inl rfl)))) (wt_or1 (pt_cmp (op_eqD C.room.units) opd_eq (nomark _) (PE.b (pp_var (i := 2) rfl (.inl rfl))) (PE.b pp_int)))))
  (pss_1 (ps_r pp_bl))
  pss_n)
  (pss_c (ps_i (pt_cmp op_in_seq opd_in (by rfl) (PE.b (pp_var (i := 2) rfl (.inl rfl))) (PE.b (pp_tup (pa_c pp_int (pa_c pp_int pa_n)))))
  (pss_1 (ps_r (pp_and C (pp_cmp (op_eqD C.room.units) opd_eq (nomark _) (PE.b (pp_callB C call_len_seq cd_len rfl T.free_len bb_len (pab_c (PE.b (pp_var (i := 0) rfl (.inl rfl))) pab_n))) (PE.b (pp_callB C call_len_seq cd_len rfl T.free_len bb_len (pab_c (PE.b (pp_var (i := 1) rfl (.inl rfl))) pab_n)))) (pe_one (pp_cmp (op_eqD C.room.units) opd_eq (nomark _) (PE.b (PE.fz (pf_lc (own := [("first", 3), ("second", 4)]) C (pi_zp C rfl T.free_zip (pab_c (PE.b (pp_var (i := 0) rfl (.inl rfl))) (pab_c (PE.b (pp_var (i := 1) rfl (.inl rfl))) pab_n))) (blkOk_by (own := [("first", 3), ("second", 4)]) (N := N_w_like) (sc := defScope s_w_like) (by decide +kernel)) (by decide) (fun _ _ _ _ _ C => (pg_t C (pgs_c (pg_n C (i := 3) rfl (.inl rfl)) (pgs_c (pg_n C (i := 4) rfl (.inl rfl)) pgs_n)))) (fun _ _ _ _ _ C => (pts_1 (ptn (pt_of C (PE.b (pp_call C hrec (by omega) rfl rfl (pa_c (pp_var (i := 3) rfl (.inl rfl)) (pa_c (pp_var (i := 4) rfl (.inl rfl)) pa_n)) (len_cons (len_cons len_nil)))))))) (fun _ _ _ _ _ C => pp_int)))) (PE.b (PE.fz (pf_lst pa_n))))))))
  pss_n)
  (pss_1 (ps_r (pp_cmp (op_eqD C.room.units) opd_eq (nomark _) (PE.b (pp_var (i := 0) rfl (.inl rfl))) (PE.b (pp_var (i := 1) rfl (.inl rfl))))))))))
theorem D_w_bent (T : Tx P wl base w) (D_w_roll : DefD P wl base w "_law_roll" 1 2 f_w_roll) (D_w_sort : DefD P wl base w "_law_sort" 1 1 f_w_sort) (D_w_some : DefD P wl base w "_law_some" 2 2 f_w_some) : ∀ n, DefD P wl base w "_law_bent" (2 + n) 2 (f_w_bent n)
  | 0 => by
    obtain ⟨f, fd, F, hm⟩ := T.def_w_bent
    exact ⟨f, fd, ["cup", "value"], hm, F.kp, F.binds (fun _ _ _ _ _ _ us hl => match us, hl with | [_, _], _ => rfl), rfl, fnBad⟩
  | n + 1 => by
    have hrec := D_w_bent T D_w_roll D_w_sort D_w_some n
    exact defD (k := 2 + n) (g := g_w_bent (f_w_bent n)) T.def_w_bent sc_w_bent rfl rfl (fun _ _ _ _ _ _ us hl => match us, hl with | [_, _], _ => rfl) (fun f cdv A outer s H E C =>
   (pss_c (ps_i (PWt.pt (wt_or (ptn (pt_of C (PE.b (pp_isi (t := .tuple) C rfl T.free_isinstance (PE.b (pp_var (i := 1) rfl (.inl rfl))) (pe_bltn rfl (C.hmg ▸ T.free_tuple) bb_tuple rfl))))) (wt_or (pt_cmp (op_eqD C.room.units) opd_eq (nomark _) (PE.b (pp_var (i := 1) rfl (.inl rfl))) (PE.b (pp_tup pa_n))) (wt_or1 (pt_cmp (op_eqD C.room.units) opd_eq (nomark _) (PE.b (pp_call C D_w_roll (by omega) rfl rfl (pa_c (pp_var (i := 0) rfl (.inl rfl)) (pa_c pp_int pa_n)) (len_cons (len_cons len_nil)))) (PE.b pp_int))))))
  (pss_c (ps_s (i := 2) C rfl (.inl rfl) (PE.fz (pf_lst (pa_c pp_non (pa_c pp_bl (pa_c pp_int (pa_c pp_int (pa_c (pp_un un_neg opd_neg (PE.b pp_int)) (pa_c pp_int (pa_c pp_int (pa_c pp_int (pa_c pp_int (pa_c pp_str (pa_c pp_str (pa_c (pp_tup pa_n) (pa_c (PE.fz (pf_lst pa_n)) (pa_c (pp_tup (pa_c pp_int pa_n)) (pa_c (pp_tup (pa_c pp_int (pa_c pp_int pa_n))) (pa_c (pp_tup (pa_c pp_int (pa_c pp_int pa_n))) pa_n)))))))))))))))))))
  (pss_1 (ps_r (pp_call C D_w_some (by omega) rfl rfl (pa_c (pp_var (i := 0) rfl (.inl rfl)) (pa_c (pp_bin opr_add opd_add (PE.b (pp_var (i := 2) rfl (.inl rfl))) (PE.b (pp_ifExp (pt_cmp (op_eqD C.room.units) opd_eq (nomark _) (PE.b (pp_call C D_w_sort (by omega) rfl rfl (pa_c (pp_var (i := 1) rfl (.inl rfl)) pa_n) (len_cons len_nil))) (PE.b pp_int)) (pp_bin opr_mul opd_mul (PE.b (PE.fz (pf_lst (pa_c (pp_bin opr_add opd_add (PE.b (pp_var (i := 1) rfl (.inl rfl))) (PE.b pp_int)) (pa_c (pp_bin op_sub opd_sub (PE.b (pp_var (i := 1) rfl (.inl rfl))) (PE.b pp_int)) pa_n))))) (PE.b pp_int)) (PE.fz (pf_lst pa_n))))) pa_n)) (len_cons (len_cons len_nil))))))
  pss_n)
  (pss_c (ps_p (i := 3) (j := 4) C rfl rfl (by omega) rfl rfl (pa_c (pp_call C D_w_roll (by omega) rfl rfl (pa_c (pp_var (i := 0) rfl (.inl rfl)) (pa_c (pp_callB C call_len_seq cd_len rfl T.free_len bb_len (pab_c (PE.b (pp_var (i := 1) rfl (.inl rfl))) pab_n)) pa_n)) (len_cons (len_cons len_nil))) (pa_c (pp_call C D_w_roll (by omega) rfl rfl (pa_c (pp_var (i := 0) rfl (.inl rfl)) (pa_c pp_int pa_n)) (len_cons (len_cons len_nil))) pa_n)) (by rfl))
  (pss_c (ps_i (pt_cmp (opr_lt C.room.units0) opd_lt (nomark _) (PE.b (pp_var (i := 4) rfl (.inl rfl))) (PE.b pp_int))
  (pss_1 (ps_r (pp_bin opr_add opd_add (PE.b (pp_bin opr_add opd_add (PE.b (pp_slice C (PE.b (pp_var (i := 1) rfl (.inl rfl))) po_n (po_s (PE.b (pp_var (i := 3) rfl (.inl rfl)))))) (PE.b (pp_slice C (PE.b (pp_var (i := 1) rfl (.inl rfl))) (po_s (PE.b (pp_bin opr_add opd_add (PE.b (pp_var (i := 3) rfl (.inl rfl))) (PE.b (pp_var (i := 4) rfl (.inl rfl)))))) po_n)))) (PE.b (pp_ifExp (pt_cmp (op_eqD C.room.units) opd_eq (nomark _) (PE.b (pp_var (i := 4) rfl (.inl rfl))) (PE.b pp_int)) (pp_slice C (PE.b (pp_var (i := 1) rfl (.inl rfl))) (po_s (PE.b (pp_var (i := 3) rfl (.inl rfl)))) (po_s (PE.b (pp_bin opr_add opd_add (PE.b (pp_var (i := 3) rfl (.inl rfl))) (PE.b pp_int))))) (pp_tup pa_n))))))
  pss_n)
  (pss_c (ps_i (pt_cmp (op_eqD C.room.units) opd_eq (nomark _) (PE.b (pp_var (i := 4) rfl (.inl rfl))) (PE.b pp_int))
  (pss_1 (ps_r (pp_callTy C call_list_of cd_list rfl T.free_list bb_list (pab_c (PE.b (pp_var (i := 1) rfl (.inl rfl))) pab_n))))
  pss_n)
  (pss_c (ps_i (pt_cmp (op_eqD C.room.units) opd_eq (nomark _) (PE.b (pp_var (i := 4) rfl (.inl rfl))) (PE.b pp_int))
  (pss_1 (ps_r (pp_rev C (PE.b (pp_var (i := 1) rfl (.inl rfl))))))
  pss_n)
  (pss_1 (ps_r (pp_bin opr_add opd_add (PE.b (pp_bin opr_add opd_add (PE.b (pp_slice C (PE.b (pp_var (i := 1) rfl (.inl rfl))) po_n (po_s (PE.b (pp_var (i := 3) rfl (.inl rfl)))))) (PE.b (pp_tup (pa_c (pp_call C hrec (by omega) rfl rfl (pa_c (pp_var (i := 0) rfl (.inl rfl)) (pa_c (pp_ix C (PE.b (pp_var (i := 1) rfl (.inl rfl))) (PE.b (pp_var (i := 3) rfl (.inl rfl)))) pa_n)) (len_cons (len_cons len_nil))) pa_n))))) (PE.b (pp_slice C (PE.b (pp_var (i := 1) rfl (.inl rfl))) (po_s (PE.b (pp_bin opr_add opd_add (PE.b (pp_var (i := 3) rfl (.inl rfl))) (PE.b pp_int)))) po_n)))))))))))
theorem D_w_bits (T : Tx P wl base w) (D_w_two : DefD P wl base w "_law_two" 1 1 f_w_two) : DefD P wl base w "_law_bits" 2 1 f_w_bits :=
  defD (k := 1) (g := g_w_bits) T.def_w_bits sc_w_bits rfl rfl (fun _ _ _ _ _ _ us hl => match us, hl with | [_], _ => rfl) (fun f cdv A outer s H E C =>
   (pss_c (ps_p (i := 1) (j := 2) C rfl rfl (by decide) rfl rfl (pa_c (pp_callB C call_abs cd_abs rfl T.free_abs bb_abs (pab_c (PE.b (pp_var (i := 0) rfl (.inl rfl))) pab_n)) (pa_c (pp_ifExp (pt_cmp op_ge (opd_cmpI _) (nomark _) (PE.b (pp_var (i := 0) rfl (.inl rfl))) (PE.b pp_int)) pp_int (pp_un un_neg opd_neg (PE.b pp_int))) pa_n)) (by rfl))
  (pss_c (ps_so (i := 3) C rfl (.inl rfl) (pf_lst pa_n))
  (pss_c (ps_f C (pi_rng1 C rfl T.free_range (pab_c (PE.b pp_int) pab_n)) (pg_n C (i := 4) rfl (.inl rfl))
  (pss_c (ps_s (i := 5) C rfl (.inl rfl) (pp_bin op_sub opd_sub (PE.b (pp_bin op_mod opd_mod (PE.b (pp_callTy C call_int1 cd_int rfl T.free_int bb_int (pab_c (PE.b (pp_bin op_fdivW opd_div (PE.b (pp_bin opr_mul opd_mul (PE.b pp_int) (PE.b (pp_var (i := 1) rfl (.inl rfl))))) (PE.b (pp_call C D_w_two (by decide) rfl rfl (pa_c (pp_bin opr_add opd_add (PE.b (pp_var (i := 4) rfl (.inl rfl))) (PE.b pp_int)) pa_n) (len_cons len_nil))))) pab_n))) (PE.b pp_int))) (PE.b (pp_bin op_mod opd_mod (PE.b (pp_callTy C call_int1 cd_int rfl T.free_int bb_int (pab_c (PE.b (pp_bin op_fdivW opd_div (PE.b (pp_var (i := 1) rfl (.inl rfl))) (PE.b (pp_call C D_w_two (by decide) rfl rfl (pa_c (pp_bin opr_add opd_add (PE.b (pp_var (i := 4) rfl (.inl rfl))) (PE.b pp_int)) pa_n) (len_cons len_nil))))) pab_n))) (PE.b pp_int)))))
  (pss_1 (ps_i (pt_cmp (op_neD C.room.units) opd_ne (nomark _) (PE.b (pp_var (i := 5) rfl (.inl rfl))) (PE.b pp_int))
  (pss_1 (ps_app (i := 3) C rfl (.inl rfl) (pp_tup (pa_c (pp_bin opr_mul opd_mul (PE.b (pp_var (i := 2) rfl (.inl rfl))) (PE.b (pp_var (i := 5) rfl (.inl rfl)))) (pa_c (pp_var (i := 4) rfl (.inl rfl)) pa_n)))))
  pss_n))))
  (pss_1 (ps_r (pp_callTy C call_tuple_of cd_tuple rfl T.free_tuple bb_tuple (pab_c (pb_var (i := 3) rfl (.inl rfl)) pab_n))))))))
theorem D_w_is_digits (T : Tx P wl base w) (D_w_sort : DefD P wl base w "_law_sort" 1 1 f_w_sort) : DefD P wl base w "_law_is_digits" 2 1 f_w_is_digits :=
  defD (k := 1) (g := g_w_is_digits) T.def_w_is_digits sc_w_is_digits rfl rfl (fun _ _ _ _ _ _ us hl => match us, hl with | [_], _ => rfl) (fun f cdv A outer s H E C =>
   (pss_c (ps_i (PWt.pt (wt_or (pt_cmp (op_neD C.room.units) opd_ne (nomark _) (PE.b (pp_call C D_w_sort (by decide) rfl rfl (pa_c (pp_var (i := 0) rfl (.inl rfl)) pa_n) (len_cons len_nil))) (PE.b pp_int)) (wt_or1 (pt_cmp op_gt (opd_cmpI _) (nomark _) (PE.b (pp_callB C call_len_seq cd_len rfl T.free_len bb_len (pab_c (PE.b (pp_var (i := 0) rfl (.inl rfl))) pab_n))) (PE.b pp_int)))))
  (pss_1 (ps_r pp_bl))
  pss_n)
  (pss_c (ps_s (i := 1) C rfl (.inl rfl) (pp_un un_neg opd_neg (PE.b pp_int)))
  (pss_c (ps_f C (pi_seq C (pp_var (i := 0) rfl (.inl rfl))) (pg_n C (i := 2) rfl (.inl rfl))
  (pss_c (ps_i (PWt.pt (wt_or (pt_cmp (op_neD C.room.units) opd_ne (nomark _) (PE.b (pp_call C D_w_sort (by decide) rfl rfl (pa_c (pp_var (i := 2) rfl (.inl rfl)) pa_n) (len_cons len_nil))) (PE.b pp_int)) (wt_or (pt_cmp (op_neD C.room.units) opd_ne (nomark _) (PE.b (pp_callB C call_len_seq cd_len rfl T.free_len bb_len (pab_c (PE.b (pp_var (i := 2) rfl (.inl rfl))) pab_n))) (PE.b pp_int)) (wt_or (pt_cmp (op_neD C.room.units) opd_ne (nomark _) (PE.b (pp_call C D_w_sort (by decide) rfl rfl (pa_c (pp_ix C (PE.b (pp_var (i := 2) rfl (.inl rfl))) (PE.b pp_int)) pa_n) (len_cons len_nil))) (PE.b pp_int)) (wt_or1 (pt_cmp (op_neD C.room.units) opd_ne (nomark _) (PE.b (pp_call C D_w_sort (by decide) rfl rfl (pa_c (pp_ix C (PE.b (pp_var (i := 2) rfl (.inl rfl))) (PE.b pp_int)) pa_n) (len_cons len_nil))) (PE.b pp_int)))))))
  (pss_1 (ps_r pp_bl))
  pss_n)
  (pss_c (ps_i (PWt.pt (wt_or (pt_cmp op_notIn_seq opd_notIn (by rfl) (PE.b (pp_ix C (PE.b (pp_var (i := 2) rfl (.inl rfl))) (PE.b pp_int))) (PE.b (pp_tup (pa_c pp_int (pa_c (pp_un un_neg opd_neg (PE.b pp_int)) pa_n))))) (wt_or (pt_cmp op_le (opd_cmpI _) (nomark _) (PE.b (pp_ix C (PE.b (pp_var (i := 2) rfl (.inl rfl))) (PE.b pp_int))) (PE.b (pp_var (i := 1) rfl (.inl rfl)))) (wt_or1 (pt_cmp op_gt (opd_cmpI _) (nomark _) (PE.b (pp_ix C (PE.b (pp_var (i := 2) rfl (.inl rfl))) (PE.b pp_int))) (PE.b pp_int))))))
  (pss_1 (ps_r pp_bl))
  pss_n)
  (pss_1 (ps_s (i := 1) C rfl (.inl rfl) (pp_ix C (PE.b (pp_var (i := 2) rfl (.inl rfl))) (PE.b pp_int)))))))
  (pss_1 (ps_r pp_bl))))))
theorem D_w_value (T : Tx P wl base w) (D_w_two : DefD P wl base w "_law_two" 1 1 f_w_two) : DefD P wl base w "_law_value" 2 1 f_w_value :=
  defD (k := 1) (g := g_w_value) T.def_w_value sc_w_value rfl rfl (fun _ _ _ _ _ _ us hl => match us, hl with | [_], _ => rfl) (fun f cdv A outer s H E C =>
   (pss_c (ps_s (i := 1) C rfl (.inl rfl) pp_int)
  (pss_c (ps_f C (pi_seq C (pp_rev C (PE.b (pp_var (i := 0) rfl (.inl rfl))))) (pg_t C (pgs_c (pg_n C (i := 2) rfl (.inl rfl)) (pgs_c (pg_n C (i := 3) rfl (.inl rfl)) pgs_n)))
  (pss_1 (ps_s (i := 1) C rfl (.inl rfl) (pp_bin opr_add opd_add (PE.b (pp_var (i := 1) rfl (.inl rfl))) (PE.b (pp_bin opr_mul opd_mul (PE.b (pp_var (i := 2) rfl (.inl rfl))) (PE.b (pp_call C D_w_two (by decide) rfl rfl (pa_c (pp_var (i := 3) rfl (.inl rfl)) pa_n) (len_cons len_nil)))))))))
  (pss_1 (ps_r (pp_var (i := 1) rfl (.inl rfl)))))))
theorem D_w_right (T : Tx P wl base w) (D_w_bits : DefD P wl base w "_law_bits" 2 1 f_w_bits) (D_signed : DefD P wl base w "signed" 3 1 f_signed) (D_value_of : DefD P wl base w "value_of" 4 1 f_value_of) (D_fewest : DefD P wl base w "fewest" 3 1 f_fewest) (D_is_apart : DefD P wl base w "is_apart" 4 1 f_is_apart) (D_is_digits : DefD P wl base w "is_digits" 2 1 f_is_digits) (D_w_like : ∀ n, DefD P wl base w "_law_like" (1 + n) 2 (f_w_like n)) (D_w_bent : ∀ n, DefD P wl base w "_law_bent" (2 + n) 2 (f_w_bent n)) (D_w_is_digits : DefD P wl base w "_law_is_digits" 2 1 f_w_is_digits) (D_w_value : DefD P wl base w "_law_value" 2 1 f_w_value) : DefD P wl base w "_law_right" 14 2 f_w_right :=
  defDL (k := 13) (g := g_w_right) T.def_w_right T.lam_w_right sc_w_right rfl rfl (fun _ _ _ _ _ _ us hl => match us, hl with | [_, _], _ => rfl) (fun f c Pa cdv A outer s H E LT hcd C =>
   (pss_c (ps_s (i := 2) C rfl (.inr rfl) (pp_call C D_w_bits (by decide) rfl rfl (pa_c (pp_var (i := 1) rfl (.inl rfl)) pa_n) (len_cons len_nil)))
  (pss_c (ps_s (i := 3) C rfl (.inl rfl) (pp_callTy C call_tuple_of cd_tuple rfl T.free_tuple bb_tuple (pab_c (PE.b (PE.fz (pf_lc (own := [("sign", 8), ("place", 9)]) C (pi_seqB C (PE.b (pp_var (i := 2) rfl (.inr (.inl rfl))))) (blkOk_by (own := [("sign", 8), ("place", 9)]) (N := N_w_right) (sc := defScope s_w_right) (by decide +kernel)) (by decide) (fun _ _ _ _ _ C => (pg_t C (pgs_c (pg_n C (i := 8) rfl (.inl rfl)) (pgs_c (pg_n C (i := 9) rfl (.inl rfl)) pgs_n)))) (fun _ _ _ _ _ C => pts_n) (fun _ _ _ _ _ C => (pp_tup (pa_c (pp_un un_neg opd_neg (PE.b (pp_var (i := 8) rfl (.inl rfl)))) (pa_c (pp_var (i := 9) rfl (.inl rfl)) pa_n))))))) pab_n)))
  (pss_c (ps_s (i := 4) C rfl (.inl rfl) (PE.fz (pf_lst (pa_c (pp_call C D_signed (by decide) rfl rfl (pa_c (pp_var (i := 1) rfl (.inl rfl)) pa_n) (len_cons len_nil)) (pa_c (pp_call C D_signed (by decide) rfl rfl (pa_c (pp_un un_neg opd_neg (PE.b (pp_var (i := 1) rfl (.inl rfl)))) pa_n) (len_cons len_nil)) (pa_c (pp_call C D_value_of (by decide) rfl rfl (pa_c (pp_var (i := 2) rfl (.inr (.inl rfl))) pa_n) (len_cons len_nil)) (pa_c (pp_call C D_value_of (by decide) rfl rfl (pa_c (pp_var (i := 3) rfl (.inl rfl)) pa_n) (len_cons len_nil)) (pa_c (pp_call C D_fewest (by decide) rfl rfl (pa_c (pp_var (i := 1) rfl (.inl rfl)) pa_n) (len_cons len_nil)) (pa_c (pp_call C D_is_apart (by decide) rfl rfl (pa_c (pp_var (i := 2) rfl (.inr (.inl rfl))) pa_n) (len_cons len_nil)) (pa_c (pp_call C D_is_digits (by decide) rfl rfl (pa_c (pp_var (i := 2) rfl (.inr (.inl rfl))) pa_n) (len_cons len_nil)) pa_n))))))))))
  (pss_c (ps_i (ptn (pt_of C (PE.b (pp_call C (D_w_like 8) (by decide) rfl rfl (pa_c (pp_var (i := 4) rfl (.inl rfl)) (pa_c (PE.fz (pf_lst (pa_c (pp_var (i := 2) rfl (.inr (.inl rfl))) (pa_c (pp_var (i := 3) rfl (.inl rfl)) (pa_c (pp_var (i := 1) rfl (.inl rfl)) (pa_c (pp_un un_neg opd_neg (PE.b (pp_var (i := 1) rfl (.inl rfl)))) (pa_c (pp_callB C call_len_seq cd_len rfl T.free_len bb_len (pab_c (PE.b (pp_var (i := 2) rfl (.inr (.inl rfl)))) pab_n)) (pa_c pp_bl (pa_c pp_bl pa_n))))))))) pa_n)) (len_cons (len_cons len_nil))))))
  (pss_1 (ps_r pp_bl))
  pss_n)
  (pss_c (ps_s (i := 5) C rfl (.inl rfl) (pp_bin opr_add opd_add (PE.b (PE.fz (pf_lc (own := [("turn", 10)]) C (PI.bo (pi_rng1 C rfl T.free_range (pab_c (PE.b pp_int) pab_n))) (blkOk_by (own := [("turn", 10)]) (N := N_w_right) (sc := defScope s_w_right) (by decide +kernel)) (by decide) (fun _ _ _ _ _ C => (pg_n C (i := 10) rfl (.inl rfl))) (fun _ _ _ _ _ C => pts_n) (fun _ _ _ _ _ C => (pp_call C (D_w_bent 8) (by decide) rfl rfl (pa_c (pp_var (i := 0) rfl (.inr (.inl rfl))) (pa_c (pp_var (i := 2) rfl (.inr (.inl rfl))) pa_n)) (len_cons (len_cons len_nil))))))) (PE.b (PE.fz (pf_lst (pa_c (pp_tup (pa_c (pp_tup (pa_c pp_int (pa_c pp_int pa_n))) pa_n)) (pa_c (pp_tup (pa_c (pp_tup (pa_c pp_int (pa_c (pp_un un_neg opd_neg (PE.b pp_int)) pa_n))) pa_n)) (pa_c (pp_tup (pa_c (pp_tup (pa_c pp_int (pa_c pp_int pa_n))) pa_n)) (pa_c (pp_tup (pa_c (pp_tup (pa_c pp_int (pa_c pp_int pa_n))) pa_n)) (pa_c (PE.fz (pf_lst (pa_c (pp_tup (pa_c pp_int (pa_c pp_int pa_n))) pa_n))) (pa_c (pp_tup (pa_c (pp_tup (pa_c pp_bl (pa_c pp_int pa_n))) pa_n)) (pa_c (pp_tup (pa_c (pp_tup (pa_c pp_int (pa_c pp_int pa_n))) (pa_c (pp_tup (pa_c pp_int (pa_c pp_int pa_n))) pa_n))) (pa_c (pp_tup (pa_c (pp_tup (pa_c pp_int (pa_c pp_int pa_n))) (pa_c (pp_tup (pa_c (pp_un un_neg opd_neg (PE.b pp_int)) (pa_c pp_int pa_n))) pa_n))) pa_n)))))))))))))
  (pss_c (ps_f C (pi_seq C (pp_var (i := 5) rfl (.inl rfl))) (pg_n C (i := 7) rfl (.inr rfl))
  (pss_c (ps_s (i := 6) C rfl (.inl rfl) (pp_call C D_w_is_digits (by decide) rfl rfl (pa_c (pp_var (i := 7) rfl (.inr (.inl rfl))) pa_n) (len_cons len_nil)))
  (pss_c (ps_i (ptn (pt_of C (PE.b (pp_call C (D_w_like 8) (by decide) rfl rfl (pa_c (pp_call C D_is_digits (by decide) rfl rfl (pa_c (pp_var (i := 7) rfl (.inr (.inl rfl))) pa_n) (len_cons len_nil)) (pa_c (pp_var (i := 6) rfl (.inl rfl)) pa_n)) (len_cons (len_cons len_nil))))))
  (pss_1 (ps_r pp_bl))
  pss_n)
  (pss_c (ps_i (PWt.pt (wt_and (pt_of C (PE.b (pp_var (i := 6) rfl (.inl rfl)))) (wt_and1 (ptn (pt_of C (PE.b (pp_call C (D_w_like 8) (by decide) rfl rfl (pa_c (PE.fz (pf_lst (pa_c (pp_call C D_value_of (by decide) rfl rfl (pa_c (pp_var (i := 7) rfl (.inr (.inl rfl))) pa_n) (len_cons len_nil)) (pa_c (pp_call C D_is_apart (by decide) rfl rfl (pa_c (pp_var (i := 7) rfl (.inr (.inl rfl))) pa_n) (len_cons len_nil)) pa_n)))) (pa_c (PE.fz (pf_lst (pa_c (pp_call C D_w_value (by decide) rfl rfl (pa_c (pp_var (i := 7) rfl (.inr (.inl rfl))) pa_n) (len_cons len_nil)) (pa_c (pp_cmp (op_eqD C.room.units) opd_eq (nomark _) (PE.b (PE.fz (pf_lc (own := [("one", 11), ("other", 12)]) C (pi_zp C rfl T.free_zip (pab_c (PE.b (pp_var (i := 7) rfl (.inr (.inl rfl)))) (pab_c (PE.b (pp_slice C (PE.b (pp_var (i := 7) rfl (.inr (.inl rfl)))) (po_s (PE.b pp_int)) po_n)) pab_n))) (blkOk_by (own := [("one", 11), ("other", 12)]) (N := N_w_right) (sc := defScope s_w_right) (by decide +kernel)) (by decide) (fun _ _ _ _ _ C => (pg_t C (pgs_c (pg_n C (i := 11) rfl (.inl rfl)) (pgs_c (pg_n C (i := 12) rfl (.inl rfl)) pgs_n)))) (fun _ _ _ _ _ C => (pts_1 (pt_cmp (opr_lt C.room.units0) opd_lt (nomark _) (PE.b (pp_ix C (PE.b (pp_var (i := 12) rfl (.inl rfl))) (PE.b pp_int))) (PE.b (pp_bin opr_add opd_add (PE.b (pp_ix C (PE.b (pp_var (i := 11) rfl (.inl rfl))) (PE.b pp_int))) (PE.b pp_int)))))) (fun _ _ _ _ _ C => pp_int)))) (PE.b (PE.fz (pf_lst pa_n)))) pa_n)))) pa_n)) (len_cons (len_cons len_nil)))))))))
  (pss_1 (ps_r pp_bl))
  pss_n)
  (pss_c (ps_i (PWt.pt (wt_and (ptn (pt_of C (PE.b (pp_var (i := 6) rfl (.inl rfl))))) (wt_and1 (pt_cmp (op_neD C.room.units) opd_ne (nomark _) (PE.b (pp_err C (D_w_error T C) rfl LT rfl hcd (lamS_by (sc := defScope s_w_right) (by decide +kernel)) rfl (fun _ _ _ _ _ => rfl) (fun _ _ _ _ E _ _ C => (pp_call C D_value_of (by decide) rfl rfl (pa_c (pp_var (i := 7) rfl (.inr (.inr rfl))) pa_n) (len_cons len_nil))))) (PE.b pp_str)))))
  (pss_1 (ps_r pp_bl))
  pss_n)
  (pss_1 (ps_i (PWt.pt (wt_and (ptn (pt_of C (PE.b (pp_var (i := 6) rfl (.inl rfl))))) (wt_and1 (pt_cmp (op_neD C.room.units) opd_ne (nomark _) (PE.b (pp_err C (D_w_error T C) rfl LT rfl hcd (lamS_by (sc := defScope s_w_right) (by decide +kernel)) rfl (fun _ _ _ _ _ => rfl) (fun _ _ _ _ E _ _ C => (pp_call C D_is_apart (by decide) rfl rfl (pa_c (pp_var (i := 7) rfl (.inr (.inr rfl))) pa_n) (len_cons len_nil))))) (PE.b pp_str)))))
  (pss_1 (ps_r pp_bl))
  pss_n)))))))
  (pss_1 (ps_r pp_bl)))))))))
theorem L_law (T : Tx P wl base w) (D_w_cup : DefD P wl base w "_law_cup" 1 1 f_w_cup) (D_w_two : DefD P wl base w "_law_two" 1 1 f_w_two) (D_w_roll : DefD P wl base w "_law_roll" 1 2 f_w_roll) (D_w_some : DefD P wl base w "_law_some" 2 2 f_w_some) (D_w_right : DefD P wl base w "_law_right" 14 2 f_w_right) (D_signed : DefD P wl base w "signed" 3 1 f_signed) (D_fewest : DefD P wl base w "fewest" 3 1 f_fewest) (D_value_of : DefD P wl base w "value_of" 4 1 f_value_of) (D_w_like : ∀ n, DefD P wl base w "_law_like" (1 + n) 2 (f_w_like n)) {f : Addr} {fd : FuncData} (F : Fun w.K "law" "law" s_law f fd) (hm : w.mg "law" = some (.ref f))
    (hplain : ∀ (E : XK) (ns : List Int), ns.length ≤ 63 → ∃ a b env', g1_law ((List.replicate 7 .no).set 0 (.fz (.scr ns))) [] = .ok (.nx, env') [] ∧ env'.length = 7 ∧ env'[1]? = some (.fz (.lst [.int a, .int b])) ∧ ∃ env2 c2, g2_law ((List.replicate 7 .no).set 1 (.fz .cup)) [a, b] = .ok (.ret (.bl true), env2) c2) : FnOk P wl w.K w.mg base (L2N.CX P wl) 17 f fd ["script"] (spLaw w 63) := by
  obtain ⟨f2, c, Pa, hm2, LT⟩ := T.lam_law
  rw [hm] at hm2
  cases hm2
  exact law_ok (i := 1) (k := 16) (g1 := fun _ => g1_law) (g2 := fun _ => g2_law) (Lc := fun cdv => cdv = .ref c) F (fun _ _ _ _ _ _ _ _ _ lk => LT.cd lk) sc_law (by decide) (fun cdv A outer s H E hcd C => pss_cons (ps_s (i := 1) C rfl (.inr rfl) (pp_call C D_w_cup (by decide) rfl rfl (pa_c (pp_var (i := 0) rfl (.inl rfl)) pa_n) (len_cons len_nil)))
   (pss_c (ps_so (i := 2) C rfl (.inl rfl) (pf_lst (pa_c pp_int (pa_c pp_int (pa_c (pp_un un_neg opd_neg (PE.b pp_int)) (pa_c pp_int (pa_c (pp_un un_neg opd_neg (PE.b pp_int)) (pa_c pp_int (pa_c (pp_bin op_pow opd_pow (PE.b pp_int) (PE.b pp_int)) (pa_c (pp_un un_neg opd_neg (PE.b (pp_bin op_pow opd_pow (PE.b pp_int) (PE.b pp_int)))) (pa_c (pp_bin op_sub opd_sub (PE.b (pp_bin op_pow opd_pow (PE.b pp_int) (PE.b pp_int))) (PE.b pp_int)) (pa_c (pp_bin opr_mul opd_mul (PE.b pp_int) (PE.b (pp_bin op_pow opd_pow (PE.b pp_int) (PE.b pp_int)))) pa_n))))))))))))
  (pss_c (ps_so (i := 2) C rfl (.inl rfl) (pf_cat (pb_var (i := 2) rfl (.inl rfl)) (PE.b (PE.fz (pf_lc (own := [("size", 5)]) C (pi_seqB C (PE.b (pp_tup (pa_c pp_int (pa_c pp_int (pa_c pp_int (pa_c pp_int (pa_c pp_int pa_n)))))))) (blkOk_by (own := [("size", 5)]) (N := N_law) (sc := defScope s_law) (by decide +kernel)) (by decide) (fun _ _ _ _ _ C => (pg_n C (i := 5) rfl (.inl rfl))) (fun _ _ _ _ _ C => pts_n) (fun _ _ _ _ _ C => (pp_bin opr_mul opd_mul (PE.b (pp_call C D_w_roll (by decide) rfl rfl (pa_c (pp_var (i := 1) rfl (.inr (.inl rfl))) (pa_c (pp_call C D_w_two (by decide) rfl rfl (pa_c (pp_var (i := 5) rfl (.inl rfl)) pa_n) (len_cons len_nil)) pa_n)) (len_cons (len_cons len_nil)))) (PE.b (pp_call C D_w_some (by decide) rfl rfl (pa_c (pp_var (i := 1) rfl (.inr (.inl rfl))) (pa_c (PE.fz (pf_lst (pa_c pp_int (pa_c (pp_un un_neg opd_neg (PE.b pp_int)) pa_n)))) pa_n)) (len_cons (len_cons len_nil)))))))))))
  (pss_c (ps_app (i := 2) C rfl (.inl rfl) (pp_bin opr_mul opd_mul (PE.b (pp_bin opr_add opd_add (PE.b (pp_bin opr_mul opd_mul (PE.b (pp_call C D_w_roll (by decide) rfl rfl (pa_c (pp_var (i := 1) rfl (.inr (.inl rfl))) (pa_c (pp_bin op_pow opd_pow (PE.b pp_int) (PE.b pp_int)) pa_n)) (len_cons (len_cons len_nil)))) (PE.b (pp_bin op_pow opd_pow (PE.b pp_int) (PE.b pp_int))))) (PE.b (pp_call C D_w_roll (by decide) rfl rfl (pa_c (pp_var (i := 1) rfl (.inr (.inl rfl))) (pa_c (pp_bin op_pow opd_pow (PE.b pp_int) (PE.b pp_int)) pa_n)) (len_cons (len_cons len_nil)))))) (PE.b (pp_call C D_w_some (by decide) rfl rfl (pa_c (pp_var (i := 1) rfl (.inr (.inl rfl))) (pa_c (PE.fz (pf_lst (pa_c pp_int (pa_c (pp_un un_neg opd_neg (PE.b pp_int)) (pa_c (pp_bin op_pow opd_pow (PE.b pp_int) (PE.b pp_int)) pa_n))))) pa_n)) (len_cons (len_cons len_nil))))))
  (pss_c (ps_i (pt_cmp (op_neD C.room.units) opd_ne (nomark _) (PE.b (PE.fz (pf_lc (own := [("number", 6)]) C (pi_seqB C (pb_var (i := 2) rfl (.inl rfl))) (blkOk_by (own := [("number", 6)]) (N := N_law) (sc := defScope s_law) (by decide +kernel)) (by decide) (fun _ _ _ _ _ C => (pg_n C (i := 6) rfl (.inl rfl))) (fun _ _ _ _ _ C => (pts_1 (ptn (pt_of C (PE.b (pp_call C D_w_right (by decide) rfl rfl (pa_c (pp_var (i := 1) rfl (.inr (.inl rfl))) (pa_c (pp_var (i := 6) rfl (.inl rfl)) pa_n)) (len_cons (len_cons len_nil)))))))) (fun _ _ _ _ _ C => pp_int)))) (PE.b (PE.fz (pf_lst pa_n))))
  (pss_1 (ps_r pp_bl))
  pss_n)
  (pss_c (ps_i (ptn (pt_of C (PE.b (pp_call C (D_w_like 8) (by decide) rfl rfl (pa_c (PE.fz (pf_lst (pa_c (pp_call C D_signed (by decide) rfl rfl (pa_c pp_int pa_n) (len_cons len_nil)) (pa_c (pp_call C D_signed (by decide) rfl rfl (pa_c (pp_un un_neg opd_neg (PE.b pp_int)) pa_n) (len_cons len_nil)) (pa_c (pp_call C D_signed (by decide) rfl rfl (pa_c pp_int pa_n) (len_cons len_nil)) (pa_c (pp_call C D_fewest (by decide) rfl rfl (pa_c pp_int pa_n) (len_cons len_nil)) (pa_c (pp_call C D_value_of (by decide) rfl rfl (pa_c (pp_tup (pa_c (pp_tup (pa_c pp_int (pa_c pp_int pa_n))) (pa_c (pp_tup (pa_c (pp_un un_neg opd_neg (PE.b pp_int)) (pa_c pp_int pa_n))) (pa_c (pp_tup (pa_c pp_int (pa_c pp_int pa_n))) pa_n)))) pa_n) (len_cons len_nil)) pa_n))))))) (pa_c (PE.fz (pf_lst (pa_c (pp_tup (pa_c (pp_tup (pa_c (pp_un un_neg opd_neg (PE.b pp_int)) (pa_c pp_int pa_n))) (pa_c (pp_tup (pa_c pp_int (pa_c pp_int pa_n))) pa_n))) (pa_c (pp_tup (pa_c (pp_tup (pa_c pp_int (pa_c pp_int pa_n))) (pa_c (pp_tup (pa_c (pp_un un_neg opd_neg (PE.b pp_int)) (pa_c pp_int pa_n))) pa_n))) (pa_c (pp_tup pa_n) (pa_c pp_int (pa_c pp_int pa_n))))))) pa_n)) (len_cons (len_cons len_nil))))))
  (pss_1 (ps_r pp_bl))
  pss_n)
  (pss_c (ps_so (i := 3) C rfl (.inl rfl) (pf_lst pa_n))
  (pss_c (ps_f C (pi_seq C (pp_tup (pa_c pp_non (pa_c pp_bl (pa_c pp_str (pa_c (pp_bin opr_add opd_add (PE.b (pp_bin op_pow opd_pow (PE.b pp_int) (PE.b pp_int))) (PE.b pp_int)) (pa_c (pp_bin op_sub opd_sub (PE.b (pp_un un_neg opd_neg (PE.b (pp_bin op_pow opd_pow (PE.b pp_int) (PE.b pp_int))))) (PE.b pp_int)) (pa_c (pp_tup (pa_c pp_int pa_n)) pa_n)))))))) (pg_n C (i := 4) rfl (.inr rfl))
  (pss_c (ps_app (i := 3) C rfl (.inl rfl) (pp_err C (D_w_error T C) rfl LT rfl hcd (lamS_by (sc := defScope s_law) (by decide +kernel)) rfl (fun _ _ _ _ _ => rfl) (fun _ _ _ _ E _ _ C => (pp_call C D_signed (by decide) rfl rfl (pa_c (pp_var (i := 4) rfl (.inr (.inr rfl))) pa_n) (len_cons len_nil)))))
  (pss_1 (ps_app (i := 3) C rfl (.inl rfl) (pp_err C (D_w_error T C) rfl LT rfl hcd (lamS_by (sc := defScope s_law) (by decide +kernel)) rfl (fun _ _ _ _ _ => rfl) (fun _ _ _ _ E _ _ C => (pp_call C D_fewest (by decide) rfl rfl (pa_c (pp_var (i := 4) rfl (.inr (.inr rfl))) pa_n) (len_cons len_nil))))))))
  (pss_1 (ps_r (pp_cmp (op_eqD C.room.units) opd_eq (nomark _) (pb_var (i := 3) rfl (.inl rfl)) (PE.b (pp_bin opr_mul opd_mul (PE.b (PE.fz (pf_lst (pa_c pp_str pa_n)))) (PE.b pp_int)))))))))))))) hplain
theorem W_law (T : Tx P wl base w) {f : Addr} {fd : FuncData} (F : Fun w.K "law" "law" s_law f fd) (hm : w.mg "law" = some (.ref f))
    (hplain : ∀ (E : XK) (ns : List Int), ns.length ≤ 63 → ∃ a b env', g1_law ((List.replicate 7 .no).set 0 (.fz (.scr ns))) [] = .ok (.nx, env') [] ∧ env'.length = 7 ∧ env'[1]? = some (.fz (.lst [.int a, .int b])) ∧ ∃ env2 c2, g2_law ((List.replicate 7 .no).set 1 (.fz .cup)) [a, b] = .ok (.ret (.bl true), env2) c2) : FnOk P wl w.K w.mg base (L2N.CX P wl) 17 f fd ["script"] (spLaw w 63) := by
  have D_is_whole := D_is_whole T 
  have D_need_whole := D_need_whole T D_is_whole
  have D_is_tuple_of := D_is_tuple_of T 
  have D_is_ascending := D_is_ascending T 
  have D_two_to := D_two_to T 
  have D_is_digits := D_is_digits T D_is_tuple_of D_is_whole D_is_ascending
  have D_need_digits := D_need_digits T D_is_digits
  have D_value_of := D_value_of T D_need_digits D_two_to
  have D_is_apart := D_is_apart T D_need_digits
  have D_apart_digits := D_apart_digits T 
  have D_signed := D_signed T D_need_whole D_apart_digits
  have D_fewest := D_fewest T D_need_whole D_apart_digits
  have D_w_cup := D_w_cup T 
  have D_w_roll := D_w_roll T 
  have D_w_two := D_w_two T 
  have D_w_some := D_w_some T D_w_roll
  have D_w_sort := D_w_sort T 
  have D_w_like := D_w_like T D_w_sort
  have D_w_bent := D_w_bent T D_w_roll D_w_sort D_w_some
  have D_w_bits := D_w_bits T D_w_two
  have D_w_is_digits := D_w_is_digits T D_w_sort
  have D_w_value := D_w_value T D_w_two
  have D_w_right := D_w_right T D_w_bits D_signed D_value_of D_fewest D_is_apart D_is_digits D_w_like D_w_bent D_w_is_digits D_w_value
  exact L_law T D_w_cup D_w_two D_w_roll D_w_some D_w_right D_signed D_fewest D_value_of D_w_like F hm hplain
end
end K54

set_option Elab.async false
set_option linter.all false
set_option maxRecDepth 100000
set_option maxHeartbeats 4000000
namespace K54
open PySem PySem.Spec PyProof.Rows L2 Hm
/-! ### plain values -/
def ok : Nat → D → Bool
  | _, .non => true
  | _, .bl _ => true
  | _, .int _ => true
  | _, .str x => PyData.strOk x
  | n + 1, .tup xs => decide (xs.length ≤ 1000) && xs.all (ok n)
  | n + 1, .lst xs => decide (xs.length ≤ 1000) && xs.all (ok n)
  | _, _ => false
theorem ok_py : ∀ (n : Nat) (d : D), ok n d = true → d.py.canLay0 = true ∧ d.py.depth ≤ n := by
  have all : ∀ n, (∀ d, ok n d = true → d.py.canLay0 = true ∧ d.py.depth ≤ n) → ∀ xs : List D, xs.all (ok n) = true → PyData.canLayAll0 (D.pys xs) = true ∧ PyData.depthAll (D.pys xs) ≤ n := by
    intro n h xs hx
    induction xs with
    | nil => exact ⟨rfl, Nat.zero_le _⟩
    | cons x r ih =>
      simp only [List.all_cons, Bool.and_eq_true] at hx
      obtain ⟨a, b⟩ := h x hx.1
      obtain ⟨a2, b2⟩ := ih hx.2
      simp only [D.pys, PyData.canLayAll0, PyData.depthAll, a, a2]
      exact ⟨rfl, by omega⟩
  intro n
  induction n with
  | zero => intro d h; cases d <;> simp_all [ok, D.py, PyData.canLay0, PyData.depth]
  | succ n ih =>
    intro d h
    cases d with
    | tup xs =>
      simp only [ok, Bool.and_eq_true] at h
      obtain ⟨a, b⟩ := all n ih xs h.2
      simp only [D.py, PyData.canLay0, PyData.depth]
      exact ⟨a, by omega⟩
    | lst xs =>
      simp only [ok, Bool.and_eq_true] at h
      obtain ⟨a, b⟩ := all n ih xs h.2
      simp only [D.py, PyData.canLay0, PyData.depth]
      exact ⟨a, by omega⟩
    | _ => simp_all [ok, D.py, PyData.canLay0, PyData.depth]
theorem ok_shp {n : Nat} {d : D} (hn : n ≤ 64) (h : ok n d = true) : d.shp = true := by
  obtain ⟨a, b⟩ := ok_py n d h
  unfold D.shp SeqAt.shaped
  rw [a, Bool.true_and, decide_eq_true_eq]
  omega
theorem dEq_ok {n : Nat} {d e : D} (hn : n ≤ 64) (h : ok n d = true) (h' : ok n e = true) : dEq d e = some (.bl (PyData.eqv d.py e.py)) := by
  unfold dEq
  rw [ok_shp hn h, ok_shp hn h']
  rfl
theorem dNe_ok {n : Nat} {d e : D} (hn : n ≤ 64) (h : ok n d = true) (h' : ok n e = true) : dNe d e = some (.bl (!PyData.eqv d.py e.py)) := by
  unfold dNe
  rw [ok_shp hn h, ok_shp hn h']
  rfl
@[simp] theorem dEq_int (i j : Int) : dEq (.int i) (.int j) = some (.bl (decide (i = j))) := by
  rw [dEq_ok (n := 0) (by omega) rfl rfl]
  simp only [D.py, PyData.eqv]
  rfl
@[simp] theorem dNe_int (i j : Int) : dNe (.int i) (.int j) = some (.bl (!decide (i = j))) := by
  rw [dNe_ok (n := 0) (by omega) rfl rfl]
  simp only [D.py, PyData.eqv]
  rfl
theorem eqv_refl : ∀ (n : Nat) (d : D), ok n d = true → PyData.eqv d.py d.py = true := by
  have all : ∀ n, (∀ d, ok n d = true → PyData.eqv d.py d.py = true) → ∀ xs : List D, xs.all (ok n) = true → PyData.eqvAll (D.pys xs) (D.pys xs) = true := by
    intro n h xs hx
    induction xs with
    | nil => rfl
    | cons x r ih =>
      simp only [List.all_cons, Bool.and_eq_true] at hx
      simp only [D.pys, PyData.eqvAll, h x hx.1, ih hx.2, Bool.and_self]
  intro n
  induction n with
  | zero => intro d h; cases d <;> simp_all [ok, D.py, PyData.eqv]
  | succ n ih =>
    intro d h
    cases d with
    | tup xs =>
      simp only [ok, Bool.and_eq_true] at h
      simp only [D.py, PyData.eqv, all n ih xs h.2]
    | lst xs =>
      simp only [ok, Bool.and_eq_true] at h
      simp only [D.py, PyData.eqv, all n ih xs h.2]
    | _ => simp_all [ok, D.py, PyData.eqv]
/-! ### the small ones -/
def pln (d : D) : Bool := match d with
  | .cup => false
  | .scr _ => false
  | .obj _ => false
  | _ => true
theorem ok_pln {n : Nat} {d : D} (h : ok n d = true) : pln d = true := by
  cases d <;> cases n <;> first | rfl | (simp [ok] at h)
def isW (d : D) (a b : Int) : Bool := match d with
  | .int n => decide (a ≤ n) && decide (n ≤ b)
  | _ => false
theorem is_whole_spec (d : D) (a b : Int) (c : Cup) (h : pln d = true) : f_is_whole [d, .int a, .int b] c = .ok (.bl (isW d a b)) c := by
  cases d with
  | int n =>
    simp [f_is_whole, g_is_whole, isW, runD, startE, sNil, sSeq, sSet, sSetO, sAsg, sPar, sRet, sExpr, sIf, sFor, sFrz, sAug, sApp, sCupSet, sRaise, cV, cO, cC, cBin, cUn, cAnd, cOr, cTr, cNotT, cAndT, cOrT, cIf, cNil, cCons, cTup, cLst, cFz, cCupIx, cNoPart, cPart, cSl, cCall, cIsi, cItems, cRng1, cRng2, cZip, cComp, cYes, cDef, cChain, cTb, cCat, D.is, D.tru, dNot, dNeg, dCmpI, dSub, dMod, dLen, dAbs, dInt, dTuple, dList, dIx, itemsOf, bindT, bindTs, wipeE, noX, lenOk, rMaxLen]
    by_cases h : a ≤ n <;> simp [h]
  | _ => first | (simp [pln] at h; done) | simp [f_is_whole, g_is_whole, isW, runD, startE, sNil, sSeq, sSet, sSetO, sAsg, sPar, sRet, sExpr, sIf, sFor, sFrz, sAug, sApp, sCupSet, sRaise, cV, cO, cC, cBin, cUn, cAnd, cOr, cTr, cNotT, cAndT, cOrT, cIf, cNil, cCons, cTup, cLst, cFz, cCupIx, cNoPart, cPart, cSl, cCall, cIsi, cItems, cRng1, cRng2, cZip, cComp, cYes, cDef, cChain, cTb, cCat, D.is, D.tru, dNot, dNeg, dCmpI, dSub, dMod, dLen, dAbs, dInt, dTuple, dList, dIx, itemsOf, bindT, bindTs, wipeE, noX, lenOk, rMaxLen]
def isT (d : D) (a b : Int) : Bool := match d with
  | .tup xs => decide (a ≤ xs.length) && decide ((xs.length : Int) ≤ b)
  | _ => false
theorem is_tuple_spec (d : D) (a b : Int) (c : Cup) (h : pln d = true) : f_is_tuple_of [d, .int a, .int b] c = .ok (.bl (isT d a b)) c := by
  cases d with
  | tup xs =>
    simp [f_is_tuple_of, g_is_tuple_of, isT, runD, startE, sNil, sSeq, sSet, sSetO, sAsg, sPar, sRet, sExpr, sIf, sFor, sFrz, sAug, sApp, sCupSet, sRaise, cV, cO, cC, cBin, cUn, cAnd, cOr, cTr, cNotT, cAndT, cOrT, cIf, cNil, cCons, cTup, cLst, cFz, cCupIx, cNoPart, cPart, cSl, cCall, cIsi, cItems, cRng1, cRng2, cZip, cComp, cYes, cDef, cChain, cTb, cCat, D.is, D.tru, dNot, dNeg, dCmpI, dSub, dMod, dLen, dAbs, dInt, dTuple, dList, dIx, itemsOf, bindT, bindTs, wipeE, noX, lenOk, rMaxLen]
    by_cases h : a ≤ xs.length <;> simp [h]
  | _ => first | (simp [pln] at h; done) | simp [f_is_tuple_of, g_is_tuple_of, isT, runD, startE, sNil, sSeq, sSet, sSetO, sAsg, sPar, sRet, sExpr, sIf, sFor, sFrz, sAug, sApp, sCupSet, sRaise, cV, cO, cC, cBin, cUn, cAnd, cOr, cTr, cNotT, cAndT, cOrT, cIf, cNil, cCons, cTup, cLst, cFz, cCupIx, cNoPart, cPart, cSl, cCall, cIsi, cItems, cRng1, cRng2, cZip, cComp, cYes, cDef, cChain, cTb, cCat, D.is, D.tru, dNot, dNeg, dCmpI, dSub, dMod, dLen, dAbs, dInt, dTuple, dList, dIx, itemsOf, bindT, bindTs, wipeE, noX, lenOk, rMaxLen]
def srt (d : D) : Int := match d with
  | .non => 0
  | .bl _ => 1
  | .int _ => 2
  | .str _ => 3
  | .tup _ => 4
  | .lst _ => 5
  | _ => 6
theorem sort_spec (d : D) (c : Cup) (h : pln d = true) : f_w_sort [d] c = .ok (.int (srt d)) c := by
  cases d <;> first | (simp [pln] at h; done) | simp [f_w_sort, g_w_sort, srt, dIs, D.isN, runD, startE, sNil, sSeq, sSet, sSetO, sAsg, sPar, sRet, sExpr, sIf, sFor, sFrz, sAug, sApp, sCupSet, sRaise, cV, cO, cC, cBin, cUn, cAnd, cOr, cTr, cNotT, cAndT, cOrT, cIf, cNil, cCons, cTup, cLst, cFz, cCupIx, cNoPart, cPart, cSl, cCall, cIsi, cItems, cRng1, cRng2, cZip, cComp, cYes, cDef, cChain, cTb, cCat, D.is, D.tru, dNot, dNeg, dCmpI, dSub, dMod, dLen, dAbs, dInt, dTuple, dList, dIx, itemsOf, bindT, bindTs, wipeE, noX, lenOk, rMaxLen]
theorem two_for (m : Nat) : ∀ (k : Nat) (env : Ev) (c : Cup) (x : Int), env.length = 3 → env[1]? = some (.fz (.int x)) → ∀ ds : List D, ds.length = k → ∃ env', forL (.nm 2) (sSet 1 (cBin dMul (cV 1) (cC (.int 2)))) ds env c = .ok (.nx, env') c ∧ env'.length = 3 ∧ env'[1]? = some (.fz (.int (x * 2 ^ k))) := by
  intro k
  induction k with
  | zero =>
    intro env c x hl he ds hd
    obtain rfl : ds = [] := List.eq_nil_of_length_eq_zero hd
    exact ⟨env, rfl, hl, by simpa using he⟩
  | succ k ih =>
    intro env c x hl he ds hd
    cases ds with
    | nil => simp at hd
    | cons d r =>
      obtain ⟨env', h1, h2, h3⟩ := ih ((env.set 2 (.fz d)).set 1 (.fz (.int (x * 2)))) c (x * 2) (by simp [hl]) (by simp [hl]) r (by simpa using hd)
      refine ⟨env', ?_, h2, by rw [h3, Int.pow_succ, Int.mul_comm (2 ^ k) 2, Int.mul_assoc]⟩
      simp only [forL, bindT, ofO_some, bnd_ok]
      have hm : mulOk x 2 = true := by simp [mulOk]
      simp [sSet, cBin, cV, cC, he, dMul, hm, h1]
theorem w_two_spec {i : Int} (h0 : 0 ≤ i) (h1 : i ≤ 200) (c : Cup) : f_w_two [.int i] c = .ok (.int (2 ^ i.toNat)) c := by
  obtain ⟨env', h2, _, h3⟩ := two_for i.toNat i.toNat [.fz (.int i), .fz (.int 1), .no] c 1 rfl rfl (rangeD 0 i.toNat) (rangeD_length 0 i.toNat)
  rw [Int.one_mul] at h3
  refine run_ret (seq_nx (set_ok rfl) (seq_nx (for_ok (rng1_ok (i := i) rfl (small_int (by omega) (by omega))) h2) (ret_ok ?_)))
  simp [cV, h3]
theorem two_for' : ∀ (k : Nat) (env : Ev) (c : Cup) (x : Int), env.length = 3 → env[1]? = some (.fz (.int x)) → ∀ ds : List D, ds.length = k → ∃ env', forL (.nm 2) (sAug 1 dMulI (cC (.int 2))) ds env c = .ok (.nx, env') c ∧ env'.length = 3 ∧ env'[1]? = some (.fz (.int (x * 2 ^ k))) := by
  intro k
  induction k with
  | zero =>
    intro env c x hl he ds hd
    obtain rfl : ds = [] := List.eq_nil_of_length_eq_zero hd
    exact ⟨env, rfl, hl, by simpa using he⟩
  | succ k ih =>
    intro env c x hl he ds hd
    cases ds with
    | nil => simp at hd
    | cons d r =>
      obtain ⟨env', h1, h2, h3⟩ := ih ((env.set 2 (.fz d)).set 1 (.fz (.int (x * 2)))) c (x * 2) (by simp [hl]) (by simp [hl]) r (by simpa using hd)
      refine ⟨env', ?_, h2, by rw [h3, Int.pow_succ, Int.mul_comm (2 ^ k) 2, Int.mul_assoc]⟩
      simp only [forL, bindT, ofO_some, bnd_ok]
      have hm : mulOk x 2 = true := by simp [mulOk]
      simp [sAug, cC, he, dMulI, hm, h1]
theorem two_to_spec {i : Int} (h0 : 0 ≤ i) (h1 : i ≤ 200) (c : Cup) : f_two_to [.int i] c = .ok (.int (2 ^ i.toNat)) c := by
  obtain ⟨env', h2, _, h3⟩ := two_for' i.toNat [.fz (.int i), .fz (.int 1), .no] c 1 rfl rfl (rangeD 0 i.toNat) (rangeD_length 0 i.toNat)
  rw [Int.one_mul] at h3
  refine run_ret (seq_nx (set_ok rfl) (seq_nx (for_ok (rng1_ok (i := i) rfl (small_int (by omega) (by omega))) h2) (ret_ok ?_)))
  simp [cV, h3]
/-! ### draws -/
theorem roll_spec (a b : Int) (m : Int) (h0 : 0 < m) (h1 : m.natAbs.log2 < 9000) : ∃ r a' b', f_w_roll [.cup, .int m] [a, b] = .ok (.int r) [a', b'] ∧ 0 ≤ r ∧ r < m := by
  by_cases ha : 0 < a
  · refine ⟨a % m, a / m, b, ?_, Int.emod_nonneg _ (by omega), Int.emod_lt_of_pos _ h0⟩
    simp [f_w_roll, g_w_roll, runD, startE, sNil, sSeq, sSet, sSetO, sAsg, sPar, sRet, sExpr, sIf, sFor, sFrz, sAug, sApp, sCupSet, sRaise, cV, cO, cC, cBin, cUn, cAnd, cOr, cTr, cNotT, cAndT, cOrT, cIf, cNil, cCons, cTup, cLst, cFz, cCupIx, cNoPart, cPart, cSl, cCall, cIsi, cItems, cRng1, cRng2, cZip, cComp, cYes, cDef, cChain, cTb, cCat, D.is, D.tru, dNot, dNeg, dCmpI, dSub, dMod, dLen, dAbs, dInt, dTuple, dList, dIx, itemsOf, bindT, bindTs, wipeE, noX, lenOk, rMaxLen, ha, h0, h1, dDiv]
  · have e1 : mulOk b 30269 = true := by simp [mulOk]
    have e2 : ∀ y : Int, mulOk ((b * 30269 + 9173) % 2147483579) y = true := fun y => by
      have g1 := Int.emod_nonneg (b * 30269 + 9173) (show (2147483579 : Int) ≠ 0 by decide)
      have g2 := Int.emod_lt_of_pos (b * 30269 + 9173) (show (0 : Int) < 2147483579 by decide)
      unfold mulOk
      simp only [Bool.or_eq_true, decide_eq_true_eq]
      omega
    refine ⟨(((b * 30269 + 9173) % 2147483579 * ((b * 30269 + 9173) % 2147483579 + 307)) % 2147483563 / 887) % m, a, (b * 30269 + 9173) % 2147483579, ?_, Int.emod_nonneg _ (by omega), Int.emod_lt_of_pos _ h0⟩
    have e3 : Nat.log2 887 < 9000 := by decide +kernel
    simp [f_w_roll, g_w_roll, runD, startE, sNil, sSeq, sSet, sSetO, sAsg, sPar, sRet, sExpr, sIf, sFor, sFrz, sAug, sApp, sCupSet, sRaise, cV, cO, cC, cBin, cUn, cAnd, cOr, cTr, cNotT, cAndT, cOrT, cIf, cNil, cCons, cTup, cLst, cFz, cCupIx, cNoPart, cPart, cSl, cCall, cIsi, cItems, cRng1, cRng2, cZip, cComp, cYes, cDef, cChain, cTb, cCat, D.is, D.tru, dNot, dNeg, dCmpI, dSub, dMod, dLen, dAbs, dInt, dTuple, dList, dIx, itemsOf, bindT, bindTs, wipeE, noX, lenOk, rMaxLen, ha, h0, dDiv, dMul, dAdd, e1, e2, e3]
theorem small_log {m : Int} (h : m.natAbs < 2 ^ 64) : m.natAbs.log2 < 9000 := by
  by_cases h0 : m.natAbs = 0
  · rw [h0]
    decide +kernel
  · have := (Nat.log2_lt h0).mpr h
    omega
theorem atI_nat {xs : List D} {i : Int} (h0 : 0 ≤ i) (h1 : i < xs.length) : ∃ d, atI xs i = some d ∧ xs[i.toNat]? = some d := by
  have hi : i.toNat < xs.length := by omega
  refine ⟨xs[i.toNat], ?_, by simp [hi]⟩
  unfold atI ixN
  rw [if_pos h0, if_pos h1]
  simp [hi]
theorem some_spec (a b : Int) (xs : List D) (hx : xs ≠ []) (hl : xs.length < 2 ^ 60) : ∃ d a' b', f_w_some [.cup, .lst xs] [a, b] = .ok d [a', b'] ∧ d ∈ xs := by
  have hp : 0 < xs.length := List.length_pos_iff.mpr hx
  obtain ⟨r, a', b', e1, e2, e3⟩ := roll_spec a b (xs.length : Int) (by omega) (small_log (by omega))
  obtain ⟨d, e4, e5⟩ := atI_nat (xs := xs) e2 e3
  refine ⟨d, a', b', ?_, List.mem_of_getElem? e5⟩
  simp [f_w_some, g_w_some, runD, startE, sNil, sSeq, sSet, sSetO, sAsg, sPar, sRet, sExpr, sIf, sFor, sFrz, sAug, sApp, sCupSet, sRaise, cV, cO, cC, cBin, cUn, cAnd, cOr, cTr, cNotT, cAndT, cOrT, cIf, cNil, cCons, cTup, cLst, cFz, cCupIx, cNoPart, cPart, cSl, cCall, cIsi, cItems, cRng1, cRng2, cZip, cComp, cYes, cDef, cChain, cTb, cCat, D.is, D.tru, dNot, dNeg, dCmpI, dSub, dMod, dLen, dAbs, dInt, dTuple, dList, dIx, itemsOf, bindT, bindTs, wipeE, noX, lenOk, rMaxLen, e1, e4]
end K54

set_option Elab.async false
set_option linter.all false
set_option maxRecDepth 100000
namespace K54
open PySem PySem.Spec PyProof.Rows L2 Hm
/-! ### digits that stand apart, by recursion and by bits -/
def dg (n : Int) : Int := if n % 2 = 1 then 2 - n % 4 else 0
def nx (n : Int) : Int := (n - dg n) / 2
def bd (p : Nat) (n : Int) : Int := (3 * n / 2 ^ (p + 1)) % 2 - (n / 2 ^ (p + 1)) % 2
theorem pow_pos2 (p : Nat) : (0 : Int) < 2 ^ p := Int.pow_pos (by decide)
theorem div_pow (n : Int) (p : Nat) : n / 2 ^ (p + 1) = n / 2 / 2 ^ p := by
  rw [Int.pow_succ, Int.mul_comm, Int.ediv_ediv_of_nonneg (by decide)]
theorem shift_up : ∀ (p : Nat) (k : Int), ((3 * k + 2) / 2 ^ p) % 2 - (k / 2 ^ p) % 2 = ((3 * k + 3) / 2 ^ p) % 2 - ((k + 1) / 2 ^ p) % 2 := by
  intro p
  induction p with
  | zero =>
    intro k
    simp only [Int.pow_zero, Int.ediv_one]
    omega
  | succ p ih =>
    intro k
    simp only [div_pow]
    rcases (show k % 2 = 0 ∨ k % 2 = 1 by omega) with h | h
    · rw [show (3 * k + 2) / 2 = (3 * k + 3) / 2 by omega, show k / 2 = (k + 1) / 2 by omega]
    · have e := ih (k / 2)
      rw [show (3 * k + 2) / 2 = 3 * (k / 2) + 2 by omega, show (3 * k + 3) / 2 = 3 * (k / 2) + 3 by omega, show (k + 1) / 2 = k / 2 + 1 by omega]
      exact e
theorem bd_zero (n : Int) : bd 0 n = dg n := by
  unfold bd dg
  simp only [Nat.zero_add, Int.pow_one]
  obtain ⟨k, r, h, h0, h1⟩ : ∃ k r : Int, n = 4 * k + r ∧ 0 ≤ r ∧ r < 4 := ⟨n / 4, n % 4, by omega, by omega, by omega⟩
  rcases (show r = 0 ∨ r = 1 ∨ r = 2 ∨ r = 3 by omega) with e | e | e | e <;> subst e <;> subst h <;> split <;> omega
theorem bd_succ (p : Nat) (n : Int) : bd (p + 1) n = bd p (nx n) := by
  unfold bd nx dg
  simp only [div_pow (p := p + 1), div_pow (p := p)]
  rcases (show n % 2 = 0 ∨ n % 4 = 1 ∨ n % 4 = 3 by omega) with h | h | h
  · rw [if_neg (by omega)]
    rw [show 3 * n / 2 / 2 = 3 * ((n - 0) / 2) / 2 by omega, show n / 2 / 2 = (n - 0) / 2 / 2 by omega]
  · rw [if_pos (by omega)]
    rw [show 3 * n / 2 / 2 = 3 * ((n - (2 - n % 4)) / 2) / 2 by omega, show n / 2 / 2 = (n - (2 - n % 4)) / 2 / 2 by omega]
  · rw [if_pos (by omega)]
    have e := shift_up p (n / 4)
    rw [show 3 * n / 2 / 2 = 3 * (n / 4) + 2 by omega, show n / 2 / 2 = n / 4 by omega, show 3 * ((n - (2 - n % 4)) / 2) / 2 = 3 * (n / 4) + 3 by omega, show (n - (2 - n % 4)) / 2 / 2 = n / 4 + 1 by omega]
    exact e
abbrev Dg := Int × Int
def digs : Nat → Nat → Int → List Dg
  | 0, _, _ => []
  | m + 1, p, n => (if dg n = 0 then [] else [(dg n, (p : Int))]) ++ digs m (p + 1) (nx n)
/-- by bits: place p and m - 1 more, of n, times sg -/
def digB (sg : Int) (n : Int) : Nat → Nat → List Dg
  | 0, _ => []
  | m + 1, p => (if bd p n = 0 then [] else [(sg * bd p n, (p : Int))]) ++ digB sg n m (p + 1)
def nxs : Nat → Int → Int
  | 0, n => n
  | k + 1, n => nxs k (nx n)
theorem nxs_nx : ∀ (k : Nat) (n : Int), nxs k (nx n) = nx (nxs k n)
  | 0, _ => rfl
  | k + 1, n => nxs_nx k (nx n)
theorem bd_nxs : ∀ (p : Nat) (n : Int), bd p n = dg (nxs p n)
  | 0, n => bd_zero n
  | p + 1, n => by rw [bd_succ, bd_nxs p (nx n)]; rfl
theorem digB_eq : ∀ (m p : Nat) (n : Int), digB 1 n m p = digs m p (nxs p n)
  | 0, _, _ => rfl
  | m + 1, p, n => by
    simp only [digB, digs, bd_nxs, Int.one_mul]
    rw [digB_eq m (p + 1) n, ← nxs_nx]
    rfl
theorem dg_neg (n : Int) : dg (-n) = -dg n := by
  unfold dg
  split <;> split <;> omega
theorem nx_neg (n : Int) : nx (-n) = -nx n := by
  unfold nx
  rw [dg_neg]
  unfold dg
  split <;> omega
def ng (l : List Dg) : List Dg := l.map fun x => (-x.1, x.2)
theorem digs_neg : ∀ (m p : Nat) (n : Int), digs m p (-n) = ng (digs m p n)
  | 0, _, _ => rfl
  | m + 1, p, n => by
    simp only [digs, dg_neg, nx_neg, digs_neg m]
    unfold ng
    rw [List.map_append]
    congr 1
    by_cases h : dg n = 0
    · rw [if_pos (by omega), if_pos h]; rfl
    · rw [if_neg (by omega), if_neg h]; rfl
theorem digB_neg : ∀ (m p : Nat) (n : Int), digB (-1) n m p = ng (digB 1 n m p)
  | 0, _, _ => rfl
  | m + 1, p, n => by
    simp only [digB, digB_neg m]
    unfold ng
    rw [List.map_append]
    congr 1
    by_cases h : bd p n = 0
    · rw [if_pos h, if_pos h]; rfl
    · rw [if_neg h, if_neg h]
      simp
theorem ng_ng (l : List Dg) : ng (ng l) = l := by
  unfold ng
  rw [List.map_map]
  conv => rhs; rw [← List.map_id l]
  apply List.map_congr_left
  rintro ⟨a, b⟩ _
  simp
theorem digs_zero : ∀ (m p : Nat), digs m p 0 = []
  | 0, _ => rfl
  | m + 1, p => by
    have h1 : dg 0 = 0 := by decide
    have h2 : nx 0 = 0 := by decide
    simp only [digs, h1, h2, if_true, digs_zero m, List.append_nil]
theorem nx_le {k : Nat} {n : Int} (h : n.natAbs ≤ 2 ^ (k + 1)) : (nx n).natAbs ≤ 2 ^ k := by
  have e : (2 : Nat) ^ (k + 1) = 2 * 2 ^ k := by rw [Nat.pow_succ, Nat.mul_comm]
  rw [e] at h
  generalize (2 : Nat) ^ k = K at h ⊢
  unfold nx dg
  split <;> omega
theorem nx_one {n : Int} (h : n.natAbs ≤ 1) : nx n = 0 := by
  rcases (show n = 0 ∨ n = 1 ∨ n = -1 by omega) with rfl | rfl | rfl <;> decide
theorem digs_more : ∀ (k j p : Nat) (n : Int), n.natAbs ≤ 2 ^ k → digs (k + 1 + j) p n = digs (k + 1) p n
  | 0, j, p, n, h => by
    rw [show 0 + 1 + j = j + 1 by omega]
    simp only [digs, nx_one (by simpa using h), digs_zero]
  | k + 1, j, p, n, h => by
    rw [show k + 1 + 1 + j = (k + 1 + j) + 1 by omega]
    simp only [digs]
    rw [digs_more k j (p + 1) (nx n) (nx_le h)]
    rfl
/-- the sum that digits tell -/
def sumD (l : List Dg) : Int := (l.map fun x => x.1 * 2 ^ x.2.toNat).sum
theorem sumD_append (l r : List Dg) : sumD (l ++ r) = sumD l + sumD r := by
  unfold sumD
  rw [List.map_append, List.sum_append]
theorem dg_nx (n : Int) : n = dg n + 2 * nx n := by
  unfold nx dg
  split <;> omega
theorem sum_digs : ∀ (k p : Nat) (n : Int), n.natAbs ≤ 2 ^ k → sumD (digs (k + 1) p n) = n * 2 ^ p := by
  have one : ∀ (p : Nat) (n : Int), sumD (if dg n = 0 then [] else [(dg n, (p : Int))]) = dg n * 2 ^ p := by
    intro p n
    by_cases h : dg n = 0
    · rw [if_pos h, h]; simp [sumD]
    · rw [if_neg h]; simp [sumD]
  intro k
  induction k with
  | zero =>
    intro p n h
    have e := nx_one (n := n) (by simpa using h)
    simp only [digs, e, List.append_nil]
    rw [one]
    have := dg_nx n
    rw [e] at this
    rw [show dg n = n by omega]
  | succ k ih =>
    intro p n h
    rw [digs, sumD_append, one, ih (p + 1) (nx n) (nx_le h)]
    have := dg_nx n
    rw [Int.pow_succ, show nx n * (2 ^ p * 2) = (2 * nx n) * 2 ^ p by rw [Int.mul_comm (2 ^ p) 2, ← Int.mul_assoc, Int.mul_comm (nx n) 2], ← Int.add_mul, ← this]
theorem sumD_ng (l : List Dg) : sumD (ng l) = -sumD l := by
  unfold sumD ng
  induction l with
  | nil => rfl
  | cons x r ih =>
    simp only [List.map_cons, List.sum_cons] at ih ⊢
    rw [ih, Int.neg_mul, Int.neg_add]
/-- signs, places from lo on, at least g apart, below hi -/
def good (g hi : Int) : Int → List Dg → Prop
  | _, [] => True
  | lo, (s, q) :: r => (s = 1 ∨ s = -1) ∧ lo ≤ q ∧ q < hi ∧ good g hi (q + g) r
theorem good_mono {g hi : Int} : ∀ {l : List Dg} {lo lo' : Int}, lo' ≤ lo → good g hi lo l → good g hi lo' l
  | [], _, _, _, _ => True.intro
  | (s, q) :: r, lo, lo', h, x => ⟨x.1, by have := x.2.1; omega, x.2.2⟩
theorem good_gap {g g' hi : Int} (hg : g' ≤ g) : ∀ {l : List Dg} {lo : Int}, good g hi lo l → good g' hi lo l
  | [], _, _ => True.intro
  | (s, q) :: r, lo, x => ⟨x.1, x.2.1, x.2.2.1, good_mono (by omega) (good_gap hg x.2.2.2)⟩
theorem good_hi {g hi hi' : Int} (hg : hi ≤ hi') : ∀ {l : List Dg} {lo : Int}, good g hi lo l → good g hi' lo l
  | [], _, _ => True.intro
  | (s, q) :: r, lo, x => ⟨x.1, x.2.1, by have := x.2.2.1; omega, good_hi hg x.2.2.2⟩
theorem dg_cases (n : Int) : dg n = 0 ∨ ((dg n = 1 ∨ dg n = -1) ∧ dg (nx n) = 0) := by
  unfold nx dg
  split
  · right
    rcases (show n % 4 = 1 ∨ n % 4 = 3 by omega) with h | h
    · rw [h]
      refine ⟨.inl rfl, if_neg (by omega)⟩
    · rw [h]
      refine ⟨.inr rfl, if_neg (by omega)⟩
  · exact .inl rfl
theorem digs_good : ∀ (m p : Nat) (n : Int), good 2 ((p : Int) + m) p (digs m p n) ∧ (dg n = 0 → good 2 ((p : Int) + m) ((p : Int) + 1) (digs m p n)) := by
  intro m
  induction m with
  | zero => intro p n; exact ⟨True.intro, fun _ => True.intro⟩
  | succ m ih =>
    intro p n
    obtain ⟨h1, h2⟩ := ih (p + 1) (nx n)
    have e : ((p + 1 : Nat) : Int) + m = (p : Int) + ((m + 1 : Nat) : Int) := by omega
    rw [e] at h1 h2
    simp only [digs]
    by_cases h : dg n = 0
    · rw [if_pos h, List.nil_append]
      exact ⟨good_mono (by omega) h1, fun _ => good_mono (by omega) h1⟩
    · rw [if_neg h]
      rcases dg_cases n with z | ⟨z1, z2⟩
      · exact absurd z h
      · exact ⟨⟨z1, Int.le_refl _, by omega, good_mono (by omega) (h2 z2)⟩, fun z => absurd z h⟩
end K54

set_option Elab.async false
set_option linter.all false
set_option maxRecDepth 100000
set_option maxHeartbeats 4000000
namespace K54
open PySem PySem.Spec PyProof.Rows L2 Hm
abbrev pr (x : Dg) : D := .tup [.int x.1, .int x.2]
abbrev toD (l : List Dg) : D := .tup (l.map pr)
theorem log2_2 : Nat.log2 2 < 9000 := by decide +kernel
/-! ### apart_digits -/
abbrev cA : Ev → M Bool := cTb (cBin dNe (cV 0) (cC (.int (0))))
abbrev bA : MS := (sSeq (sIf (cTb (cBin dEq (cBin dMod (cCall dInt (cCons (cV 0) cNil)) (cC (.int (2)))) (cC (.int (1)))))
  (sSeq (sSet 3 (cBin dSub (cC (.int (2))) (cBin dMod (cCall dInt (cCons (cV 0) cNil)) (cC (.int (4))))))
  (sSeq (sApp 1 (cTup (cCons (cV 3) (cCons (cV 2) cNil))))
  (sAug 0 dSub (cV 3))))
  sNil)
  (sSeq (sAug 0 dDiv (cC (.int (2))))
  (sAug 2 dAddI (cC (.int (1))))))
theorem turnA (n p : Int) (acc : List D) (s : Sl) (c : Cup) (hl : acc.length < 1000) :
    ∃ s', bA [.fz (.int n), .ow acc, .fz (.int p), s] c = .ok (.nx, [.fz (.int (nx n)), .ow (acc ++ (if dg n = 0 then [] else [.tup [.int (dg n), .int p]])), .fz (.int (p + 1)), s']) c := by
  have hd : dg n = (if n % 2 = 1 then 2 - n % 4 else 0) := rfl
  have hx : nx n = (n - dg n) / 2 := rfl
  by_cases h : n % 2 = 1
  · rw [if_pos h] at hd
    rw [hd] at hx ⊢
    rw [hx, if_neg (by omega)]
    refine ⟨.fz (.int (2 - n % 4)), ?_⟩
    have hl2 : acc.length < 16777216 := by omega
    simp [runD, startE, sNil, sSeq, sSet, sSetO, sAsg, sPar, sRet, sExpr, sIf, sFor, sFrz, sAug, sApp, sCupSet, sRaise, cV, cO, cC, cBin, cUn, cAnd, cOr, cTr, cNotT, cAndT, cOrT, cIf, cNil, cCons, cTup, cLst, cFz, cCupIx, cNoPart, cPart, cSl, cCall, cIsi, cItems, cRng1, cRng2, cZip, cComp, cYes, cDef, cChain, cTb, cCat, D.is, D.tru, dNot, dNeg, dCmpI, dSub, dMod, dLen, dAbs, dInt, dTuple, dList, dIx, itemsOf, bindT, bindTs, wipeE, noX, lenOk, rMaxLen, h, dDiv, dAddI, log2_2, hl2]
  · rw [if_neg h] at hd
    rw [hd] at hx ⊢
    rw [hx, if_pos rfl]
    refine ⟨s, ?_⟩
    simp [runD, startE, sNil, sSeq, sSet, sSetO, sAsg, sPar, sRet, sExpr, sIf, sFor, sFrz, sAug, sApp, sCupSet, sRaise, cV, cO, cC, cBin, cUn, cAnd, cOr, cTr, cNotT, cAndT, cOrT, cIf, cNil, cCons, cTup, cLst, cFz, cCupIx, cNoPart, cPart, cSl, cCall, cIsi, cItems, cRng1, cRng2, cZip, cComp, cYes, cDef, cChain, cTb, cCat, D.is, D.tru, dNot, dNeg, dCmpI, dSub, dMod, dLen, dAbs, dInt, dTuple, dList, dIx, itemsOf, bindT, bindTs, wipeE, noX, lenOk, rMaxLen, h, dDiv, dAddI, log2_2]
theorem cA_at (n : Int) (e : Ev) (c : Cup) : cA (.fz (.int n) :: e) c = .ok (!decide (n = 0)) c := by simp [runD, startE, sNil, sSeq, sSet, sSetO, sAsg, sPar, sRet, sExpr, sIf, sFor, sFrz, sAug, sApp, sCupSet, sRaise, cV, cO, cC, cBin, cUn, cAnd, cOr, cTr, cNotT, cAndT, cOrT, cIf, cNil, cCons, cTup, cLst, cFz, cCupIx, cNoPart, cPart, cSl, cCall, cIsi, cItems, cRng1, cRng2, cZip, cComp, cYes, cDef, cChain, cTb, cCat, D.is, D.tru, dNot, dNeg, dCmpI, dSub, dMod, dLen, dAbs, dInt, dTuple, dList, dIx, itemsOf, bindT, bindTs, wipeE, noX, lenOk, rMaxLen]
theorem endA (acc : List D) (p : Int) (s : Sl) (c : Cup) (fuel : Nat) : whileL cA bA (fuel + 1) [.fz (.int 0), .ow acc, .fz (.int p), s] c = .ok (.nx, [.fz (.int 0), .ow acc, .fz (.int p), s]) c :=
  while_f (by rw [cA_at]; rfl)
theorem loopA : ∀ (k p : Nat) (n : Int) (acc : List D) (s : Sl) (c : Cup) (fuel : Nat), n.natAbs ≤ 2 ^ k → acc.length + k < 900 → k + 2 ≤ fuel →
    ∃ z s', whileL cA bA fuel [.fz (.int n), .ow acc, .fz (.int p), s] c = .ok (.nx, [.fz (.int 0), .ow (acc ++ (digs (k + 1) p n).map pr), .fz (.int z), s']) c := by
  intro k
  induction k with
  | zero =>
    intro p n acc s c fuel hn hl hf
    obtain ⟨f, rfl⟩ : ∃ f, fuel = f + 2 := ⟨fuel - 2, by omega⟩
    by_cases h0 : n = 0
    · subst h0
      refine ⟨p, s, ?_⟩
      rw [endA, digs_zero]
      simp
    · obtain ⟨s', e⟩ := turnA n p acc s c (by omega)
      have hz := nx_one (n := n) (by simpa using hn)
      rw [hz] at e
      refine ⟨(p : Int) + 1, s', ?_⟩
      rw [while_t (by rw [cA_at]; simp [h0]) e (endA _ _ _ _ f)]
      simp only [digs, hz, List.append_nil]
      by_cases hd : dg n = 0
      · rw [if_pos hd, if_pos hd]; rfl
      · rw [if_neg hd, if_neg hd]; rfl
  | succ k ih =>
    intro p n acc s c fuel hn hl hf
    obtain ⟨f, rfl⟩ : ∃ f, fuel = f + 1 := ⟨fuel - 1, by omega⟩
    by_cases h0 : n = 0
    · subst h0
      refine ⟨p, s, ?_⟩
      rw [endA, digs_zero]
      simp
    · obtain ⟨s', e⟩ := turnA n p acc s c (by omega)
      obtain ⟨z, s2, e2⟩ := ih (p + 1) (nx n) (acc ++ (if dg n = 0 then [] else [.tup [.int (dg n), .int p]])) s' c f (nx_le hn) (by
        rw [List.length_append]
        by_cases hd : dg n = 0
        · rw [if_pos hd]
          show acc.length + 0 + k < 900
          omega
        · rw [if_neg hd]
          show acc.length + 1 + k < 900
          omega) (by omega)
      refine ⟨z, s2, ?_⟩
      rw [show ((p + 1 : Nat) : Int) = (p : Int) + 1 by omega] at e2
      refine (while_t (by rw [cA_at]; simp [h0]) e e2).trans ?_
      rw [digs.eq_def (k + 1 + 1)]
      simp only [List.map_append, List.append_assoc]
      by_cases hd : dg n = 0
      · rw [if_pos hd, if_pos hd]; rfl
      · rw [if_neg hd, if_neg hd]; rfl
theorem digs_len : ∀ (m p : Nat) (n : Int), (digs m p n).length ≤ m
  | 0, _, _ => Nat.le_refl _
  | m + 1, p, n => by
    simp only [digs, List.length_append]
    have := digs_len m (p + 1) (nx n)
    split <;> simp <;> omega
theorem apart_spec (n : Int) (c : Cup) (h : n.natAbs ≤ 2 ^ 80) : f_apart_digits [.int n] c = .ok (toD (digs 81 0 n)) c := by
  obtain ⟨z, s', e⟩ := loopA 80 0 n [] .no c 300 h (by simp) (by omega)
  refine run_ret (seq_nx (setO_ok rfl) (seq_nx (set_ok rfl) (seq_nx e (ret_ok ?_))))
  simp [cCall, cCons, cNil, cO, dTuple]
/-! ### _law_bits -/
abbrev bB : MS := (sSeq (sSet 5 (cBin dSub (cBin dMod (cCall dInt (cCons (cBin dDiv (cBin dMul (cC (.int (3))) (cV 1)) (cDef f_w_two (cCons (cBin dAdd (cV 4) (cC (.int (1)))) cNil))) cNil)) (cC (.int (2)))) (cBin dMod (cCall dInt (cCons (cBin dDiv (cV 1) (cDef f_w_two (cCons (cBin dAdd (cV 4) (cC (.int (1)))) cNil))) cNil)) (cC (.int (2))))))
  (sIf (cTb (cBin dNe (cV 5) (cC (.int (0)))))
  (sApp 3 (cTup (cCons (cBin dMul (cV 2) (cV 5)) (cCons (cV 4) cNil))))
  sNil))
theorem lg1 (k : Nat) : ((2 : Int) ^ k).natAbs = 2 ^ k := by
  rw [Int.natAbs_pow]
  rfl
theorem lg2 (k : Nat) : ((2 : Int) ^ k).natAbs.log2 = k := by
  rw [lg1, Nat.log2_two_pow]
theorem log2_pow (k : Nat) (h : k < 9000) : ((2 : Int) ^ k).natAbs.log2 < 9000 := Nat.lt_of_le_of_lt (Nat.le_of_eq (lg2 k)) h
theorem bd_small (p : Nat) (n : Int) : -1 ≤ bd p n ∧ bd p n ≤ 1 := by
  unfold bd
  omega
theorem dDiv_ok {i j : Int} (h : 0 < j) (h2 : j.natAbs.log2 < 9000) : dDiv (.int i) (.int j) = some (.int (i / j)) := by
  show (if 0 < j ∧ j.natAbs.log2 < 9000 then some (D.int (i / j)) else none) = _
  rw [if_pos ⟨h, h2⟩]
theorem valB (size q p : Int) (x0 x2 x3 x5 : Sl) (c : Cup) (hw : f_w_two [.int (p + 1)] c = .ok (.int q) c) (h3 : 0 < q) (h2 : q.natAbs.log2 < 9000) :
    cBin dSub (cBin dMod (cCall dInt (cCons (cBin dDiv (cBin dMul (cC (.int (3))) (cV 1)) (cDef f_w_two (cCons (cBin dAdd (cV 4) (cC (.int (1)))) cNil))) cNil)) (cC (.int (2)))) (cBin dMod (cCall dInt (cCons (cBin dDiv (cV 1) (cDef f_w_two (cCons (cBin dAdd (cV 4) (cC (.int (1)))) cNil))) cNil)) (cC (.int (2)))) [x0, .fz (.int size), x2, x3, .fz (.int p), x5] c = .ok (.int (3 * size / q % 2 - size / q % 2)) c := by
  have hm : mulOk 3 size = true := by simp [mulOk]
  have d1 := dDiv_ok (i := 3 * size) h3 h2
  have d2 := dDiv_ok (i := size) h3 h2
  simp [cV, cO, cC, cBin, cUn, cAnd, cOr, cTr, cNotT, cAndT, cOrT, cIf, cNil, cCons, cTup, cLst, cFz, cCupIx, cNoPart, cPart, cSl, cCall, cIsi, cItems, cRng1, cRng2, cZip, cComp, cYes, cDef, cChain, cTb, cCat, D.is, D.tru, dNot, dNeg, dCmpI, dSub, dMod, dLen, dAbs, dInt, dTuple, dList, dIx, itemsOf, bindT, bindTs, wipeE, noX, lenOk, rMaxLen, dAdd, dMul, hm, hw, d1, d2]
theorem turnB (n size sg : Int) (p : Nat) (acc : List D) (s4 s5 : Sl) (x0 : Sl) (c : Cup) (hp : p < 100) (hl : acc.length < 1000) (hs : sg.natAbs ≤ 1) :
    bB [x0, .fz (.int size), .fz (.int sg), .ow acc, .fz (.int p), s5] c = .ok (.nx, [x0, .fz (.int size), .fz (.int sg), .ow (acc ++ (if bd p size = 0 then [] else [.tup [.int (sg * bd p size), .int p]])), .fz (.int p), .fz (.int (bd p size))]) c := by
  have hw : f_w_two [.int ((p : Int) + 1)] c = .ok (.int (2 ^ (p + 1))) c := by
    have := w_two_spec (i := (p : Int) + 1) (by omega) (by omega) c
    rw [show ((p : Int) + 1).toNat = p + 1 by omega] at this
    exact this
  have e1 := valB size (2 ^ (p + 1)) p x0 (.fz (.int sg)) (.ow acc) s5 c hw (pow_pos2 (p + 1)) (log2_pow (p + 1) (by omega))
  have eb : bd p size = 3 * size / 2 ^ (p + 1) % 2 - size / 2 ^ (p + 1) % 2 := rfl
  rw [← eb] at e1
  generalize bd p size = b at e1 ⊢
  have hm2 : ∀ y, mulOk sg y = true := fun y => by
    unfold mulOk
    simp only [Bool.or_eq_true, decide_eq_true_eq]
    omega
  have hl2 : acc.length < 16777216 := by omega
  refine seq_nx (set_ok e1) ?_
  by_cases h0 : b = 0
  · refine (if_nil_f (c' := c) ?_).trans ?_
    · simp [cV, cO, cC, cBin, cUn, cAnd, cOr, cTr, cNotT, cAndT, cOrT, cIf, cNil, cCons, cTup, cLst, cFz, cCupIx, cNoPart, cPart, cSl, cCall, cIsi, cItems, cRng1, cRng2, cZip, cComp, cYes, cDef, cChain, cTb, cCat, D.is, D.tru, dNot, dNeg, dCmpI, dSub, dMod, dLen, dAbs, dInt, dTuple, dList, dIx, itemsOf, bindT, bindTs, wipeE, noX, lenOk, rMaxLen, h0]
    · rw [if_pos h0]
      simp
  · refine if_t (c' := c) ?_ ?_
    · simp [cV, cO, cC, cBin, cUn, cAnd, cOr, cTr, cNotT, cAndT, cOrT, cIf, cNil, cCons, cTup, cLst, cFz, cCupIx, cNoPart, cPart, cSl, cCall, cIsi, cItems, cRng1, cRng2, cZip, cComp, cYes, cDef, cChain, cTb, cCat, D.is, D.tru, dNot, dNeg, dCmpI, dSub, dMod, dLen, dAbs, dInt, dTuple, dList, dIx, itemsOf, bindT, bindTs, wipeE, noX, lenOk, rMaxLen, h0]
    · rw [if_neg h0]
      simp [runD, startE, sNil, sSeq, sSet, sSetO, sAsg, sPar, sRet, sExpr, sIf, sFor, sFrz, sAug, sApp, sCupSet, sRaise, cV, cO, cC, cBin, cUn, cAnd, cOr, cTr, cNotT, cAndT, cOrT, cIf, cNil, cCons, cTup, cLst, cFz, cCupIx, cNoPart, cPart, cSl, cCall, cIsi, cItems, cRng1, cRng2, cZip, cComp, cYes, cDef, cChain, cTb, cCat, D.is, D.tru, dNot, dNeg, dCmpI, dSub, dMod, dLen, dAbs, dInt, dTuple, dList, dIx, itemsOf, bindT, bindTs, wipeE, noX, lenOk, rMaxLen, dMul, hm2, hl2]
theorem rangeD_succ (lo : Int) (m : Nat) : rangeD lo (m + 1) = .int lo :: rangeD (lo + 1) m := by
  unfold rangeD
  rw [List.range_succ_eq_map]
  simp only [List.map_cons, List.map_map, List.cons.injEq]
  refine ⟨by simp, List.map_congr_left fun i _ => ?_⟩
  simp only [Function.comp_apply]
  congr 1
  omega
theorem loopB (n size sg : Int) (x0 : Sl) (c : Cup) (hs : sg.natAbs ≤ 1) : ∀ (m p : Nat) (acc : List D) (s4 s5 : Sl), p + m ≤ 90 → acc.length ≤ p →
    ∃ s4' s5', forL (.nm 4) bB (rangeD (p : Int) m) [x0, .fz (.int size), .fz (.int sg), .ow acc, s4, s5] c = .ok (.nx, [x0, .fz (.int size), .fz (.int sg), .ow (acc ++ (digB sg size m p).map pr), s4', s5']) c := by
  intro m
  induction m with
  | zero =>
    intro p acc s4 s5 _ _
    exact ⟨s4, s5, by simp [rangeD, forL, digB]⟩
  | succ m ih =>
    intro p acc s4 s5 h1 h2
    have e := turnB n size sg p acc s4 s5 x0 c (by omega) (by omega) hs
    obtain ⟨s4', s5', e2⟩ := ih (p + 1) (acc ++ (if bd p size = 0 then [] else [.tup [.int (sg * bd p size), .int p]])) (.fz (.int p)) (.fz (.int (bd p size))) (by omega) (by
      rw [List.length_append]
      by_cases hd : bd p size = 0
      · rw [if_pos hd]
        show acc.length + 0 ≤ p + 1
        omega
      · rw [if_neg hd]
        show acc.length + 1 ≤ p + 1
        omega)
    refine ⟨s4', s5', ?_⟩
    rw [rangeD_succ]
    rw [show ((p + 1 : Nat) : Int) = (p : Int) + 1 by omega] at e2
    refine (forL_nx rfl e e2).trans ?_
    simp only [digB, List.map_append, List.append_assoc]
    by_cases hd : bd p size = 0
    · rw [if_pos hd, if_pos hd]; rfl
    · rw [if_neg hd, if_neg hd]; rfl
theorem bits_spec (n : Int) (c : Cup) (h : n.natAbs ≤ 2 ^ 80) : f_w_bits [.int n] c = .ok (toD (digs 81 0 n)) c := by
  have key : ∀ (size sg : Int), sg.natAbs ≤ 1 → digB sg size 90 0 = digs 81 0 n → f_w_bits [.int n] c = .ok (toD (digs 81 0 n)) c ∨ ¬ (size = (if n < 0 then -n else n) ∧ sg = (if 0 ≤ n then 1 else -1)) := by
    intro size sg hs hd
    by_cases hh : size = (if n < 0 then -n else n) ∧ sg = (if 0 ≤ n then 1 else -1)
    · left
      obtain ⟨s4, s5, e⟩ := loopB n size sg (.fz (.int n)) c hs 90 0 [] .no .no (by omega) (by simp)
      rw [hd] at e
      refine run_ret (seq_nx (e' := [.fz (.int n), .fz (.int size), .fz (.int sg), .no, .no, .no]) (c' := c) ?_ (seq_nx (setO_ok rfl) (seq_nx (for_ok (rng1_ok (i := 90) rfl (small_int (by decide) (by decide))) e) (ret_ok ?_))))
      · rw [hh.1, hh.2]
        by_cases h0 : 0 ≤ n
        · simp [runD, startE, sNil, sSeq, sSet, sSetO, sAsg, sPar, sRet, sExpr, sIf, sFor, sFrz, sAug, sApp, sCupSet, sRaise, cV, cO, cC, cBin, cUn, cAnd, cOr, cTr, cNotT, cAndT, cOrT, cIf, cNil, cCons, cTup, cLst, cFz, cCupIx, cNoPart, cPart, cSl, cCall, cIsi, cItems, cRng1, cRng2, cZip, cComp, cYes, cDef, cChain, cTb, cCat, D.is, D.tru, dNot, dNeg, dCmpI, dSub, dMod, dLen, dAbs, dInt, dTuple, dList, dIx, itemsOf, bindT, bindTs, wipeE, noX, lenOk, rMaxLen, h0]
        · simp [runD, startE, sNil, sSeq, sSet, sSetO, sAsg, sPar, sRet, sExpr, sIf, sFor, sFrz, sAug, sApp, sCupSet, sRaise, cV, cO, cC, cBin, cUn, cAnd, cOr, cTr, cNotT, cAndT, cOrT, cIf, cNil, cCons, cTup, cLst, cFz, cCupIx, cNoPart, cPart, cSl, cCall, cIsi, cItems, cRng1, cRng2, cZip, cComp, cYes, cDef, cChain, cTb, cCat, D.is, D.tru, dNot, dNeg, dCmpI, dSub, dMod, dLen, dAbs, dInt, dTuple, dList, dIx, itemsOf, bindT, bindTs, wipeE, noX, lenOk, rMaxLen, h0]
      · simp [cCall, cCons, cNil, cO, dTuple]
    · exact .inr hh
  by_cases h0 : 0 ≤ n
  · have e : digB 1 n 90 0 = digs 81 0 n := by
      rw [digB_eq]
      exact digs_more 80 9 0 n h
    rcases key n 1 (by decide) e with z | z
    · exact z
    · exact absurd ⟨by rw [if_neg (by omega)], by rw [if_pos h0]⟩ z
  · have e : digB (-1) (-n) 90 0 = digs 81 0 n := by
      rw [digB_neg, digB_eq]
      show ng (digs 90 0 (-n)) = _
      rw [digs_more 80 9 0 (-n) (by rwa [Int.natAbs_neg]), digs_neg, ng_ng]
    rcases key (-n) (-1) (by decide) e with z | z
    · exact z
    · exact absurd ⟨by rw [if_pos (by omega)], by rw [if_neg h0]⟩ z
end K54

set_option Elab.async false
set_option linter.all false
set_option maxRecDepth 100000
set_option maxHeartbeats 4000000
namespace K54
open PySem PySem.Spec PyProof.Rows L2 Hm
/-! ### ascending -/
theorem cut_one (xs : List D) : Hm.cutD xs (some 1) none = xs.drop 1 := by
  unfold Hm.cutD HT.sIx
  simp only [show ¬ ((1 : Int) < 0) by decide, if_false]
  cases xs with
  | nil => rfl
  | cons x r =>
    simp
theorem zipD_ints : ∀ (xs ys : List Int), zipD (xs.map D.int) (ys.map D.int) = (xs.zip ys).map pr
  | [], _ => by simp [zipD]
  | x :: xs, [] => by simp [zipD]
  | x :: xs, y :: ys => by simp [zipD, zipD_ints xs ys]
def ascB (qs : List Int) : Bool := (qs.zip (qs.drop 1)).all fun x => decide (x.1 < x.2)
theorem asc_spec (qs : List Int) (c : Cup) (hl : qs.length ≤ 1000) : f_is_ascending [.tup (qs.map D.int)] c = .ok (.bl (ascB qs)) c := by
  refine run_ret (ret_ok ?_)
  have hz : cZip (cCons (cV 0) (cCons (cSl (cV 0) (cPart (cC (.int (1)))) cNoPart) cNil)) (startE 3 [.tup (qs.map D.int)]) c = .ok ((qs.zip (qs.drop 1)).map pr) c := by
    simp only [startE, cV, cO, cC, cBin, cUn, cAnd, cOr, cTr, cNotT, cAndT, cOrT, cIf, cNil, cCons, cTup, cLst, cFz, cCupIx, cNoPart, cPart, cSl, cCall, cIsi, cItems, cRng1, cRng2, cZip, cComp, cYes, cDef, cChain, cTb, cCat, D.is, D.tru, dNot, dNeg, dCmpI, dSub, dMod, dLen, dAbs, dInt, dTuple, dList, dIx, itemsOf, bindT, bindTs, wipeE, noX, lenOk, rMaxLen, dSl, cut_one, bnd_ok, ofO_some, List.map_cons, List.map_nil, List.length_cons, List.length_nil, List.cons_append, List.nil_append, List.getElem?_cons_zero, zipOf]
    rw [← List.map_drop, zipD_ints]
  have hc := comp_ok (vs := [1, 2]) (tg := .tp [.nm 1, .nm 2]) (cond := cYes) (el := cBin dLt (cV 1) (cV 2)) hz (by
    simp only [List.length_map, List.length_zip, List.length_drop]
    omega) (compL_pure (p := fun _ => true) (v := fun d => match d with | .tup [.int a, .int b] => .bl (decide (a < b)) | _ => .non) fun d hd => by
      obtain ⟨x, _, rfl⟩ := List.mem_map.mp hd
      refine ⟨_, rfl, rfl, fun _ => ?_⟩
      simp [startE, wipeE, cBin, cV, dLt])
  simp only [cCall, cCons, cNil, cFz, hc, bnd_ok]
  have e : List.map (fun d : D => (match d with | .tup [.int a, .int b] => D.bl (decide (a < b)) | _ => .non)) (List.filter (fun _ => true) ((qs.zip (qs.drop 1)).map pr)) = ((qs.zip (qs.drop 1)).map fun x => decide (x.1 < x.2)).map D.bl := by
    rw [List.filter_eq_self.mpr (fun _ _ => rfl), List.map_map, List.map_map]
    rfl
  rw [e]
  show ofO ((blsOf _).map fun ns => D.bl (ns.all id)) c = _
  rw [blsOf_bl]
  simp only [Option.map_some, ofO_some]
  congr 2
  unfold ascB
  rw [List.all_map]
  rfl
/-! ### is_digits -/
def pairOk (x : D) : Bool := match x with
  | .tup [.int s, .int q] => decide (s = 1 ∨ s = -1) && (decide (0 ≤ q) && decide (q ≤ 81))
  | _ => false
/-- plain, its items plain -/
def pl2 (x : D) : Prop := pln x = true ∧ ∀ xs, x = .tup xs → ∀ y ∈ xs, pln y = true
theorem ok_pl2 {n : Nat} {x : D} (h : ok n x = true) : pl2 x := by
  refine ⟨ok_pln h, fun xs e y hy => ?_⟩
  subst e
  cases n with
  | zero => simp [ok] at h
  | succ n =>
    simp only [ok, Bool.and_eq_true, List.all_eq_true] at h
    exact ok_pln (h.2 y hy)
abbrev tD : Ev → M Bool := (cOrT (cNotT (cTr (cDef f_is_tuple_of (cCons (cV 1) (cCons (cC (.int (2))) (cCons (cC (.int (2))) cNil)))))) (cOrT (cNotT (cTr (cDef f_is_whole (cCons (cBin dIx (cV 1) (cC (.int (0)))) (cCons (cUn dNeg (cC (.int (1)))) (cCons (cC (.int (1))) cNil)))))) (cOrT (cTb (cBin dEq (cBin dIx (cV 1) (cC (.int (0)))) (cC (.int (0))))) (cNotT (cTr (cDef f_is_whole (cCons (cBin dIx (cV 1) (cC (.int (1)))) (cCons (cC (.int (0))) (cCons (cC (.int (81))) cNil)))))))))
abbrev bD : MS := (sIf tD (sRet (cC (.bl false))) sNil)
theorem at0 (a b : D) : atI [a, b] 0 = some a := rfl
theorem at1 (a b : D) : atI [a, b] 1 = some b := rfl
theorem tD_spec (x x0 : D) (r : Ev) (c : Cup) (h : pl2 x) : tD (.fz x0 :: .fz x :: r) c = .ok (!pairOk x) c := by
  have ht := is_tuple_spec x 2 2 c h.1
  by_cases h2 : ∃ a b, x = .tup [a, b]
  · obtain ⟨a, b, rfl⟩ := h2
    have ha := h.2 _ rfl a (by simp)
    have hb := h.2 _ rfl b (by simp)
    have w1 := is_whole_spec a (-1) 1 c ha
    have w2 := is_whole_spec b 0 81 c hb
    have e1 : isT (.tup [a, b]) 2 2 = true := rfl
    rw [e1] at ht
    cases a with
    | int s =>
      by_cases h1 : -1 ≤ s ∧ s ≤ 1
      · have e2 : isW (.int s) (-1) 1 = true := by simp [isW, h1]
        rw [e2] at w1
        by_cases h0 : s = 0
        · subst h0
          simp [cV, cO, cC, cBin, cUn, cAnd, cOr, cTr, cNotT, cAndT, cOrT, cIf, cNil, cCons, cTup, cLst, cFz, cCupIx, cNoPart, cPart, cSl, cCall, cIsi, cItems, cRng1, cRng2, cZip, cComp, cYes, cDef, cChain, cTb, cCat, D.is, D.tru, dNot, dNeg, dCmpI, dSub, dMod, dLen, dAbs, dInt, dTuple, dList, dIx, itemsOf, bindT, bindTs, wipeE, noX, lenOk, rMaxLen, ht, w1, at0, pairOk]
          cases b <;> simp
        · have e3 : (s = 1 ∨ s = -1) := by omega
          simp [cV, cO, cC, cBin, cUn, cAnd, cOr, cTr, cNotT, cAndT, cOrT, cIf, cNil, cCons, cTup, cLst, cFz, cCupIx, cNoPart, cPart, cSl, cCall, cIsi, cItems, cRng1, cRng2, cZip, cComp, cYes, cDef, cChain, cTb, cCat, D.is, D.tru, dNot, dNeg, dCmpI, dSub, dMod, dLen, dAbs, dInt, dTuple, dList, dIx, itemsOf, bindT, bindTs, wipeE, noX, lenOk, rMaxLen, ht, w1, at0, at1, h0, w2]
          cases b <;> simp [pairOk, isW, e3]
      · have e2 : isW (.int s) (-1) 1 = false := by
          simp only [isW, Bool.and_eq_false_iff, decide_eq_false_iff_not]
          omega
        rw [e2] at w1
        have e3 : ¬ (s = 1 ∨ s = -1) := by omega
        simp [cV, cO, cC, cBin, cUn, cAnd, cOr, cTr, cNotT, cAndT, cOrT, cIf, cNil, cCons, cTup, cLst, cFz, cCupIx, cNoPart, cPart, cSl, cCall, cIsi, cItems, cRng1, cRng2, cZip, cComp, cYes, cDef, cChain, cTb, cCat, D.is, D.tru, dNot, dNeg, dCmpI, dSub, dMod, dLen, dAbs, dInt, dTuple, dList, dIx, itemsOf, bindT, bindTs, wipeE, noX, lenOk, rMaxLen, ht, w1, at0]
        cases b <;> simp [pairOk, e3]
    | _ =>
      simp [isW] at w1
      simp [cV, cO, cC, cBin, cUn, cAnd, cOr, cTr, cNotT, cAndT, cOrT, cIf, cNil, cCons, cTup, cLst, cFz, cCupIx, cNoPart, cPart, cSl, cCall, cIsi, cItems, cRng1, cRng2, cZip, cComp, cYes, cDef, cChain, cTb, cCat, D.is, D.tru, dNot, dNeg, dCmpI, dSub, dMod, dLen, dAbs, dInt, dTuple, dList, dIx, itemsOf, bindT, bindTs, wipeE, noX, lenOk, rMaxLen, ht, w1, at0, pairOk]
  · have e1 : isT x 2 2 = false := by
      cases x with
      | tup xs =>
        simp only [isT, Bool.and_eq_false_iff, decide_eq_false_iff_not]
        match xs with
        | [] => left; decide
        | [a] => left; simp
        | [a, b] => exact absurd ⟨a, b, rfl⟩ h2
        | a :: b :: d :: r =>
          right
          simp only [List.length_cons]
          omega
      | _ => rfl
    rw [e1] at ht
    have e2 : pairOk x = false := by
      unfold pairOk
      split
      · exact absurd ⟨_, _, rfl⟩ h2
      · rfl
    simp [cV, cO, cC, cBin, cUn, cAnd, cOr, cTr, cNotT, cAndT, cOrT, cIf, cNil, cCons, cTup, cLst, cFz, cCupIx, cNoPart, cPart, cSl, cCall, cIsi, cItems, cRng1, cRng2, cZip, cComp, cYes, cDef, cChain, cTb, cCat, D.is, D.tru, dNot, dNeg, dCmpI, dSub, dMod, dLen, dAbs, dInt, dTuple, dList, dIx, itemsOf, bindT, bindTs, wipeE, noX, lenOk, rMaxLen, ht, e2]
theorem loopD (x0 : D) (c : Cup) : ∀ (xs : List D) (s1 : Sl) (r : Ev), (∀ x ∈ xs, pl2 x) →
    (xs.all pairOk = true → ∃ s', forL (.nm 1) bD xs (.fz x0 :: s1 :: r) c = .ok (.nx, .fz x0 :: s' :: r) c) ∧ (xs.all pairOk = false → ∃ e', forL (.nm 1) bD xs (.fz x0 :: s1 :: r) c = .ok (.ret (.bl false), e') c)
  | [], s1, r, _ => ⟨fun _ => ⟨s1, rfl⟩, fun h => by cases h⟩
  | x :: xs, s1, r, h => by
    have ht := tD_spec x x0 r c (h x List.mem_cons_self)
    obtain ⟨i1, i2⟩ := loopD x0 c xs (.fz x) r fun y hy => h y (List.mem_cons_of_mem _ hy)
    cases hp : pairOk x with
    | true =>
      rw [hp] at ht
      have e1 : bD (.fz x0 :: .fz x :: r) c = .ok (.nx, .fz x0 :: .fz x :: r) c := if_nil_f ht
      refine ⟨fun ha => ?_, fun ha => ?_⟩
      · obtain ⟨s', e⟩ := i1 (by simpa [hp] using ha)
        exact ⟨s', forL_nx rfl e1 e⟩
      · obtain ⟨e', e⟩ := i2 (by simpa [hp] using ha)
        exact ⟨e', forL_nx rfl e1 e⟩
    | false =>
      rw [hp] at ht
      have e1 : bD (.fz x0 :: .fz x :: r) c = .ok (.ret (.bl false), .fz x0 :: .fz x :: r) c := if_t ht rfl
      exact ⟨fun ha => by simp [hp] at ha, fun _ => ⟨_, forL_ret rfl e1⟩⟩
def plc (x : D) : Int := match x with
  | .tup [_, .int q] => q
  | _ => 0
def isDig (d : D) : Bool := match d with
  | .tup xs => decide (xs.length ≤ 82) && (xs.all pairOk && ascB (xs.map plc))
  | _ => false
/-- plain, three deep -/
def pl3 (x : D) : Prop := pln x = true ∧ ∀ xs, x = .tup xs → ∀ y ∈ xs, pl2 y
theorem ok_pl3 {n : Nat} {x : D} (h : ok n x = true) : pl3 x := by
  refine ⟨ok_pln h, fun xs e y hy => ?_⟩
  subst e
  cases n with
  | zero => simp [ok] at h
  | succ n =>
    simp only [ok, Bool.and_eq_true, List.all_eq_true] at h
    exact ok_pl2 (h.2 y hy)
theorem is_digits_spec (d : D) (c : Cup) (h : pl3 d) : f_is_digits [d] c = .ok (.bl (isDig d)) c := by
  have ht := is_tuple_spec d 0 82 c h.1
  have hadd : (81 : Int) + 1 = 82 := rfl
  by_cases h1 : ∃ xs, d = .tup xs ∧ xs.length ≤ 82
  · obtain ⟨xs, rfl, hl⟩ := h1
    have e1 : isT (.tup xs) 0 82 = true := by
      simp only [isT, Bool.and_eq_true, decide_eq_true_eq]
      omega
    rw [e1] at ht
    obtain ⟨i1, i2⟩ := loopD (.tup xs) c xs .no [.no, .no] (h.2 xs rfl)
    refine (?_ : runD 4 g_is_digits [.tup xs] c = _)
    have s1 : sIf (cNotT (cTr (cDef f_is_tuple_of (cCons (cV 0) (cCons (cC (.int (0))) (cCons (cBin dAdd (cC (.int (81))) (cC (.int (1)))) cNil)))))) (sRet (cC (.bl false))) sNil (startE 4 [.tup xs]) c = .ok (.nx, [.fz (.tup xs), .no, .no, .no]) c := by
      refine (if_nil_f (c' := c) ?_).trans rfl
      simp [startE, cV, cO, cC, cBin, cUn, cAnd, cOr, cTr, cNotT, cAndT, cOrT, cIf, cNil, cCons, cTup, cLst, cFz, cCupIx, cNoPart, cPart, cSl, cCall, cIsi, cItems, cRng1, cRng2, cZip, cComp, cYes, cDef, cChain, cTb, cCat, D.is, D.tru, dNot, dNeg, dCmpI, dSub, dMod, dLen, dAbs, dInt, dTuple, dList, dIx, itemsOf, bindT, bindTs, wipeE, noX, lenOk, rMaxLen, dAdd, ht]
    cases hp : xs.all pairOk with
    | false =>
      obtain ⟨e', e⟩ := i2 hp
      refine (run_ret (seq_nx s1 (seq_ret (for_ok (ds := xs) (c' := c) rfl e)))).trans ?_
      simp [isDig, hp]
    | true =>
      obtain ⟨s', e⟩ := i1 hp
      have hall : ∀ x ∈ xs, ∃ a b, x = .tup [.int a, .int b] := fun x hx => by
        have := List.all_eq_true.mp hp x hx
        unfold pairOk at this
        split at this
        · exact ⟨_, _, rfl⟩
        · cases this
      have hc := comp_ok (vs := [2, 3]) (tg := .tp [.nm 2, .nm 3]) (it := cItems (cV 0)) (cond := cYes) (el := cV 3) (env := [.fz (.tup xs), s', .no, .no]) (c := c) (ds := xs) (c' := c) rfl (by omega) (compL_pure (p := fun _ => true) (v := fun d => .int (plc d)) fun d hd => by
        obtain ⟨a, b, rfl⟩ := hall d hd
        refine ⟨_, rfl, rfl, fun _ => ?_⟩
        simp [cV, wipeE, plc])
      rw [List.filter_eq_self.mpr (fun _ _ => rfl)] at hc
      have ha := asc_spec (xs.map plc) c (by simp; omega)
      rw [List.map_map] at ha
      refine (run_ret (seq_nx s1 (seq_nx (for_ok (ds := xs) (c' := c) rfl e) (ret_ok (d := .bl (ascB (xs.map plc))) (c' := c) ?_)))).trans ?_
      · have ht2 : cCall dTuple (cCons (cFz (cComp [2, 3] (.tp [.nm 2, .nm 3]) (cItems (cV 0)) cYes (cV 3))) cNil) [.fz (.tup xs), s', .no, .no] c = .ok (.tup (xs.map fun d => .int (plc d))) c := by
          simp only [cCall, cCons, cNil, cFz, hc, bnd_ok]
          rfl
        simp only [cDef, cCons, cNil, ht2, bnd_ok]
        exact ha
      · simp [isDig, hp, hl]
  · have e1 : isT d 0 82 = false := by
      cases d with
      | tup xs =>
        simp only [isT, Bool.and_eq_false_iff, decide_eq_false_iff_not]
        right
        intro z
        exact h1 ⟨xs, rfl, by omega⟩
      | _ => rfl
    rw [e1] at ht
    have e2 : isDig d = false := by
      cases d with
      | tup xs =>
        have : ¬ xs.length ≤ 82 := fun z => h1 ⟨xs, rfl, z⟩
        simp [isDig, this]
      | _ => rfl
    rw [e2]
    refine run_ret (seq_ret (if_t (c' := c) ?_ (ret_ok rfl)))
    simp [startE, cV, cO, cC, cBin, cUn, cAnd, cOr, cTr, cNotT, cAndT, cOrT, cIf, cNil, cCons, cTup, cLst, cFz, cCupIx, cNoPart, cPart, cSl, cCall, cIsi, cItems, cRng1, cRng2, cZip, cComp, cYes, cDef, cChain, cTb, cCat, D.is, D.tru, dNot, dNeg, dCmpI, dSub, dMod, dLen, dAbs, dInt, dTuple, dList, dIx, itemsOf, bindT, bindTs, wipeE, noX, lenOk, rMaxLen, dAdd, ht]
end K54

set_option Elab.async false
set_option linter.all false
set_option maxRecDepth 100000
set_option maxHeartbeats 4000000
namespace K54
open PySem PySem.Spec PyProof.Rows L2 Hm
/-! ### _law_is_digits -/
theorem notIn_one (s : Int) : dNotIn (.int s) (.tup [.int 1, .int (-1)]) = some (.bl (!decide (s = 1 ∨ s = -1))) := by
  have e : inV (.int s) [.int 1, .int (-1)] = decide (s = 1 ∨ s = -1) := by
    have e1 : ∀ j : Int, eqV (.int j) (.int s) = decide (j = s) := fun j => rfl
    simp only [inV, List.any_cons, List.any_nil, e1, Bool.or_false]
    by_cases h1 : s = 1
    · subst h1; rfl
    · by_cases h2 : s = -1
      · subst h2; rfl
      · rw [decide_eq_false (by omega), decide_eq_false (by omega), decide_eq_false (by omega)]; rfl
  simp only [dNotIn, dInB, D.v?, itemsOf, vsOf, Option.bind_some, Option.map_some, e]
abbrev t1 : Ev → M Bool := (cOrT (cTb (cBin dNe (cDef f_w_sort (cCons (cV 2) cNil)) (cC (.int (4))))) (cOrT (cTb (cBin dNe (cCall dLen (cCons (cV 2) cNil)) (cC (.int (2))))) (cOrT (cTb (cBin dNe (cDef f_w_sort (cCons (cBin dIx (cV 2) (cC (.int (0)))) cNil)) (cC (.int (2))))) (cTb (cBin dNe (cDef f_w_sort (cCons (cBin dIx (cV 2) (cC (.int (1)))) cNil)) (cC (.int (2))))))))
abbrev t2 : Ev → M Bool := (cOrT (cTb (cBin dNotIn (cBin dIx (cV 2) (cC (.int (0)))) (cTup (cCons (cC (.int (1))) (cCons (cUn dNeg (cC (.int (1)))) cNil))))) (cOrT (cTb (cBin (dCmpI fun i j => decide (i ≤ j)) (cBin dIx (cV 2) (cC (.int (1)))) (cV 1))) (cTb (cBin (dCmpI fun i j => decide (j < i)) (cBin dIx (cV 2) (cC (.int (1)))) (cC (.int (81)))))))
abbrev bE : MS := (sSeq (sIf t1 (sRet (cC (.bl false))) sNil) (sSeq (sIf t2 (sRet (cC (.bl false))) sNil) (sSet 1 (cBin dIx (cV 2) (cC (.int (1)))))))
def shp (x : D) : Bool := match x with
  | .tup [.int _, .int _] => true
  | _ => false
theorem t1_spec (x0 x1 : Sl) (x : D) (c : Cup) (h : pl2 x) : t1 [x0, x1, .fz x] c = .ok (!shp x) c := by
  have hs := sort_spec x c h.1
  by_cases h2 : ∃ a b, x = .tup [a, b]
  · obtain ⟨a, b, rfl⟩ := h2
    have ha := sort_spec a c (h.2 _ rfl a (by simp))
    have hb := sort_spec b c (h.2 _ rfl b (by simp))
    simp [cV, cO, cC, cBin, cUn, cAnd, cOr, cTr, cNotT, cAndT, cOrT, cIf, cNil, cCons, cTup, cLst, cFz, cCupIx, cNoPart, cPart, cSl, cCall, cIsi, cItems, cRng1, cRng2, cZip, cComp, cYes, cDef, cChain, cTb, cCat, D.is, D.tru, dNot, dNeg, dCmpI, dSub, dMod, dLen, dAbs, dInt, dTuple, dList, dIx, itemsOf, bindT, bindTs, wipeE, noX, lenOk, rMaxLen, hs, srt, at0, at1, ha, hb]
    cases a <;> cases b <;> simp [srt, shp]
  · have e2 : shp x = false := by
      unfold shp
      split
      · exact absurd ⟨_, _, rfl⟩ h2
      · rfl
    rw [e2]
    cases x with
    | tup xs =>
      have hl : (xs.length : Int) ≠ 2 := by
        intro z
        match xs, z, h2 with
        | [a, b], _, h2 => exact h2 ⟨a, b, rfl⟩
        | [], z, _ => simp at z
        | [a], z, _ => simp at z
        | a :: b :: d :: r, z, _ =>
          simp only [List.length_cons] at z
          omega
      simp [cV, cO, cC, cBin, cUn, cAnd, cOr, cTr, cNotT, cAndT, cOrT, cIf, cNil, cCons, cTup, cLst, cFz, cCupIx, cNoPart, cPart, cSl, cCall, cIsi, cItems, cRng1, cRng2, cZip, cComp, cYes, cDef, cChain, cTb, cCat, D.is, D.tru, dNot, dNeg, dCmpI, dSub, dMod, dLen, dAbs, dInt, dTuple, dList, dIx, itemsOf, bindT, bindTs, wipeE, noX, lenOk, rMaxLen, hs, srt, hl]
    | _ => simp [cV, cO, cC, cBin, cUn, cAnd, cOr, cTr, cNotT, cAndT, cOrT, cIf, cNil, cCons, cTup, cLst, cFz, cCupIx, cNoPart, cPart, cSl, cCall, cIsi, cItems, cRng1, cRng2, cZip, cComp, cYes, cDef, cChain, cTb, cCat, D.is, D.tru, dNot, dNeg, dCmpI, dSub, dMod, dLen, dAbs, dInt, dTuple, dList, dIx, itemsOf, bindT, bindTs, wipeE, noX, lenOk, rMaxLen, hs, srt]
theorem t2_spec (x0 : Sl) (last s q : Int) (c : Cup) : t2 [x0, .fz (.int last), .fz (.tup [.int s, .int q])] c = .ok (!(decide (s = 1 ∨ s = -1)) || (decide (q ≤ last) || decide (81 < q))) c := by
  have h1 : cTb (cBin dNotIn (cBin dIx (cV 2) (cC (.int (0)))) (cTup (cCons (cC (.int (1))) (cCons (cUn dNeg (cC (.int (1)))) cNil)))) [x0, .fz (.int last), .fz (.tup [.int s, .int q])] c = .ok (!decide (s = 1 ∨ s = -1)) c := by
    show ((ofO (dNotIn (.int s) (.tup [.int 1, .int (-1)])) c).bnd _) = _
    rw [notIn_one]
    rfl
  have h2 : cTb (cBin (dCmpI fun i j => decide (i ≤ j)) (cBin dIx (cV 2) (cC (.int (1)))) (cV 1)) [x0, .fz (.int last), .fz (.tup [.int s, .int q])] c = .ok (decide (q ≤ last)) c := rfl
  have h3 : cTb (cBin (dCmpI fun i j => decide (j < i)) (cBin dIx (cV 2) (cC (.int (1)))) (cC (.int (81)))) [x0, .fz (.int last), .fz (.tup [.int s, .int q])] c = .ok (decide (81 < q)) c := rfl
  simp only [t2, cOrT, h1, h2, h3, bnd_ok]
  cases decide (s = 1 ∨ s = -1) <;> cases decide (q ≤ last) <;> rfl
def chk : Int → List D → Bool
  | _, [] => true
  | last, x :: r => pairOk x && (decide (last < plc x) && chk (plc x) r)
theorem loopE (x0 : Sl) (c : Cup) : ∀ (xs : List D) (last : Int) (s2 : Sl), -1 ≤ last → (∀ x ∈ xs, pl2 x) →
    (chk last xs = true → ∃ e', forL (.nm 2) bE xs [x0, .fz (.int last), s2] c = .ok (.nx, e') c) ∧ (chk last xs = false → ∃ e', forL (.nm 2) bE xs [x0, .fz (.int last), s2] c = .ok (.ret (.bl false), e') c)
  | [], last, s2, _, _ => ⟨fun _ => ⟨_, rfl⟩, fun h => by cases h⟩
  | x :: xs, last, s2, hl, h => by
    have e1 := t1_spec x0 (.fz (.int last)) x c (h x List.mem_cons_self)
    cases hs : shp x with
    | false =>
      rw [hs] at e1
      have hp : pairOk x = false := by
        unfold pairOk
        split
        · simp [shp] at hs
        · rfl
      refine ⟨fun z => by simp [chk, hp] at z, fun _ => ⟨_, forL_ret rfl (seq_ret (if_t e1 rfl))⟩⟩
    | true =>
      rw [hs] at e1
      obtain ⟨s, q, rfl⟩ : ∃ s q, x = .tup [.int s, .int q] := by
        unfold shp at hs
        split at hs
        · exact ⟨_, _, rfl⟩
        · cases hs
      have e2 := t2_spec x0 last s q c
      cases hb : (!(decide (s = 1 ∨ s = -1)) || (decide (q ≤ last) || decide (81 < q))) with
      | true =>
        rw [hb] at e2
        have hp : (pairOk (.tup [.int s, .int q]) && decide (last < q)) = false := by
          simp only [Bool.or_eq_true, Bool.not_eq_true', decide_eq_false_iff_not, decide_eq_true_eq] at hb
          simp only [pairOk, Bool.and_eq_false_iff, decide_eq_false_iff_not]
          omega
        refine ⟨fun z => ?_, fun _ => ⟨_, forL_ret rfl (seq_nx (if_nil_f e1) (seq_ret (if_t e2 rfl)))⟩⟩
        simp only [chk, plc, Bool.and_eq_true] at z
        rw [z.1, Bool.true_and, decide_eq_false_iff_not] at hp
        exact absurd (of_decide_eq_true z.2.1) hp
      | false =>
        rw [hb] at e2
        simp only [Bool.or_eq_false_iff, Bool.not_eq_false', decide_eq_true_eq, decide_eq_false_iff_not] at hb
        have hp : pairOk (.tup [.int s, .int q]) = true := by
          simp only [pairOk, Bool.and_eq_true, decide_eq_true_eq]
          omega
        have hq : last < q := by omega
        have e3 : bE [x0, .fz (.int last), .fz (.tup [.int s, .int q])] c = .ok (.nx, [x0, .fz (.int q), .fz (.tup [.int s, .int q])]) c :=
          seq_nx (if_nil_f e1) (seq_nx (if_nil_f e2) (set_ok (d := .int q) rfl))
        have ih := loopE x0 c xs q (.fz (.tup [.int s, .int q])) (by omega) fun y hy => h y (List.mem_cons_of_mem _ hy)
        have ec : chk last (.tup [.int s, .int q] :: xs) = chk q xs := by simp [chk, plc, hp, hq]
        rw [ec]
        exact ⟨fun z => let ⟨e', e⟩ := ih.1 z; ⟨e', forL_nx rfl e3 e⟩, fun z => let ⟨e', e⟩ := ih.2 z; ⟨e', forL_nx rfl e3 e⟩⟩
def ascF : Int → List Int → Bool
  | _, [] => true
  | last, q :: r => decide (last < q) && ascF q r
theorem chk_eq : ∀ (xs : List D) (last : Int), chk last xs = (xs.all pairOk && ascF last (xs.map plc))
  | [], _ => rfl
  | x :: xs, last => by
    simp only [chk, chk_eq xs, List.all_cons, List.map_cons, ascF]
    cases pairOk x <;> cases xs.all pairOk <;> simp
theorem ascB_cons : ∀ (q : Int) (r : List Int), ascB (q :: r) = ascF q r
  | _, [] => rfl
  | q, p :: r => by
    have ih := ascB_cons p r
    unfold ascB at ih ⊢
    simp only [List.drop_succ_cons, List.drop_zero, List.zip_cons_cons, List.all_cons, ascF] at ih ⊢
    rw [ih]
theorem chk_dig (xs : List D) : chk (-1) xs = (xs.all pairOk && ascB (xs.map plc)) := by
  rw [chk_eq]
  cases xs with
  | nil => rfl
  | cons x r =>
    rw [List.map_cons, ascB_cons]
    simp only [ascF, List.all_cons]
    cases hp : pairOk x with
    | false => rfl
    | true =>
      have : -1 < plc x := by
        unfold pairOk at hp
        split at hp
        · simp only [Bool.and_eq_true, decide_eq_true_eq] at hp
          simp only [plc]
          omega
        · cases hp
      simp [this]
theorem w_is_digits_spec (d : D) (c : Cup) (h : pl3 d) : f_w_is_digits [d] c = .ok (.bl (isDig d)) c := by
  have hs := sort_spec d c h.1
  by_cases h1 : ∃ xs, d = .tup xs ∧ xs.length ≤ 82
  · obtain ⟨xs, rfl, hl⟩ := h1
    have e0 : sIf (cOrT (cTb (cBin dNe (cDef f_w_sort (cCons (cV 0) cNil)) (cC (.int (4))))) (cTb (cBin (dCmpI fun i j => decide (j < i)) (cCall dLen (cCons (cV 0) cNil)) (cC (.int (82)))))) (sRet (cC (.bl false))) sNil (startE 3 [.tup xs]) c = .ok (.nx, startE 3 [.tup xs]) c := by
      refine if_nil_f ?_
      have : ¬ (82 < (xs.length : Int)) := by omega
      simp [startE, cV, cO, cC, cBin, cUn, cAnd, cOr, cTr, cNotT, cAndT, cOrT, cIf, cNil, cCons, cTup, cLst, cFz, cCupIx, cNoPart, cPart, cSl, cCall, cIsi, cItems, cRng1, cRng2, cZip, cComp, cYes, cDef, cChain, cTb, cCat, D.is, D.tru, dNot, dNeg, dCmpI, dSub, dMod, dLen, dAbs, dInt, dTuple, dList, dIx, itemsOf, bindT, bindTs, wipeE, noX, lenOk, rMaxLen, hs, srt, this]
    obtain ⟨i1, i2⟩ := loopE (.fz (.tup xs)) c xs (-1) .no (by decide) (h.2 xs rfl)
    rw [chk_dig] at i1 i2
    have ed : isDig (.tup xs) = (xs.all pairOk && ascB (xs.map plc)) := by simp [isDig, hl]
    rw [ed]
    cases hb : (xs.all pairOk && ascB (xs.map plc)) with
    | true =>
      obtain ⟨e', e⟩ := i1 hb
      exact run_ret (seq_nx e0 (seq_nx (set_ok (d := .int (-1)) rfl) (seq_nx (for_ok (ds := xs) (c' := c) rfl e) (ret_ok rfl))))
    | false =>
      obtain ⟨e', e⟩ := i2 hb
      exact run_ret (seq_nx e0 (seq_nx (set_ok (d := .int (-1)) rfl) (seq_ret (for_ok (ds := xs) (c' := c) rfl e))))
  · have e2 : isDig d = false := by
      cases d with
      | tup xs =>
        have : ¬ xs.length ≤ 82 := fun z => h1 ⟨xs, rfl, z⟩
        simp [isDig, this]
      | _ => rfl
    rw [e2]
    refine run_ret (seq_ret (if_t (c' := c) ?_ (ret_ok rfl)))
    cases d with
    | tup xs =>
      have : 82 < (xs.length : Int) := by
        have : ¬ xs.length ≤ 82 := fun z => h1 ⟨xs, rfl, z⟩
        omega
      simp [startE, cV, cO, cC, cBin, cUn, cAnd, cOr, cTr, cNotT, cAndT, cOrT, cIf, cNil, cCons, cTup, cLst, cFz, cCupIx, cNoPart, cPart, cSl, cCall, cIsi, cItems, cRng1, cRng2, cZip, cComp, cYes, cDef, cChain, cTb, cCat, D.is, D.tru, dNot, dNeg, dCmpI, dSub, dMod, dLen, dAbs, dInt, dTuple, dList, dIx, itemsOf, bindT, bindTs, wipeE, noX, lenOk, rMaxLen, hs, srt, this]
    | _ => simp [startE, cV, cO, cC, cBin, cUn, cAnd, cOr, cTr, cNotT, cAndT, cOrT, cIf, cNil, cCons, cTup, cLst, cFz, cCupIx, cNoPart, cPart, cSl, cCall, cIsi, cItems, cRng1, cRng2, cZip, cComp, cYes, cDef, cChain, cTb, cCat, D.is, D.tru, dNot, dNeg, dCmpI, dSub, dMod, dLen, dAbs, dInt, dTuple, dList, dIx, itemsOf, bindT, bindTs, wipeE, noX, lenOk, rMaxLen, hs, srt]
/-! ### what is digits -/
theorem isDig_list {d : D} (h : isDig d = true) : ∃ l : List Dg, d = toD l ∧ l.length ≤ 82 ∧ good 1 82 0 l := by
  cases d with
  | tup xs =>
    simp only [isDig, Bool.and_eq_true, decide_eq_true_eq] at h
    obtain ⟨hl, hp, ha⟩ := h
    have key : ∀ (xs : List D) (last : Int), xs.all pairOk = true → ascF last (xs.map plc) = true → ∃ l : List Dg, xs = l.map pr ∧ good 1 82 (last + 1) l := by
      intro xs
      induction xs with
      | nil => intro _ _ _; exact ⟨[], rfl, True.intro⟩
      | cons x r ih =>
        intro last hp ha
        simp only [List.all_cons, Bool.and_eq_true] at hp
        simp only [List.map_cons, ascF, Bool.and_eq_true, decide_eq_true_eq] at ha
        obtain ⟨l, e1, e2⟩ := ih (plc x) hp.2 ha.2
        have hp1 := hp.1
        unfold pairOk at hp1
        split at hp1
        · rename_i s q
          simp only [Bool.and_eq_true, decide_eq_true_eq] at hp1
          exact ⟨(s, q) :: l, by rw [e1]; rfl, hp1.1, by have := ha.1; simp only [plc] at this; omega, by omega, e2⟩
        · cases hp1
    have hc : ascF (-1) (xs.map plc) = true := by
      have z := chk_dig xs
      rw [chk_eq, hp, ha] at z
      simpa using z
    obtain ⟨l, e1, e2⟩ := key xs (-1) hp hc
    refine ⟨l, by rw [e1], ?_, by simpa using e2⟩
    rw [e1, List.length_map] at hl
    exact hl
  | _ => cases h
theorem dig_list {l : List Dg} (hl : l.length ≤ 82) (h : good 1 82 0 l) : isDig (toD l) = true := by
  have key : ∀ (l : List Dg) (last : Int), -1 ≤ last → good 1 82 (last + 1) l → (l.map pr).all pairOk = true ∧ ascF last ((l.map pr).map plc) = true := by
    intro l
    induction l with
    | nil => intro _ _ _; exact ⟨rfl, rfl⟩
    | cons x r ih =>
      obtain ⟨s, q⟩ := x
      intro last h0 hg
      obtain ⟨g1, g2, g3, g4⟩ := hg
      obtain ⟨a, b⟩ := ih q (by omega) g4
      refine ⟨?_, ?_⟩
      · simp only [List.map_cons, List.all_cons, a, Bool.and_true, pairOk, Bool.and_eq_true, decide_eq_true_eq]
        omega
      · simp only [List.map_cons, ascF, plc, Bool.and_eq_true, decide_eq_true_eq]
        exact ⟨by omega, b⟩
  obtain ⟨a, b⟩ := key l (-1) (by decide) (by simpa using h)
  have z := chk_dig (l.map pr)
  rw [chk_eq, a, b] at z
  simp only [isDig, List.length_map, a, ← z, Bool.and_true, Bool.true_and, decide_eq_true_eq]
  simpa using hl
end K54

set_option Elab.async false
set_option linter.all false
set_option maxRecDepth 100000
set_option maxHeartbeats 4000000
namespace K54
open PySem PySem.Spec PyProof.Rows L2 Hm
theorem need_ok (d : D) (c : Cup) (h : pl3 d) (hd : isDig d = true) : f_need_digits [d] c = .ok .non c := by
  have e := is_digits_spec d c h
  rw [hd] at e
  refine run_nx (if_nil_f (c' := c) ?_)
  simp [startE, cV, cO, cC, cBin, cUn, cAnd, cOr, cTr, cNotT, cAndT, cOrT, cIf, cNil, cCons, cTup, cLst, cFz, cCupIx, cNoPart, cPart, cSl, cCall, cIsi, cItems, cRng1, cRng2, cZip, cComp, cYes, cDef, cChain, cTb, cCat, D.is, D.tru, dNot, dNeg, dCmpI, dSub, dMod, dLen, dAbs, dInt, dTuple, dList, dIx, itemsOf, bindT, bindTs, wipeE, noX, lenOk, rMaxLen, e]
theorem need_bad (d : D) (c : Cup) (h : pl3 d) (hd : isDig d = false) : f_need_digits [d] c = .exc { nm := "InvalidPaper" } c := by
  have e := is_digits_spec d c h
  rw [hd] at e
  refine run_exc (if_t (c' := c) ?_ rfl)
  simp [startE, cV, cO, cC, cBin, cUn, cAnd, cOr, cTr, cNotT, cAndT, cOrT, cIf, cNil, cCons, cTup, cLst, cFz, cCupIx, cNoPart, cPart, cSl, cCall, cIsi, cItems, cRng1, cRng2, cZip, cComp, cYes, cDef, cChain, cTb, cCat, D.is, D.tru, dNot, dNeg, dCmpI, dSub, dMod, dLen, dAbs, dInt, dTuple, dList, dIx, itemsOf, bindT, bindTs, wipeE, noX, lenOk, rMaxLen, e]
theorem toD_pl3 (l : List Dg) : pl3 (toD l) := by
  refine ⟨rfl, fun xs e y hy => ?_⟩
  cases e
  obtain ⟨x, _, rfl⟩ := List.mem_map.mp hy
  refine ⟨rfl, fun xs e y hy => ?_⟩
  cases e
  simp only [List.mem_cons, List.mem_nil_iff, or_false] at hy
  rcases hy with rfl | rfl <;> rfl
theorem good_mem {g hi : Int} : ∀ {l : List Dg} {lo : Int}, 0 ≤ g → good g hi lo l → ∀ x ∈ l, (x.1 = 1 ∨ x.1 = -1) ∧ lo ≤ x.2 ∧ x.2 < hi
  | [], _, _, _, x, hx => by cases hx
  | (s, q) :: r, lo, hg, h, x, hx => by
    rcases List.mem_cons.mp hx with rfl | hx
    · exact ⟨h.1, h.2.1, h.2.2.1⟩
    · obtain ⟨a, b, d⟩ := good_mem hg h.2.2.2 x hx
      have h1 : lo ≤ q := h.2.1
      have h2 : q + g ≤ x.2 := b
      exact ⟨a, by omega, d⟩
theorem sum_ints (ns : List Int) : dSum [.lst (ns.map D.int)] = some (.int ns.sum) := by
  show (intsOf (ns.map D.int)).map _ = _
  rw [intsOf_int]
  rfl
theorem value_ok (l : List Dg) (c : Cup) (hl : l.length ≤ 82) (h : good 1 82 0 l) : f_value_of [toD l] c = .ok (.int (sumD l)) c := by
  have hn := need_ok (toD l) c (toD_pl3 l) (dig_list hl h)
  have hc := comp_ok (vs := [1, 2]) (tg := .tp [.nm 1, .nm 2]) (it := cItems (cV 0)) (cond := cYes) (el := cBin dMul (cV 1) (cDef f_two_to (cCons (cV 2) cNil))) (env := startE 3 [toD l]) (c := c) (ds := l.map pr) (c' := c) rfl (by rw [List.length_map]; omega)
    (compL_pure (p := fun _ => true) (v := fun d => match d with | .tup [.int a, .int b] => .int (a * 2 ^ b.toNat) | _ => .non) fun d hd => by
      obtain ⟨x, hx, rfl⟩ := List.mem_map.mp hd
      obtain ⟨g1, g2, g3⟩ := good_mem (by decide) h x hx
      refine ⟨_, rfl, rfl, fun _ => ?_⟩
      have ht := two_to_spec (i := x.2) g2 (by omega) c
      have hm : ∀ y, mulOk x.1 y = true := fun y => by
        unfold mulOk
        simp only [Bool.or_eq_true, decide_eq_true_eq]
        omega
      simp [startE, wipeE, cBin, cV, cDef, cCons, cNil, ht, dMul, hm])
  rw [List.filter_eq_self.mpr (fun _ _ => rfl), List.map_map] at hc
  have e2 : (l.map ((fun d : D => (match d with | .tup [.int a, .int b] => D.int (a * 2 ^ b.toNat) | _ => .non)) ∘ pr)) = (l.map fun x => x.1 * 2 ^ x.2.toNat).map D.int := by
    rw [List.map_map]
    rfl
  rw [e2] at hc
  refine run_ret (seq_nx (expr_ok (d := .non) (c' := c) ?_) (ret_ok (d := .int (sumD l)) (c' := c) ?_))
  · simp only [cDef, cCons, cNil, cV, startE, List.map_cons, List.cons_append, List.getElem?_cons_zero, bnd_ok, hn]
  · simp only [cCall, cCons, cNil, cFz, hc, bnd_ok, sum_ints, ofO_some]
    rfl
theorem value_bad (d : D) (c : Cup) (h : pl3 d) (hd : isDig d = false) : f_value_of [d] c = .exc { nm := "InvalidPaper" } c := by
  have hn := need_bad d c h hd
  refine run_exc (seq_exc (expr_exc ?_))
  simp only [cDef, cCons, cNil, cV, startE, List.map_cons, List.cons_append, List.getElem?_cons_zero, bnd_ok, hn]
theorem apart_bad (d : D) (c : Cup) (h : pl3 d) (hd : isDig d = false) : f_is_apart [d] c = .exc { nm := "InvalidPaper" } c := by
  have hn := need_bad d c h hd
  refine run_exc (seq_exc (expr_exc ?_))
  simp only [cDef, cCons, cNil, cV, startE, List.map_cons, List.cons_append, List.getElem?_cons_zero, bnd_ok, hn]
def aptB (l : List Dg) : Bool := (l.zip (l.drop 1)).all fun x => decide (2 ≤ x.2.2 - x.1.2)
theorem zip_prs : ∀ (xs ys : List Dg), zipD (xs.map pr) (ys.map pr) = (xs.zip ys).map fun x => .tup [pr x.1, pr x.2]
  | [], _ => by simp [zipD]
  | x :: xs, [] => by simp [zipD]
  | x :: xs, y :: ys => by simp [zipD, zip_prs xs ys]
theorem is_apart_ok (l : List Dg) (c : Cup) (hl : l.length ≤ 82) (h : good 1 82 0 l) : f_is_apart [toD l] c = .ok (.bl (aptB l)) c := by
  have hn := need_ok (toD l) c (toD_pl3 l) (dig_list hl h)
  have hz : cZip (cCons (cV 0) (cCons (cSl (cV 0) (cPart (cC (.int (1)))) cNoPart) cNil)) (startE 3 [toD l]) c = .ok ((l.zip (l.drop 1)).map fun x => .tup [pr x.1, pr x.2]) c := by
    simp only [startE, cV, cO, cC, cBin, cUn, cAnd, cOr, cTr, cNotT, cAndT, cOrT, cIf, cNil, cCons, cTup, cLst, cFz, cCupIx, cNoPart, cPart, cSl, cCall, cIsi, cItems, cRng1, cRng2, cZip, cComp, cYes, cDef, cChain, cTb, cCat, D.is, D.tru, dNot, dNeg, dCmpI, dSub, dMod, dLen, dAbs, dInt, dTuple, dList, dIx, itemsOf, bindT, bindTs, wipeE, noX, lenOk, rMaxLen, dSl, cut_one, bnd_ok, ofO_some, List.map_cons, List.map_nil, List.length_cons, List.length_nil, List.cons_append, List.nil_append, List.getElem?_cons_zero, zipOf]
    rw [← List.map_drop, zip_prs]
  have hc := comp_ok (vs := [1, 2]) (tg := .tp [.nm 1, .nm 2]) (cond := cYes) (el := cBin (dCmpI fun i j => decide (j ≤ i)) (cBin dSub (cBin dIx (cV 2) (cC (.int (1)))) (cBin dIx (cV 1) (cC (.int (1))))) (cC (.int (2)))) hz (by
    simp only [List.length_map, List.length_zip, List.length_drop]
    omega) (compL_pure (p := fun _ => true) (v := fun d => match d with | .tup [.tup [_, .int a], .tup [_, .int b]] => .bl (decide (2 ≤ b - a)) | _ => .non) fun d hd => by
      obtain ⟨x, _, rfl⟩ := List.mem_map.mp hd
      refine ⟨_, rfl, rfl, fun _ => ?_⟩
      simp [startE, wipeE, cBin, cV, cC, dIx, at1, dSub, dCmpI])
  rw [List.filter_eq_self.mpr (fun _ _ => rfl), List.map_map] at hc
  have e2 : ((l.zip (l.drop 1)).map ((fun d : D => (match d with | .tup [.tup [_, .int a], .tup [_, .int b]] => D.bl (decide (2 ≤ b - a)) | _ => .non)) ∘ fun x => .tup [pr x.1, pr x.2])) = ((l.zip (l.drop 1)).map fun x => decide (2 ≤ x.2.2 - x.1.2)).map D.bl := by
    rw [List.map_map]
    rfl
  rw [e2] at hc
  refine run_ret (seq_nx (expr_ok (d := .non) (c' := c) ?_) (ret_ok (d := .bl (aptB l)) (c' := c) ?_))
  · simp only [cDef, cCons, cNil, cV, startE, List.map_cons, List.cons_append, List.getElem?_cons_zero, bnd_ok, hn]
  · simp only [cCall, cCons, cNil, cFz, hc, bnd_ok]
    show ofO ((blsOf _).map fun ns => D.bl (ns.all id)) c = _
    rw [blsOf_bl]
    simp only [Option.map_some, ofO_some]
    congr 2
    unfold aptB
    rw [List.all_map]
    rfl
theorem apt_good : ∀ (l : List Dg) (lo : Int), good 2 82 lo l → aptB l = true
  | [], _, _ => rfl
  | [x], _, _ => rfl
  | x :: y :: r, lo, h => by
    have ih := apt_good (y :: r) _ h.2.2.2
    have h2 : x.2 + 2 ≤ y.2 := h.2.2.2.2.1
    unfold aptB at ih ⊢
    simp only [List.drop_succ_cons, List.drop_zero, List.zip_cons_cons, List.all_cons, Bool.and_eq_true, decide_eq_true_eq] at ih ⊢
    exact ⟨by omega, ih⟩
/-! ### _law_value -/
theorem loopV (x0 : Sl) (c : Cup) : ∀ (l : List Dg) (acc : Int) (s2 s3 : Sl), (∀ x ∈ l, (x.1 = 1 ∨ x.1 = -1) ∧ 0 ≤ x.2 ∧ x.2 < 82) →
    ∃ s2' s3', forL (.tp [(.nm 2), (.nm 3)]) (sSet 1 (cBin dAdd (cV 1) (cBin dMul (cV 2) (cDef f_w_two (cCons (cV 3) cNil))))) (l.map pr) [x0, .fz (.int acc), s2, s3] c = .ok (.nx, [x0, .fz (.int (acc + sumD l)), s2', s3']) c
  | [], acc, s2, s3, _ => ⟨s2, s3, by simp [forL, sumD]⟩
  | x :: l, acc, s2, s3, h => by
    obtain ⟨g1, g2, g3⟩ := h x List.mem_cons_self
    have ht := w_two_spec (i := x.2) g2 (by omega) c
    have hm : ∀ y, mulOk x.1 y = true := fun y => by
      unfold mulOk
      simp only [Bool.or_eq_true, decide_eq_true_eq]
      omega
    obtain ⟨s2', s3', e⟩ := loopV x0 c l (acc + x.1 * 2 ^ x.2.toNat) (.fz (.int x.1)) (.fz (.int x.2)) fun y hy => h y (List.mem_cons_of_mem _ hy)
    have e1 : sSet 1 (cBin dAdd (cV 1) (cBin dMul (cV 2) (cDef f_w_two (cCons (cV 3) cNil)))) [x0, .fz (.int acc), .fz (.int x.1), .fz (.int x.2)] c = .ok (.nx, [x0, .fz (.int (acc + x.1 * 2 ^ x.2.toNat)), .fz (.int x.1), .fz (.int x.2)]) c := by
      refine (set_ok (d := .int (acc + x.1 * 2 ^ x.2.toNat)) (c' := c) ?_).trans rfl
      simp [cBin, cV, cDef, cCons, cNil, ht, dMul, hm, dAdd]
    refine ⟨s2', s3', ?_⟩
    rw [List.map_cons]
    refine (forL_nx (e2 := [x0, .fz (.int acc), .fz (.int x.1), .fz (.int x.2)]) rfl e1 e).trans ?_
    have : acc + x.1 * 2 ^ x.2.toNat + sumD l = acc + sumD (x :: l) := by
      unfold sumD
      rw [List.map_cons, List.sum_cons]
      omega
    rw [this]
theorem sumD_rev (l : List Dg) : sumD l.reverse = sumD l := by
  induction l with
  | nil => rfl
  | cons x r ih =>
    rw [List.reverse_cons, sumD_append, ih]
    unfold sumD
    simp only [List.map_cons, List.map_nil, List.sum_cons, List.sum_nil]
    omega
theorem w_value_spec (l : List Dg) (c : Cup) (h : good 1 82 0 l) : f_w_value [toD l] c = .ok (.int (sumD l)) c := by
  obtain ⟨s2, s3, e⟩ := loopV (.fz (toD l)) c l.reverse 0 .no .no fun x hx => good_mem (by decide) h x (List.mem_reverse.mp hx)
  rw [sumD_rev, Int.zero_add, List.map_reverse] at e
  exact run_ret (seq_nx (set_ok (d := .int 0) (c' := c) rfl) (seq_nx (for_ok (ds := (l.map pr).reverse) (c' := c) rfl e) (ret_ok rfl)))
/-! ### signed, fewest -/
theorem need_whole_ok (n a b : Int) (c : Cup) (h : a ≤ n ∧ n ≤ b) : f_need_whole [.int n, .int a, .int b] c = .ok .non c := by
  have e := is_whole_spec (.int n) a b c rfl
  have e2 : isW (.int n) a b = true := by simp [isW, h]
  rw [e2] at e
  refine run_nx (if_nil_f (c' := c) ?_)
  simp [startE, cV, cO, cC, cBin, cUn, cAnd, cOr, cTr, cNotT, cAndT, cOrT, cIf, cNil, cCons, cTup, cLst, cFz, cCupIx, cNoPart, cPart, cSl, cCall, cIsi, cItems, cRng1, cRng2, cZip, cComp, cYes, cDef, cChain, cTb, cCat, D.is, D.tru, dNot, dNeg, dCmpI, dSub, dMod, dLen, dAbs, dInt, dTuple, dList, dIx, itemsOf, bindT, bindTs, wipeE, noX, lenOk, rMaxLen, e]
theorem need_whole_bad (d : D) (a b : Int) (c : Cup) (h : pln d = true) (h2 : isW d a b = false) : f_need_whole [d, .int a, .int b] c = .exc { nm := "InvalidNumber" } c := by
  have e := is_whole_spec d a b c h
  rw [h2] at e
  refine run_exc (if_t (c' := c) ?_ rfl)
  simp [startE, cV, cO, cC, cBin, cUn, cAnd, cOr, cTr, cNotT, cAndT, cOrT, cIf, cNil, cCons, cTup, cLst, cFz, cCupIx, cNoPart, cPart, cSl, cCall, cIsi, cItems, cRng1, cRng2, cZip, cComp, cYes, cDef, cChain, cTb, cCat, D.is, D.tru, dNot, dNeg, dCmpI, dSub, dMod, dLen, dAbs, dInt, dTuple, dList, dIx, itemsOf, bindT, bindTs, wipeE, noX, lenOk, rMaxLen, e]
abbrev G : Int := 1208925819614629174706176
theorem signed_ok (n : Int) (c : Cup) (h : -G ≤ n ∧ n ≤ G) : f_signed [.int n] c = .ok (toD (digs 81 0 n)) c := by
  have e1 := need_whole_ok n (-G) G c h
  have e2 := apart_spec n c (by
    have : (2 : Nat) ^ 80 = 1208925819614629174706176 := by decide +kernel
    rw [this]
    have h1 : -1208925819614629174706176 ≤ n := h.1
    have h2 : n ≤ 1208925819614629174706176 := h.2
    omega)
  refine run_ret (seq_nx (expr_ok (d := .non) (c' := c) ?_) (ret_ok ?_))
  · exact e1
  · exact e2
theorem fewest_ok (n : Int) (c : Cup) (h : -G ≤ n ∧ n ≤ G) : f_fewest [.int n] c = .ok (.int (digs 81 0 n).length) c := by
  have e1 := need_whole_ok n (-G) G c h
  have e2 := apart_spec n c (by
    have : (2 : Nat) ^ 80 = 1208925819614629174706176 := by decide +kernel
    rw [this]
    have h1 : -1208925819614629174706176 ≤ n := h.1
    have h2 : n ≤ 1208925819614629174706176 := h.2
    omega)
  refine run_ret (seq_nx (expr_ok (d := .non) (c' := c) ?_) (ret_ok ?_))
  · exact e1
  · have e3 : cDef f_apart_digits (cCons (cV 0) cNil) (startE 1 [.int n]) c = .ok (toD (digs 81 0 n)) c := e2
    simp only [cCall, cCons, cNil, e3, bnd_ok]
    show ofO (some (D.int (((digs 81 0 n).map pr).length : Int))) c = _
    rw [List.length_map]
    rfl
theorem signed_bad (d : D) (c : Cup) (h : pln d = true) (h2 : isW d (-G) G = false) : f_signed [d] c = .exc { nm := "InvalidNumber" } c :=
  run_exc (seq_exc (expr_exc (need_whole_bad d (-G) G c h h2)))
theorem fewest_bad (d : D) (c : Cup) (h : pln d = true) (h2 : isW d (-G) G = false) : f_fewest [d] c = .exc { nm := "InvalidNumber" } c :=
  run_exc (seq_exc (expr_exc (need_whole_bad d (-G) G c h h2)))
end K54

set_option Elab.async false
set_option linter.all false
set_option maxRecDepth 100000
set_option maxHeartbeats 4000000
namespace K54
open PySem PySem.Spec PyProof.Rows L2 Hm
/-! ### _law_like of a thing and itself -/
theorem in45 (s : Int) : dIn (.int s) (.tup [.int 4, .int 5]) = some (.bl (decide (s = 4 ∨ s = 5))) := by
  have e : inV (.int s) [.int 4, .int 5] = decide (s = 4 ∨ s = 5) := by
    have e1 : ∀ j : Int, eqV (.int j) (.int s) = decide (j = s) := fun j => rfl
    simp only [inV, List.any_cons, List.any_nil, e1, Bool.or_false]
    by_cases h1 : s = 4
    · subst h1; rfl
    · by_cases h2 : s = 5
      · subst h2; rfl
      · rw [decide_eq_false (by omega), decide_eq_false (by omega), decide_eq_false (by omega)]; rfl
  simp only [dIn, dInB, D.v?, itemsOf, vsOf, Option.bind_some, Option.map_some, e]
theorem zip_self : ∀ xs : List D, zipD xs xs = xs.map fun x => .tup [x, x]
  | [] => rfl
  | x :: xs => by simp [zipD, zip_self xs]
theorem eq_nils : dEq (.lst []) (.lst []) = some (.bl true) := by
  rw [dEq_ok (n := 1) (by omega) rfl rfl]
  rfl
def seqOf (d : D) : Option (List D) := match d with
  | .tup xs => some xs
  | .lst xs => some xs
  | _ => none
theorem like_refl : ∀ (n : Nat) (d : D), n ≤ 60 → ok n d = true → ∀ c, f_w_like (n + 1) [d, d] c = .ok (.bl true) c := by
  intro n
  induction n with
  | zero =>
    intro d _ h c
    have hs := sort_spec d c (ok_pln h)
    have he := dEq_ok (n := 0) (by omega) h h
    rw [eqv_refl 0 d h] at he
    refine run_ret (seq_nx (e' := [.fz d, .fz d, .fz (.int (srt d)), .no, .no]) (c' := c) ?_ (seq_nx (if_nil_f (c' := c) ?_) (seq_nx (if_nil_f (c' := c) ?_) (ret_ok (d := .bl true) (c' := c) ?_))))
    · exact (set_ok (d := .int (srt d)) (c' := c) (by simp only [cDef, cCons, cNil, cV, startE, List.map_cons, List.cons_append, List.getElem?_cons_zero, List.getElem?_cons_succ, bnd_ok, hs])).trans rfl
    · have h6 : srt d ≠ 6 := by cases d <;> simp [ok, srt] at h ⊢
      simp [cV, cO, cC, cBin, cUn, cAnd, cOr, cTr, cNotT, cAndT, cOrT, cIf, cNil, cCons, cTup, cLst, cFz, cCupIx, cNoPart, cPart, cSl, cCall, cIsi, cItems, cRng1, cRng2, cZip, cComp, cYes, cDef, cChain, cTb, cCat, D.is, D.tru, dNot, dNeg, dCmpI, dSub, dMod, dLen, dAbs, dInt, dTuple, dList, dIx, itemsOf, bindT, bindTs, wipeE, noX, lenOk, rMaxLen, hs, h6]
    · have h4 : ¬ (srt d = 4 ∨ srt d = 5) := by cases d <;> simp [ok, srt] at h ⊢
      have hl : lenOk [.int 4, .int 5] = true := rfl
      simp [cTb, cBin, cV, cC, cTup, cCons, cNil, hl, in45, h4]
    · simp [cBin, cV, he]
  | succ n ih =>
    intro d hn h c
    have hs := sort_spec d c (ok_pln h)
    have h6 : srt d ≠ 6 := by cases d <;> simp [ok, srt] at h ⊢
    have s1 : sSet 2 (cDef f_w_sort (cCons (cV 1) cNil)) (startE 5 [d, d]) c = .ok (.nx, [.fz d, .fz d, .fz (.int (srt d)), .no, .no]) c :=
      (set_ok (d := .int (srt d)) (c' := c) (by simp only [cDef, cCons, cNil, cV, startE, List.map_cons, List.cons_append, List.getElem?_cons_zero, List.getElem?_cons_succ, bnd_ok, hs])).trans rfl
    have hl : lenOk [.int 4, .int 5] = true := rfl
    have t2 : cTb (cBin dIn (cV 2) (cTup (cCons (cC (.int (4))) (cCons (cC (.int (5))) cNil)))) [.fz d, .fz d, .fz (.int (srt d)), .no, .no] c = .ok (decide (srt d = 4 ∨ srt d = 5)) c := by
      simp [cTb, cBin, cV, cC, cTup, cCons, cNil, hl, in45]
    have t1 : (cOrT (cTb (cBin dNe (cDef f_w_sort (cCons (cV 0) cNil)) (cV 2))) (cTb (cBin dEq (cV 2) (cC (.int (6)))))) [.fz d, .fz d, .fz (.int (srt d)), .no, .no] c = .ok false c := by
      simp [cV, cO, cC, cBin, cUn, cAnd, cOr, cTr, cNotT, cAndT, cOrT, cIf, cNil, cCons, cTup, cLst, cFz, cCupIx, cNoPart, cPart, cSl, cCall, cIsi, cItems, cRng1, cRng2, cZip, cComp, cYes, cDef, cChain, cTb, cCat, D.is, D.tru, dNot, dNeg, dCmpI, dSub, dMod, dLen, dAbs, dInt, dTuple, dList, dIx, itemsOf, bindT, bindTs, wipeE, noX, lenOk, rMaxLen, hs, h6]
    cases hq : seqOf d with
    | none =>
      have h4 : ¬ (srt d = 4 ∨ srt d = 5) := by cases d <;> simp [ok, srt, seqOf] at h hq ⊢
      rw [decide_eq_false h4] at t2
      have he := dEq_ok (n := n + 1) (by omega) h h
      rw [eqv_refl (n + 1) d h] at he
      refine run_ret (seq_nx s1 (seq_nx (if_nil_f t1) (seq_nx (if_nil_f t2) (ret_ok (d := .bl true) (c' := c) ?_))))
      simp [cBin, cV, he]
    | some xs =>
      have h4 : srt d = 4 ∨ srt d = 5 := by cases d <;> simp [srt, seqOf] at hq ⊢
      rw [decide_eq_true h4] at t2
      have hx : xs.length ≤ 1000 ∧ ∀ x ∈ xs, ok n x = true := by
        cases d <;> simp [seqOf] at hq <;> subst hq <;> simpa [ok] using h
      have hlen : cCall dLen (cCons (cV 0) cNil) [.fz d, .fz d, .fz (.int (srt d)), .no, .no] c = .ok (.int xs.length) c ∧ cCall dLen (cCons (cV 1) cNil) [.fz d, .fz d, .fz (.int (srt d)), .no, .no] c = .ok (.int xs.length) c := by
        cases d <;> simp [seqOf] at hq <;> subst hq <;> simp [cCall, cCons, cNil, cV, dLen]
      have hz : cZip (cCons (cV 0) (cCons (cV 1) cNil)) [.fz d, .fz d, .fz (.int (srt d)), .no, .no] c = .ok (xs.map fun x => .tup [x, x]) c := by
        cases d <;> simp [seqOf] at hq <;> subst hq <;> simp [cZip, cCons, cNil, cV, zipOf, zip_self]
      have hc := comp_ok (vs := [3, 4]) (tg := .tp [.nm 3, .nm 4]) (cond := cNotT (cTr (cDef (f_w_like (n + 1)) (cCons (cV 3) (cCons (cV 4) cNil))))) (el := cC (.int (1))) hz (by rw [List.length_map]; omega)
        (compL_pure (p := fun _ => false) (v := fun d => d) fun e he => by
          obtain ⟨x, hx2, rfl⟩ := List.mem_map.mp he
          refine ⟨_, rfl, ?_, fun z => by cases z⟩
          have e1 := ih x (by omega) (hx.2 x hx2) c
          simp [wipeE, cNotT, cTr, cDef, cCons, cNil, cV, e1, D.tru])
      rw [show List.filter (fun _ => false) (xs.map fun x => D.tup [x, x]) = [] by simp] at hc
      refine run_ret (seq_nx s1 (seq_nx (if_nil_f t1) (seq_ret (if_t t2 (ret_ok (d := .bl true) (c' := c) ?_)))))
      have hnil : lenOk [] = true := rfl
      simp only [cAnd, cBin, hlen.1, hlen.2, bnd_ok, dEq_int, decide_true, ofO_some, D.tru, if_true, cFz, hc, List.map_nil, cLst, cNil, hnil, eq_nils]
/-! ### _law_bent -/
def hp : Nat → D → Bool
  | _, .non => true
  | _, .bl _ => true
  | _, .int _ => true
  | _, .str _ => true
  | n + 1, .tup xs => xs.all (hp n)
  | n + 1, .lst xs => xs.all (hp n)
  | _, _ => false
theorem ok_hp : ∀ (n : Nat) (d : D), ok n d = true → hp n d = true
  | 0, d, h => by cases d <;> simp [ok] at h <;> rfl
  | n + 1, d, h => by
    cases d with
    | tup xs =>
      simp only [ok, Bool.and_eq_true, List.all_eq_true] at h
      simp only [hp, List.all_eq_true]
      exact fun x hx => ok_hp n x (h.2 x hx)
    | lst xs =>
      simp only [ok, Bool.and_eq_true, List.all_eq_true] at h
      simp only [hp, List.all_eq_true]
      exact fun x hx => ok_hp n x (h.2 x hx)
    | _ => first | rfl | simp [ok] at h
theorem hp_mono : ∀ {n m : Nat} {d : D}, n ≤ m → hp n d = true → hp m d = true
  | 0, m, d, _, h => by cases d <;> simp [hp] at h <;> cases m <;> rfl
  | n + 1, m, d, hm, h => by
    obtain ⟨m, rfl⟩ : ∃ k, m = k + 1 := ⟨m - 1, by omega⟩
    cases d with
    | tup xs =>
      simp only [hp, List.all_eq_true] at h ⊢
      exact fun x hx => hp_mono (by omega) (h x hx)
    | lst xs =>
      simp only [hp, List.all_eq_true] at h ⊢
      exact fun x hx => hp_mono (by omega) (h x hx)
    | _ => first | rfl | simp [hp] at h
theorem hp_pln {n : Nat} {d : D} (h : hp n d = true) : pln d = true := by
  cases d <;> cases n <;> first | rfl | (simp [hp] at h)
theorem hp_tup {n : Nat} {xs : List D} (h : hp n (.tup xs) = true) : ∀ x ∈ xs, hp (n - 1) x = true := by
  cases n with
  | zero => simp [hp] at h
  | succ n => simpa [hp] using h
theorem hp_pl3 {n : Nat} {d : D} (h : hp n d = true) : pl3 d :=
  ⟨hp_pln h, fun xs e x hx => by
    subst e
    have h1 := hp_tup h x hx
    exact ⟨hp_pln h1, fun ys e y hy => by
      subst e
      exact hp_pln (hp_tup h1 y hy)⟩⟩
theorem cut_mem {xs : List D} {lo hi : Option Int} {x : D} (h : x ∈ Hm.cutD xs lo hi) : x ∈ xs := List.mem_of_mem_drop (List.mem_of_mem_take h)
theorem cut_len (xs : List D) (lo hi : Option Int) : (Hm.cutD xs lo hi).length ≤ xs.length := by
  unfold Hm.cutD
  rw [List.length_take, List.length_drop]
  omega
def base0 : List D := [.non, .bl true, .int 0, .int 1, .int (-1), .int 2, .int 9, .int 13, .int 26, .str "", .str "add", .tup [], .lst [], .tup [.int 0], .tup [.int 0, .int 0], .tup [.int 1, .int 1]]
theorem base0_hp : ∀ x ∈ base0, hp 1 x = true := by
  intro x hx
  simp only [base0, List.mem_cons, List.mem_nil_iff, or_false] at hx
  rcases hx with rfl | rfl | rfl | rfl | rfl | rfl | rfl | rfl | rfl | rfl | rfl | rfl | rfl | rfl | rfl | rfl <;> rfl
end K54

set_option Elab.async false
set_option linter.all false
set_option maxRecDepth 100000
set_option maxHeartbeats 4000000
namespace K54
open PySem PySem.Spec PyProof.Rows L2 Hm
theorem add_lst {xs ys : List D} (h : xs.length + ys.length ≤ 16777216) : dAdd (.lst xs) (.lst ys) = some (.lst (xs ++ ys)) := by
  show (if xs.length + ys.length ≤ rMaxLen then some (D.lst (xs ++ ys)) else none) = _
  rw [if_pos h]
theorem add_tup {xs ys : List D} (h : xs.length + ys.length ≤ 16777216) : dAdd (.tup xs) (.tup ys) = some (.tup (xs ++ ys)) := by
  show (if xs.length + ys.length ≤ rMaxLen then some (D.tup (xs ++ ys)) else none) = _
  rw [if_pos h]
abbrev moreF : Ev → M D := (cIf (cTb (cBin dEq (cDef f_w_sort (cCons (cV 1) cNil)) (cC (.int (2))))) (cBin dMul (cFz (cLst (cCons (cBin dAdd (cV 1) (cC (.int (1)))) (cCons (cBin dSub (cV 1) (cC (.int (1)))) cNil)))) (cC (.int (4)))) (cFz (cLst cNil)))
theorem more_spec (x0 x2 x3 x4 : Sl) (d : D) (c : Cup) (h : pln d = true) : ∃ ys : List D, moreF [x0, .fz d, x2, x3, x4] c = .ok (.lst ys) c ∧ ys.length ≤ 8 ∧ ∀ y ∈ ys, hp 0 y = true := by
  have hs := sort_spec d c h
  by_cases h2 : ∃ v, d = .int v
  · obtain ⟨v, rfl⟩ := h2
    refine ⟨(List.replicate 4 [D.int (v + 1), D.int (v - 1)]).flatten, ?_, by simp, ?_⟩
    · have hr : repOk 2 4 = true := rfl
      have hl : lenOk [.int (v + 1), .int (v - 1)] = true := rfl
      have hm : dMul (.lst [.int (v + 1), .int (v - 1)]) (.int 4) = some (.lst (List.replicate 4 [D.int (v + 1), D.int (v - 1)]).flatten) := rfl
      simp [cIf, cTb, cBin, cDef, cCons, cNil, cV, cC, hs, srt, cFz, cLst, dAdd, dSub, hl, hm]
    · intro y hy
      simp at hy
      rcases hy with rfl | rfl | rfl | rfl | rfl | rfl | rfl | rfl <;> rfl
  · refine ⟨[], ?_, by simp, by simp⟩
    have hl : lenOk [] = true := rfl
    have : srt d ≠ 2 := by
      cases d <;> simp [srt]
      exact h2 ⟨_, rfl⟩
    simp [cIf, cTb, cBin, cDef, cCons, cNil, cV, cC, hs, this, cFz, cLst, hl]
abbrev sA : MS := (sSet 2 (cFz (cLst (cCons (cC .non) (cCons (cC (.bl true)) (cCons (cC (.int (0))) (cCons (cC (.int (1))) (cCons (cUn dNeg (cC (.int (1)))) (cCons (cC (.int (2))) (cCons (cC (.int (9))) (cCons (cC (.int (13))) (cCons (cC (.int (26))) (cCons (cC (.str "")) (cCons (cC (.str "add")) (cCons (cTup cNil) (cCons (cFz (cLst cNil)) (cCons (cTup (cCons (cC (.int (0))) cNil)) (cCons (cTup (cCons (cC (.int (0))) (cCons (cC (.int (0))) cNil))) (cCons (cTup (cCons (cC (.int (1))) (cCons (cC (.int (1))) cNil))) cNil)))))))))))))))))))
abbrev rA : MS := (sRet (cDef f_w_some (cCons (cV 0) (cCons (cBin dAdd (cV 2) moreF) cNil))))
theorem branchA (d : D) (a b : Int) (h : pln d = true) : ∃ d' a' b' e', sSeq sA rA [.fz .cup, .fz d, .no, .no, .no] [a, b] = .ok (.ret d', e') [a', b'] ∧ hp 2 d' = true := by
  obtain ⟨ys, h1, h2, h3⟩ := more_spec (.fz .cup) (.fz (.lst base0)) .no .no d [a, b] h
  have hb : base0.length = 16 := rfl
  obtain ⟨d', a', b', e1, e2⟩ := some_spec a b (base0 ++ ys) (by
    intro z
    have := congrArg List.length z
    rw [List.length_append, hb] at this
    simp at this) (by rw [List.length_append, hb]; omega)
  refine ⟨d', a', b', _, seq_nx (e' := [.fz .cup, .fz d, .fz (.lst base0), .no, .no]) (c' := [a, b]) ?_ (ret_ok (d := d') (c' := [a', b']) ?_), ?_⟩
  · exact (set_ok (d := .lst base0) (c' := [a, b]) rfl).trans rfl
  · have hadd := add_lst (xs := base0) (ys := ys) (by rw [hb]; omega)
    have e3 : cBin dAdd (cV 2) moreF [.fz .cup, .fz d, .fz (.lst base0), .no, .no] [a, b] = .ok (.lst (base0 ++ ys)) [a, b] := by
      show ((moreF [.fz .cup, .fz d, .fz (.lst base0), .no, .no] [a, b]).bnd fun e c2 => ofO (dAdd (.lst base0) e) c2) = _
      rw [h1, bnd_ok, hadd]
      rfl
    have e4 : cV 0 [.fz .cup, .fz d, .fz (.lst base0), .no, .no] [a, b] = .ok .cup [a, b] := rfl
    simp only [cDef, cCons, cNil, e3, e4, bnd_ok, e1]
  · rcases List.mem_append.mp e2 with z | z
    · exact hp_mono (by omega) (base0_hp d' z)
    · exact hp_mono (by omega) (h3 d' z)
def bP (k : Nat) : MS := sPar 3 4 (cCons (cDef f_w_roll (cCons (cV 0) (cCons (cCall dLen (cCons (cV 1) cNil)) cNil))) (cCons (cDef f_w_roll (cCons (cV 0) (cCons (cC (.int (10))) cNil))) cNil))
theorem mem_hp {n : Nat} {xs ys : List D} (h : ∀ x ∈ xs, hp n x = true) (hs : ∀ y ∈ ys, y ∈ xs) : (ys.all (hp n)) = true := List.all_eq_true.mpr fun y hy => h y (hs y hy)
theorem bent_spec : ∀ (n : Nat) (d : D) (a b : Int), n ≤ 60 → ok n d = true → ∃ d' a' b', f_w_bent (n + 1) [.cup, d] [a, b] = .ok d' [a', b'] ∧ hp (n + 2) d' = true := by
  have tst : ∀ (d : D) (x2 x3 x4 : Sl) (c : Cup), (cOrT (cNotT (cTr (cIsi .tuple (cV 1)))) (cOrT (cTb (cBin dEq (cV 1) (cTup cNil))) (cTb (cBin dEq (cDef f_w_roll (cCons (cV 0) (cCons (cC (.int (6))) cNil))) (cC (.int (0))))))) [.fz .cup, .fz d, x2, x3, x4] c =
      (match d with
        | .tup _ => (cOrT (cTb (cBin dEq (cV 1) (cTup cNil))) (cTb (cBin dEq (cDef f_w_roll (cCons (cV 0) (cCons (cC (.int (6))) cNil))) (cC (.int (0)))))) [.fz .cup, .fz d, x2, x3, x4] c
        | .cup => .bad
        | .scr _ => .bad
        | .obj _ => .bad
        | _ => .ok true c) := by
    intro d x2 x3 x4 c
    cases d <;> simp [cOrT, cNotT, cTr, cIsi, cV, D.is, D.tru]
  intro n
  induction n with
  | zero =>
    intro d a b _ h
    obtain ⟨d', a', b', e', e1, e2⟩ := branchA d a b (ok_pln h)
    refine ⟨d', a', b', run_ret (seq_ret (if_t (c' := [a, b]) ?_ e1)), e2⟩
    refine (tst d .no .no .no [a, b]).trans ?_
    cases d <;> first | rfl | (simp [ok] at h)
  | succ n ih =>
    intro d a b hn h
    by_cases ht : ∃ xs, d = .tup xs
    · obtain ⟨xs, rfl⟩ := ht
      have hx : xs.length ≤ 1000 ∧ ∀ x ∈ xs, ok n x = true := by simpa [ok] using h
      have hh : ∀ x ∈ xs, hp n x = true := fun x hx2 => ok_hp n x (hx.2 x hx2)
      have he := dEq_ok (n := n + 1) (d := .tup xs) (e := .tup []) (by omega) h rfl
      have he2 : PyData.eqv (D.tup xs).py (D.tup []).py = xs.isEmpty := by cases xs <;> rfl
      rw [he2] at he
      have hnil : lenOk [] = true := rfl
      have t1 : cTb (cBin dEq (cV 1) (cTup cNil)) [.fz .cup, .fz (.tup xs), .no, .no, .no] [a, b] = .ok xs.isEmpty [a, b] := by
        simp only [cTb, cBin, cV, cTup, cNil, List.getElem?_cons_succ, List.getElem?_cons_zero, bnd_ok, hnil, if_true, he, ofO_some]
      have brA : ∀ (a0 b0 : Int), (cOrT (cTb (cBin dEq (cV 1) (cTup cNil))) (cTb (cBin dEq (cDef f_w_roll (cCons (cV 0) (cCons (cC (.int (6))) cNil))) (cC (.int (0)))))) [.fz .cup, .fz (.tup xs), .no, .no, .no] [a, b] = .ok true [a0, b0] →
          ∃ d' a' b', f_w_bent (n + 1 + 1) [.cup, .tup xs] [a, b] = .ok d' [a', b'] ∧ hp (n + 1 + 2) d' = true := fun a0 b0 ht => by
        obtain ⟨d', a', b', e', e1, e2⟩ := branchA (.tup xs) a0 b0 rfl
        exact ⟨d', a', b', run_ret (seq_ret (if_t ((tst (.tup xs) .no .no .no [a, b]).trans ht) e1)), hp_mono (by omega) e2⟩
      cases hxe : xs.isEmpty with
      | true =>
        rw [hxe] at t1
        exact brA a b (by simp only [cOrT, t1, bnd_ok, if_true])
      | false =>
        rw [hxe] at t1
        obtain ⟨r6, a1, b1, e6, _, _⟩ := roll_spec a b 6 (by decide) (small_log (by decide))
        have t2 : (cOrT (cTb (cBin dEq (cV 1) (cTup cNil))) (cTb (cBin dEq (cDef f_w_roll (cCons (cV 0) (cCons (cC (.int (6))) cNil))) (cC (.int (0)))))) [.fz .cup, .fz (.tup xs), .no, .no, .no] [a, b] = .ok (decide (r6 = 0)) [a1, b1] := by
          have t6 : cTb (cBin dEq (cDef f_w_roll (cCons (cV 0) (cCons (cC (.int (6))) cNil))) (cC (.int (0)))) [.fz .cup, .fz (.tup xs), .no, .no, .no] [a, b] = .ok (decide (r6 = 0)) [a1, b1] := by
            simp [cTb, cBin, cDef, cCons, cNil, cV, cC, e6]
          simp only [cOrT, t1, t6, bnd_ok, Bool.false_eq_true, if_false]
        by_cases h6 : r6 = 0
        · rw [decide_eq_true h6] at t2
          exact brA a1 b1 t2
        · rw [decide_eq_false h6] at t2
          have hpos : 0 < xs.length := by
            cases xs with
            | nil => cases hxe
            | cons x r => simp
          obtain ⟨at_, a2, b2, ea, ea1, ea2⟩ := roll_spec a1 b1 (xs.length : Int) (by omega) (small_log (by omega))
          obtain ⟨way, a3, b3, ew, ew1, ew2⟩ := roll_spec a2 b2 10 (by decide) (small_log (by decide))
          have p1 : sPar 3 4 (cCons (cDef f_w_roll (cCons (cV 0) (cCons (cCall dLen (cCons (cV 1) cNil)) cNil))) (cCons (cDef f_w_roll (cCons (cV 0) (cCons (cC (.int (10))) cNil))) cNil)) [.fz .cup, .fz (.tup xs), .no, .no, .no] [a1, b1] = .ok (.nx, [.fz .cup, .fz (.tup xs), .no, .fz (.int at_), .fz (.int way)]) [a3, b3] := by
            simp [sPar, cCons, cNil, cDef, cV, cC, cCall, dLen, ea, ew]
          have pre : ∀ {d' : D} {e' : Ev} {c' : Cup}, (sSeq (sIf (cTb (cBin dLt (cV 4) (cC (.int (2)))))
  (sRet (cBin dAdd (cBin dAdd (cSl (cV 1) cNoPart (cPart (cV 3))) (cSl (cV 1) (cPart (cBin dAdd (cV 3) (cV 4))) cNoPart)) (cIf (cTb (cBin dEq (cV 4) (cC (.int (0))))) (cSl (cV 1) (cPart (cV 3)) (cPart (cBin dAdd (cV 3) (cC (.int (1)))))) (cTup cNil))))
  sNil)
  (sSeq (sIf (cTb (cBin dEq (cV 4) (cC (.int (2)))))
  (sRet (cCall dList (cCons (cV 1) cNil)))
  sNil)
  (sSeq (sIf (cTb (cBin dEq (cV 4) (cC (.int (3)))))
  (sRet (cUn dRev (cV 1)))
  sNil)
  (sRet (cBin dAdd (cBin dAdd (cSl (cV 1) cNoPart (cPart (cV 3))) (cTup (cCons (cDef (f_w_bent (n + 1)) (cCons (cV 0) (cCons (cBin dIx (cV 1) (cV 3)) cNil))) cNil))) (cSl (cV 1) (cPart (cBin dAdd (cV 3) (cC (.int (1))))) cNoPart)))))) [.fz .cup, .fz (.tup xs), .no, .fz (.int at_), .fz (.int way)] [a3, b3] = .ok (.ret d', e') c' → f_w_bent (n + 1 + 1) [.cup, .tup xs] [a, b] = .ok d' c' :=
            fun hr => run_ret (seq_nx (if_f ((tst (.tup xs) .no .no .no [a, b]).trans t2) rfl) (seq_nx p1 hr))
          have q1 : ∀ lo hi, (Hm.cutD xs lo hi).length ≤ 1000 := fun lo hi => Nat.le_trans (cut_len xs lo hi) hx.1
          have q2 : ∀ lo hi, ∀ y ∈ Hm.cutD xs lo hi, y ∈ xs := fun lo hi y hy => cut_mem hy
          by_cases w2 : way < 2
          · have l1 := q1 none (some at_)
            have l2 := q1 (some (at_ + way)) none
            have l3 := q1 (some at_) (some (at_ + 1))
            by_cases w0 : way = 0
            · refine ⟨.tup (Hm.cutD xs none (some at_) ++ Hm.cutD xs (some (at_ + way)) none ++ Hm.cutD xs (some at_) (some (at_ + 1))), a3, b3, pre (seq_ret (if_t (c' := [a3, b3]) ?_ (ret_ok (c' := [a3, b3]) ?_))), ?_⟩
              · simp [cTb, cBin, cV, cC, dLt, w2]
              · have s1 := add_tup (xs := Hm.cutD xs none (some at_)) (ys := Hm.cutD xs (some (at_ + way)) none) (by omega)
                have s2 := add_tup (xs := Hm.cutD xs none (some at_) ++ Hm.cutD xs (some (at_ + way)) none) (ys := Hm.cutD xs (some at_) (some (at_ + 1))) (by rw [List.length_append]; omega)
                have i1 : dAdd (.int at_) (.int way) = some (.int (at_ + way)) := rfl
                have i2 : dAdd (.int at_) (.int 1) = some (.int (at_ + 1)) := rfl
                simp only [cBin, cSl, cV, cNoPart, cPart, cIf, cTb, cC, dSl, dEq_int, decide_eq_true w0, bnd_ok, ofO_some, List.getElem?_cons_succ, List.getElem?_cons_zero, i1, i2, s1, s2, if_true]
              · refine mem_hp (xs := xs) (fun x hx2 => hp_mono (by omega) (hh x hx2)) fun y hy => ?_
                rcases List.mem_append.mp hy with hy | hy
                · rcases List.mem_append.mp hy with hy | hy
                  · exact q2 _ _ y hy
                  · exact q2 _ _ y hy
                · exact q2 _ _ y hy
            · refine ⟨.tup (Hm.cutD xs none (some at_) ++ Hm.cutD xs (some (at_ + way)) none ++ []), a3, b3, pre (seq_ret (if_t (c' := [a3, b3]) ?_ (ret_ok (c' := [a3, b3]) ?_))), ?_⟩
              · simp [cTb, cBin, cV, cC, dLt, w2]
              · have s1 := add_tup (xs := Hm.cutD xs none (some at_)) (ys := Hm.cutD xs (some (at_ + way)) none) (by omega)
                have s2 := add_tup (xs := Hm.cutD xs none (some at_) ++ Hm.cutD xs (some (at_ + way)) none) (ys := []) (by rw [List.length_append]; simp; omega)
                have i1 : dAdd (.int at_) (.int way) = some (.int (at_ + way)) := rfl
                simp only [cBin, cSl, cV, cNoPart, cPart, cIf, cTb, cC, cTup, cNil, dSl, dEq_int, decide_eq_false w0, hnil, bnd_ok, ofO_some, List.getElem?_cons_succ, List.getElem?_cons_zero, i1, s1, s2, if_true, Bool.false_eq_true, if_false]
              · refine mem_hp (xs := xs) (fun x hx2 => hp_mono (by omega) (hh x hx2)) fun y hy => ?_
                rw [List.append_nil] at hy
                rcases List.mem_append.mp hy with hy | hy
                · exact q2 _ _ y hy
                · exact q2 _ _ y hy
          · have f1 : cTb (cBin dLt (cV 4) (cC (.int (2)))) [.fz .cup, .fz (.tup xs), .no, .fz (.int at_), .fz (.int way)] [a3, b3] = .ok false [a3, b3] := by simp [cTb, cBin, cV, cC, dLt, w2]
            have f2 : ∀ j : Int, cTb (cBin dEq (cV 4) (cC (.int j))) [.fz .cup, .fz (.tup xs), .no, .fz (.int at_), .fz (.int way)] [a3, b3] = .ok (decide (way = j)) [a3, b3] := fun j => by simp [cTb, cBin, cV, cC]
            by_cases v2 : way = 2
            · refine ⟨.lst xs, a3, b3, pre (seq_nx (if_nil_f f1) (seq_ret (if_t ((f2 2).trans (by rw [decide_eq_true v2])) (ret_ok rfl)))), mem_hp (xs := xs) (fun x hx2 => hp_mono (by omega) (hh x hx2)) fun y hy => hy⟩
            · by_cases v3 : way = 3
              · refine ⟨.tup xs.reverse, a3, b3, pre (seq_nx (if_nil_f f1) (seq_nx (if_nil_f ((f2 2).trans (by rw [decide_eq_false v2]))) (seq_ret (if_t ((f2 3).trans (by rw [decide_eq_true v3])) (ret_ok rfl))))), mem_hp (xs := xs) (fun x hx2 => hp_mono (by omega) (hh x hx2)) fun y hy => List.mem_reverse.mp hy⟩
              · obtain ⟨x, ex1, ex2⟩ := atI_nat (xs := xs) ea1 ea2
                have hxm := List.mem_of_getElem? ex2
                obtain ⟨d', a4, b4, ed, hd⟩ := ih x a3 b3 (by omega) (hx.2 x hxm)
                have l1 := q1 none (some at_)
                have l2 := q1 (some (at_ + 1)) none
                refine ⟨.tup (Hm.cutD xs none (some at_) ++ [d'] ++ Hm.cutD xs (some (at_ + 1)) none), a4, b4, pre (seq_nx (if_nil_f f1) (seq_nx (if_nil_f ((f2 2).trans (by rw [decide_eq_false v2]))) (seq_nx (if_nil_f ((f2 3).trans (by rw [decide_eq_false v3]))) (ret_ok (c' := [a4, b4]) ?_)))), ?_⟩
                · have s1 := add_tup (xs := Hm.cutD xs none (some at_)) (ys := [d']) (by simp; omega)
                  have s2 := add_tup (xs := Hm.cutD xs none (some at_) ++ [d']) (ys := Hm.cutD xs (some (at_ + 1)) none) (by rw [List.length_append]; simp; omega)
                  have i1 : dAdd (.int at_) (.int 1) = some (.int (at_ + 1)) := rfl
                  have h1 : lenOk [d'] = true := rfl
                  have h3 : dIx (.tup xs) (.int at_) = some x := ex1
                  simp only [cBin, cSl, cV, cC, cNoPart, cPart, cTup, cCons, cNil, cDef, dSl, h1, h3, ed, bnd_ok, ofO_some, List.getElem?_cons_succ, List.getElem?_cons_zero, i1, s1, s2, if_true]
                · simp only [hp, List.all_eq_true]
                  intro y hy
                  rcases List.mem_append.mp hy with hy | hy
                  · rcases List.mem_append.mp hy with hy | hy
                    · exact hp_mono (by omega) (hh y (q2 _ _ y hy))
                    · rw [List.mem_singleton.mp hy]
                      exact hp_mono (by omega) hd
                  · exact hp_mono (by omega) (hh y (q2 _ _ y hy))
    · obtain ⟨d', a', b', e', e1, e2⟩ := branchA d a b (ok_pln h)
      refine ⟨d', a', b', run_ret (seq_ret (if_t (c' := [a, b]) ?_ e1)), hp_mono (by omega) e2⟩
      refine (tst d .no .no .no [a, b]).trans ?_
      cases d <;> first | rfl | (simp [ok] at h; done) | exact absurd ⟨_, rfl⟩ ht
end K54

set_option Elab.async false
set_option linter.all false
set_option maxRecDepth 100000
set_option maxHeartbeats 4000000
namespace K54
open PySem PySem.Spec PyProof.Rows L2 Hm
/-! ### the turns of _law_right -/
abbrev cfits : Ev → M (List D) := cComp [11, 12] (.tp [(.nm 11), (.nm 12)]) (cZip (cCons (cV 7) (cCons (cSl (cV 7) (cPart (cC (.int (1)))) cNoPart) cNil))) (cTb (cBin dLt (cBin dIx (cV 12) (cC (.int (1)))) (cBin dAdd (cBin dIx (cV 11) (cC (.int (1)))) (cC (.int (2)))))) (cC (.int (1)))
abbrev bR : MS := (sSeq (sSet 6 (cDef f_w_is_digits (cCons (cV 7) cNil)))
  (sSeq (sIf (cNotT (cTr (cDef (f_w_like 8) (cCons (cDef f_is_digits (cCons (cV 7) cNil)) (cCons (cV 6) cNil)))))
  (sRet (cC (.bl false)))
  sNil)
  (sSeq (sIf (cAndT (cTr (cV 6)) (cNotT (cTr (cDef (f_w_like 8) (cCons (cFz (cLst (cCons (cDef f_value_of (cCons (cV 7) cNil)) (cCons (cDef f_is_apart (cCons (cV 7) cNil)) cNil)))) (cCons (cFz (cLst (cCons (cDef f_w_value (cCons (cV 7) cNil)) (cCons (cBin dEq (cFz cfits) (cFz (cLst cNil))) cNil)))) cNil))))))
  (sRet (cC (.bl false)))
  sNil)
  (sSeq (sIf (cAndT (cNotT (cTr (cV 6))) (cTb (cBin dNe (cErr (wordOf tab_w_error) dfl_w_error (cDef f_value_of (cCons (cV 7) cNil))) (cC (.str "paper")))))
  (sRet (cC (.bl false)))
  sNil)
  (sIf (cAndT (cNotT (cTr (cV 6))) (cTb (cBin dNe (cErr (wordOf tab_w_error) dfl_w_error (cDef f_is_apart (cCons (cV 7) cNil))) (cC (.str "paper")))))
  (sRet (cC (.bl false)))
  sNil)))))
theorem all_filter {α : Type} (p : α → Bool) : ∀ l : List α, (l.filter fun x => !p x).isEmpty = l.all p
  | [] => rfl
  | x :: r => by
    rw [List.filter_cons, List.all_cons, ← all_filter p r]
    cases p x <;> rfl
theorem fits_list (l : List Dg) (x0 x1 x2 x3 x4 x5 x6 x8 x9 x10 x11 x12 : Sl) (c : Cup) (hl : l.length ≤ 82) :
    cBin dEq (cFz cfits) (cFz (cLst cNil)) [x0, x1, x2, x3, x4, x5, x6, .fz (toD l), x8, x9, x10, x11, x12] c = .ok (.bl (aptB l)) c := by
  have hz : cZip (cCons (cV 7) (cCons (cSl (cV 7) (cPart (cC (.int (1)))) cNoPart) cNil)) [x0, x1, x2, x3, x4, x5, x6, .fz (toD l), x8, x9, x10, x11, x12] c = .ok ((l.zip (l.drop 1)).map fun x => .tup [pr x.1, pr x.2]) c := by
    simp only [cV, cO, cC, cBin, cUn, cAnd, cOr, cTr, cNotT, cAndT, cOrT, cIf, cNil, cCons, cTup, cLst, cFz, cCupIx, cNoPart, cPart, cSl, cCall, cIsi, cItems, cRng1, cRng2, cZip, cComp, cYes, cDef, cChain, cTb, cCat, D.is, D.tru, dNot, dNeg, dCmpI, dSub, dMod, dLen, dAbs, dInt, dTuple, dList, dIx, itemsOf, bindT, bindTs, wipeE, noX, lenOk, rMaxLen, dSl, cut_one, bnd_ok, ofO_some, List.getElem?_cons_zero, List.getElem?_cons_succ, zipOf]
    rw [← List.map_drop, zip_prs]
  have hc := comp_ok (vs := [11, 12]) (tg := .tp [.nm 11, .nm 12]) (cond := (cTb (cBin dLt (cBin dIx (cV 12) (cC (.int (1)))) (cBin dAdd (cBin dIx (cV 11) (cC (.int (1)))) (cC (.int (2))))))) (el := cC (.int 1)) hz (by
    simp only [List.length_map, List.length_zip, List.length_drop]
    omega) (compL_pure (p := fun d => match d with | .tup [.tup [_, .int a], .tup [_, .int b]] => decide (b < a + 2) | _ => false) (v := fun _ => .int 1) fun d hd => by
      obtain ⟨x, _, rfl⟩ := List.mem_map.mp hd
      refine ⟨_, rfl, ?_, fun _ => rfl⟩
      simp [wipeE, cTb, cBin, cV, cC, dIx, at1, dLt, dAdd])
  have hnil : lenOk [] = true := rfl
  have he : ∀ xs : List (Dg × Dg), dEq (.lst (List.map (fun _ : D => D.int 1) (List.filter (fun d : D => (match d with | .tup [.tup [_, .int a], .tup [_, .int b]] => decide (b < a + 2) | _ => false)) (xs.map fun x => .tup [pr x.1, pr x.2])))) (.lst []) = some (.bl (xs.all fun x => decide (2 ≤ x.2.2 - x.1.2))) ∨ 1000 < xs.length := by
    intro xs
    by_cases hx : xs.length ≤ 1000
    · left
      rw [List.filter_map, List.map_map]
      have e0 : (List.filter ((fun d : D => (match d with | .tup [.tup [_, .int a], .tup [_, .int b]] => decide (b < a + 2) | _ => false)) ∘ fun x : Dg × Dg => .tup [pr x.1, pr x.2]) xs) = xs.filter fun x => !decide (2 ≤ x.2.2 - x.1.2) := by
        apply List.filter_congr
        intro x _
        show decide (x.2.2 < x.1.2 + 2) = !decide (2 ≤ x.2.2 - x.1.2)
        by_cases h : x.2.2 < x.1.2 + 2
        · rw [decide_eq_true h, decide_eq_false (by omega)]; rfl
        · rw [decide_eq_false h, decide_eq_true (by omega)]; rfl
      rw [e0]
      have hlen : (xs.filter fun x => !decide (2 ≤ x.2.2 - x.1.2)).length ≤ 1000 := Nat.le_trans (List.length_filter_le _ _) hx
      rw [← all_filter]
      generalize (xs.filter fun x => !decide (2 ≤ x.2.2 - x.1.2)) = ys at hlen ⊢
      rw [dEq_ok (n := 1) (by omega) (by
        simp only [ok, List.length_map, List.all_map, Bool.and_eq_true, decide_eq_true_eq, List.all_eq_true]
        exact ⟨hlen, fun _ _ => rfl⟩) rfl]
      cases ys <;> rfl
    · right
      omega
  rcases he (l.zip (l.drop 1)) with he | he
  · simp only [cBin, cFz, hc, bnd_ok, cLst, cNil, hnil, if_true, he, ofO_some]
    rfl
  · simp only [List.length_zip, List.length_drop] at he
    omega
theorem turnR (d : D) (x0 x1 x2 x3 x4 x5 x6 x8 x9 x10 x11 x12 : Sl) (c : Cup) (h : pl3 d) :
    bR [x0, x1, x2, x3, x4, x5, x6, .fz d, x8, x9, x10, x11, x12] c = .ok (.nx, [x0, x1, x2, x3, x4, x5, .fz (.bl (isDig d)), .fz d, x8, x9, x10, x11, x12]) c := by
  have e1 := w_is_digits_spec d c h
  have e2 := is_digits_spec d c h
  have s1 : sSet 6 (cDef f_w_is_digits (cCons (cV 7) cNil)) [x0, x1, x2, x3, x4, x5, x6, .fz d, x8, x9, x10, x11, x12] c = .ok (.nx, [x0, x1, x2, x3, x4, x5, .fz (.bl (isDig d)), .fz d, x8, x9, x10, x11, x12]) c :=
    (set_ok (d := .bl (isDig d)) (c' := c) (by simp [cDef, cCons, cNil, cV, e1])).trans rfl
  have l1 := like_refl 7 (.bl (isDig d)) (by omega) rfl c
  have t1 : (cNotT (cTr (cDef (f_w_like 8) (cCons (cDef f_is_digits (cCons (cV 7) cNil)) (cCons (cV 6) cNil))))) [x0, x1, x2, x3, x4, x5, .fz (.bl (isDig d)), .fz d, x8, x9, x10, x11, x12] c = .ok false c := by
    simp [cNotT, cTr, cDef, cCons, cNil, cV, e2, l1, D.tru]
  have f6 : cTr (cV 6) [x0, x1, x2, x3, x4, x5, .fz (.bl (isDig d)), .fz d, x8, x9, x10, x11, x12] c = .ok (isDig d) c := by simp [cTr, cV, D.tru]
  have v7 : cCons (cV 7) cNil [x0, x1, x2, x3, x4, x5, .fz (.bl (isDig d)), .fz d, x8, x9, x10, x11, x12] c = .ok [d] c := rfl
  refine seq_nx s1 (seq_nx (if_nil_f t1) ?_)
  cases hd : isDig d with
  | true =>
    rw [hd] at f6 v7
    obtain ⟨l, rfl, hl, hg⟩ := isDig_list hd
    have a1 := value_ok l c hl hg
    have a2 := is_apart_ok l c hl hg
    have a3 := w_value_spec l c hg
    have a4 := fits_list l x0 x1 x2 x3 x4 x5 (.fz (.bl true)) x8 x9 x10 x11 x12 c hl
    have l2 := like_refl 7 (.lst [.int (sumD l), .bl (aptB l)]) (by omega) rfl c
    have hl2 : lenOk [.int (sumD l), .bl (aptB l)] = true := rfl
    have t2 : (cNotT (cTr (cDef (f_w_like 8) (cCons (cFz (cLst (cCons (cDef f_value_of (cCons (cV 7) cNil)) (cCons (cDef f_is_apart (cCons (cV 7) cNil)) cNil)))) (cCons (cFz (cLst (cCons (cDef f_w_value (cCons (cV 7) cNil)) (cCons (cBin dEq (cFz cfits) (cFz (cLst cNil))) cNil)))) cNil))))) [x0, x1, x2, x3, x4, x5, .fz (.bl true), .fz (toD l), x8, x9, x10, x11, x12] c = .ok false c := by
      have b1 : cDef f_value_of (cCons (cV 7) cNil) [x0, x1, x2, x3, x4, x5, .fz (.bl true), .fz (toD l), x8, x9, x10, x11, x12] c = .ok (.int (sumD l)) c := by unfold cDef; rw [v7]; exact a1
      have b2 : cDef f_is_apart (cCons (cV 7) cNil) [x0, x1, x2, x3, x4, x5, .fz (.bl true), .fz (toD l), x8, x9, x10, x11, x12] c = .ok (.bl (aptB l)) c := by unfold cDef; rw [v7]; exact a2
      have b3 : cDef f_w_value (cCons (cV 7) cNil) [x0, x1, x2, x3, x4, x5, .fz (.bl true), .fz (toD l), x8, x9, x10, x11, x12] c = .ok (.int (sumD l)) c := by unfold cDef; rw [v7]; exact a3
      have q1 : ∀ {f g : Ev → M D} {e : Ev} {p q : D}, f e c = .ok p c → g e c = .ok q c → lenOk [p, q] = true → cFz (cLst (cCons f (cCons g cNil))) e c = .ok (.lst [p, q]) c := fun h1 h2 h3 => by
        simp only [cFz, cLst, cCons, cNil, h1, h2, bnd_ok, h3, if_true]
      have r1 := q1 b1 b2 hl2
      have r2 := q1 b3 a4 hl2
      have r3 : cDef (f_w_like 8) (cCons (cFz (cLst (cCons (cDef f_value_of (cCons (cV 7) cNil)) (cCons (cDef f_is_apart (cCons (cV 7) cNil)) cNil)))) (cCons (cFz (cLst (cCons (cDef f_w_value (cCons (cV 7) cNil)) (cCons (cBin dEq (cFz cfits) (cFz (cLst cNil))) cNil)))) cNil)) [x0, x1, x2, x3, x4, x5, .fz (.bl true), .fz (toD l), x8, x9, x10, x11, x12] c = .ok (.bl true) c := def_ok (cons_ok r1 (cons_ok r2 nil_ok)) l2
      unfold cNotT cTr
      rw [r3]
      rfl
    have t3 : ∀ g, cAndT (cNotT (cTr (cV 6))) g [x0, x1, x2, x3, x4, x5, .fz (.bl true), .fz (toD l), x8, x9, x10, x11, x12] c = .ok false c := fun g => by
      unfold cAndT cNotT
      rw [f6]
      rfl
    refine seq_nx (if_nil_f (c' := c) ?_) (seq_nx (if_nil_f (t3 _)) (if_nil_f (t3 _)))
    unfold cAndT
    rw [f6]
    exact t2
  | false =>
    rw [hd] at f6 v7
    have a1 := value_bad d c h hd
    have a2 := apart_bad d c h hd
    have hw : wordOf tab_w_error ("InvalidPaper" : Str) = some ("paper" : Str) := by decide +kernel
    have hne : dNe (.str ("paper" : Str)) (.str ("paper" : Str)) = some (.bl false) := by
      rw [dNe_ok (n := 0) (by omega) (by decide +kernel) (by decide +kernel)]
      rw [eqv_refl 0 (.str ("paper" : Str)) (by decide +kernel)]
      rfl
    have t4 : ∀ f : Fn, f [d] c = .exc { nm := "InvalidPaper" } c → cAndT (cNotT (cTr (cV 6))) (cTb (cBin dNe (cErr (wordOf tab_w_error) dfl_w_error (cDef f (cCons (cV 7) cNil))) (cC (.str "paper")))) [x0, x1, x2, x3, x4, x5, .fz (.bl false), .fz d, x8, x9, x10, x11, x12] c = .ok false c := fun f hf => by
      have b1 : cErr (wordOf tab_w_error) dfl_w_error (cDef f (cCons (cV 7) cNil)) [x0, x1, x2, x3, x4, x5, .fz (.bl false), .fz d, x8, x9, x10, x11, x12] c = .ok (.str "paper") c := by
        have b0 : cDef f (cCons (cV 7) cNil) [x0, x1, x2, x3, x4, x5, .fz (.bl false), .fz d, x8, x9, x10, x11, x12] c = .exc { nm := "InvalidPaper" } c := by unfold cDef; rw [v7]; exact hf
        simp only [cErr, b0, hw]
      unfold cAndT cNotT
      rw [f6]
      simp only [bnd_ok, Bool.not_false, if_true, cTb, cBin, b1, cC, hne, ofO_some]
    refine seq_nx (if_nil_f (c' := c) ?_) (seq_nx (if_nil_f (t4 _ a1)) (if_nil_f (t4 _ a2)))
    unfold cAndT
    rw [f6]
    rfl
theorem loopR (x0 x1 x2 x3 x4 x5 x8 x9 x10 x11 x12 : Sl) (c : Cup) : ∀ (ds : List D) (x6 x7 : Sl), (∀ d ∈ ds, pl3 d) → ∃ e', forL (.nm 7) bR ds [x0, x1, x2, x3, x4, x5, x6, x7, x8, x9, x10, x11, x12] c = .ok (.nx, e') c
  | [], _, _, _ => ⟨_, rfl⟩
  | d :: ds, x6, x7, h => by
    obtain ⟨e', e⟩ := loopR x0 x1 x2 x3 x4 x5 x8 x9 x10 x11 x12 c ds (.fz (.bl (isDig d))) (.fz d) fun y hy => h y (List.mem_cons_of_mem _ hy)
    exact ⟨e', forL_nx rfl (turnR d x0 x1 x2 x3 x4 x5 x6 x8 x9 x10 x11 x12 c (h d List.mem_cons_self)) e⟩
end K54

set_option Elab.async false
set_option linter.all false
set_option maxRecDepth 100000
set_option maxHeartbeats 4000000
namespace K54
open PySem PySem.Spec PyProof.Rows L2 Hm
theorem bents (l : List Dg) (hk : ok 7 (toD l) = true) (x1 x3 x4 x5 x6 x7 x8 x9 x11 x12 : Sl) : ∀ (ds : List D) (a b : Int) (x10 : Sl), ∃ xs a' b',
    compL (.nm 10) cYes (cDef (f_w_bent 8) (cCons (cV 0) (cCons (cV 2) cNil))) [.fz .cup, x1, .fz (toD l), x3, x4, x5, x6, x7, x8, x9, x10, x11, x12] ds [a, b] = .ok xs [a', b'] ∧ xs.length = ds.length ∧ ∀ x ∈ xs, hp 9 x = true
  | [], a, b, _ => ⟨[], a, b, rfl, rfl, by simp⟩
  | d :: ds, a, b, x10 => by
    obtain ⟨d', a1, b1, e1, h1⟩ := bent_spec 7 (toD l) a b (by omega) hk
    obtain ⟨xs, a', b', e2, h2, h3⟩ := bents l hk x1 x3 x4 x5 x6 x7 x8 x9 x11 x12 ds a1 b1 x10
    refine ⟨d' :: xs, a', b', compL_t (e2 := [.fz .cup, x1, .fz (toD l), x3, x4, x5, x6, x7, x8, x9, .fz d, x11, x12]) rfl rfl (def_ok (cons_ok (v_ok rfl) (cons_ok (v_ok rfl) nil_ok)) e1) e2, by simp [h2], ?_⟩
    intro x hx
    rcases List.mem_cons.mp hx with rfl | hx
    · exact h1
    · exact h3 x hx
theorem toD_ok (l : List Dg) (h : l.length ≤ 100) (n : Nat) : ok (n + 2) (toD l) = true := by
  simp only [ok, List.length_map, Bool.and_eq_true, decide_eq_true_eq, List.all_eq_true]
  refine ⟨by omega, fun x hx => ?_⟩
  obtain ⟨y, _, rfl⟩ := List.mem_map.mp hx
  cases n <;> rfl
theorem right_spec (n : Int) (hn : -G ≤ n ∧ n ≤ G) (a b : Int) : ∃ a' b', f_w_right [.cup, .int n] [a, b] = .ok (.bl true) [a', b'] := by
  generalize hl : digs 81 0 n = l
  have hN : n.natAbs ≤ 2 ^ 80 := by
    have : (2 : Nat) ^ 80 = 1208925819614629174706176 := by decide +kernel
    rw [this]
    have h1 : -1208925819614629174706176 ≤ n := hn.1
    have h2 : n ≤ 1208925819614629174706176 := hn.2
    omega
  have hn' : -G ≤ -n ∧ -n ≤ G := by
    have h1 : -1208925819614629174706176 ≤ n := hn.1
    have h2 : n ≤ 1208925819614629174706176 := hn.2
    exact ⟨show -1208925819614629174706176 ≤ -n by omega, show -n ≤ 1208925819614629174706176 by omega⟩
  have hlen : l.length ≤ 81 := by rw [← hl]; exact digs_len 81 0 n
  have hg2 : good 2 82 0 l := by
    have := (digs_good 81 0 n).1
    rw [hl] at this
    exact good_hi (by decide) this
  have hg : good 1 82 0 l := good_gap (by decide) hg2
  have hng : digs 81 0 (-n) = ng l := by rw [digs_neg, hl]
  have hgn2 : good 2 82 0 (ng l) := by
    have := (digs_good 81 0 (-n)).1
    rw [hng] at this
    exact good_hi (by decide) this
  have hgn : good 1 82 0 (ng l) := good_gap (by decide) hgn2
  have hlenn : (ng l).length = l.length := by unfold ng; rw [List.length_map]
  have hsum : sumD l = n := by
    have := sum_digs 80 0 n hN
    rw [hl] at this
    simpa using this
  have hsumn : sumD (ng l) = -n := by rw [sumD_ng, hsum]
  have c0 := bits_spec n [a, b] hN
  rw [hl] at c0
  have c1 := signed_ok n [a, b] hn
  rw [hl] at c1
  have c2 := signed_ok (-n) [a, b] hn'
  rw [hng] at c2
  have c3 := value_ok l [a, b] (by omega) hg
  rw [hsum] at c3
  have c4 := value_ok (ng l) [a, b] (by omega) hgn
  rw [hsumn] at c4
  have c5 := fewest_ok n [a, b] hn
  rw [hl] at c5
  have c6 := is_apart_ok l [a, b] (by omega) hg
  rw [apt_good l 0 hg2] at c6
  have c7 := is_digits_spec (toD l) [a, b] (toD_pl3 l)
  rw [dig_list (by omega) hg] at c7
  -- own, turned
  have s1 : sSet 2 (cDef f_w_bits (cCons (cV 1) cNil)) (startE 13 [.cup, .int n]) [a, b] = .ok (.nx, [.fz .cup, .fz (.int n), .fz (toD l), .no, .no, .no, .no, .no, .no, .no, .no, .no, .no]) [a, b] :=
    (set_ok (def_ok (cons_ok (v_ok rfl) nil_ok) c0)).trans rfl
  have hc := comp_ok (vs := [8, 9]) (tg := .tp [.nm 8, .nm 9]) (it := cItems (cV 2)) (cond := cYes) (el := cTup (cCons (cUn dNeg (cV 8)) (cCons (cV 9) cNil))) (env := [.fz .cup, .fz (.int n), .fz (toD l), .no, .no, .no, .no, .no, .no, .no, .no, .no, .no]) (c := [a, b]) (ds := l.map pr) (c' := [a, b]) rfl (by rw [List.length_map]; omega)
    (compL_pure (p := fun _ => true) (v := fun d => match d with | .tup [.int s, q] => .tup [.int (-s), q] | _ => .non) fun d hd => by
      obtain ⟨x, _, rfl⟩ := List.mem_map.mp hd
      exact ⟨_, rfl, rfl, fun _ => tup_ok (cons_ok (un_ok (v_ok rfl) rfl) (cons_ok (v_ok rfl) nil_ok)) (by simp)⟩)
  rw [List.filter_eq_self.mpr (fun _ _ => rfl), List.map_map] at hc
  have e2 : (l.map ((fun d : D => (match d with | .tup [.int s, q] => D.tup [.int (-s), q] | _ => .non)) ∘ pr)) = (ng l).map pr := by
    unfold ng
    rw [List.map_map]
    rfl
  rw [e2] at hc
  have s2 : sSet 3 (cCall dTuple (cCons (cFz (cComp [8, 9] (.tp [(.nm 8), (.nm 9)]) (cItems (cV 2)) cYes (cTup (cCons (cUn dNeg (cV 8)) (cCons (cV 9) cNil))))) cNil)) [.fz .cup, .fz (.int n), .fz (toD l), .no, .no, .no, .no, .no, .no, .no, .no, .no, .no] [a, b] = .ok (.nx, [.fz .cup, .fz (.int n), .fz (toD l), .fz (toD (ng l)), .no, .no, .no, .no, .no, .no, .no, .no, .no]) [a, b] :=
    (set_ok (call_ok (cons_ok (fz_ok hc) nil_ok) rfl)).trans rfl
  generalize hE : ([.fz .cup, .fz (.int n), .fz (toD l), .fz (toD (ng l)), .no, .no, .no, .no, .no, .no, .no, .no, .no] : Ev) = E at s2
  have v1 : cV 1 E [a, b] = .ok (.int n) [a, b] := v_ok (by rw [← hE]; rfl)
  have v2 : cV 2 E [a, b] = .ok (toD l) [a, b] := v_ok (by rw [← hE]; rfl)
  have v3 : cV 3 E [a, b] = .ok (toD (ng l)) [a, b] := v_ok (by rw [← hE]; rfl)
  have told := lst_ok (g := (cCons (cDef f_signed (cCons (cV 1) cNil)) (cCons (cDef f_signed (cCons (cUn dNeg (cV 1)) cNil)) (cCons (cDef f_value_of (cCons (cV 2) cNil)) (cCons (cDef f_value_of (cCons (cV 3) cNil)) (cCons (cDef f_fewest (cCons (cV 1) cNil)) (cCons (cDef f_is_apart (cCons (cV 2) cNil)) (cCons (cDef f_is_digits (cCons (cV 2) cNil)) cNil)))))))) (cons_ok (def_ok (cons_ok v1 nil_ok) c1) (cons_ok (def_ok (cons_ok (un_ok v1 rfl) nil_ok) c2) (cons_ok (def_ok (cons_ok v2 nil_ok) c3) (cons_ok (def_ok (cons_ok v3 nil_ok) c4) (cons_ok (def_ok (cons_ok v1 nil_ok) c5) (cons_ok (def_ok (cons_ok v2 nil_ok) c6) (cons_ok (def_ok (cons_ok v2 nil_ok) c7) nil_ok))))))) (by simp)
  have s3 := set_ok (i := 4) told
  generalize hT : D.lst [toD l, toD (ng l), .int n, .int (-n), .int (l.length : Int), .bl true, .bl true] = T at s3 told
  have hokT : ok 7 T = true := by
    rw [← hT]
    have k1 := toD_ok l (by omega) 4
    have k2 := toD_ok (ng l) (by omega) 4
    simp only [ok, List.all_cons, List.all_nil, List.length_cons, List.length_nil, Bool.and_eq_true, decide_eq_true_eq] at k1 k2 ⊢
    exact ⟨by omega, k1, k2, trivial, trivial, trivial, trivial, trivial, trivial⟩
  generalize hE2 : E.set 4 (.fz T) = E2 at s3
  have hE2' : E2 = [.fz .cup, .fz (.int n), .fz (toD l), .fz (toD (ng l)), .fz T, .no, .no, .no, .no, .no, .no, .no, .no] := by rw [← hE2, ← hE]; rfl
  have w1 : cV 1 E2 [a, b] = .ok (.int n) [a, b] := v_ok (by rw [hE2']; rfl)
  have w2 : cV 2 E2 [a, b] = .ok (toD l) [a, b] := v_ok (by rw [hE2']; rfl)
  have w3 : cV 3 E2 [a, b] = .ok (toD (ng l)) [a, b] := v_ok (by rw [hE2']; rfl)
  have w4 : cV 4 E2 [a, b] = .ok T [a, b] := v_ok (by rw [hE2']; rfl)
  have hlenD : dLen [toD l] = some (.int (l.length : Int)) := by
    show some (D.int ((l.map pr).length : Int)) = _
    rw [List.length_map]
  have own := lst_ok (g := (cCons (cV 2) (cCons (cV 3) (cCons (cV 1) (cCons (cUn dNeg (cV 1)) (cCons (cCall dLen (cCons (cV 2) cNil)) (cCons (cC (.bl true)) (cCons (cC (.bl true)) cNil)))))))) (cons_ok w2 (cons_ok w3 (cons_ok w1 (cons_ok (un_ok w1 rfl) (cons_ok (call_ok (cons_ok w2 nil_ok) hlenD) (cons_ok (d := .bl true) rfl (cons_ok (d := .bl true) rfl nil_ok))))))) (by simp)
  rw [hT] at own
  have t4 := notT_ok (tr_ok (def_ok (fn := f_w_like 8) (cons_ok w4 (cons_ok own nil_ok)) (like_refl 7 T (by omega) hokT [a, b])))
  -- the values
  obtain ⟨xs, a', b', e5, h5, h6⟩ := bents l (toD_ok l (by omega) 5) (.fz (.int n)) (.fz (toD (ng l))) (.fz T) .no .no .no .no .no .no .no (rangeD 0 8) a b .no
  have hc2 := comp_ok (vs := [10]) (tg := .nm 10) (it := cRng1 (cCons (cC (.int (8))) cNil)) (cond := cYes) (el := cDef (f_w_bent 8) (cCons (cV 0) (cCons (cV 2) cNil))) (env := E2) (c := [a, b]) (ds := rangeD 0 8) (c' := [a, b]) (rng1_ok (i := 8) rfl (small_int (by decide) (by decide))) (by decide) (by rw [hE2']; exact e5)
  have hx8 : xs.length = 8 := by rw [h5]; rfl
  have hfix : ∀ (e : Ev) (c : Cup), ∃ ys : List D, (cFz (cLst (cCons (cTup (cCons (cTup (cCons (cC (.int (0))) (cCons (cC (.int (1))) cNil))) cNil)) (cCons (cTup (cCons (cTup (cCons (cC (.int (1))) (cCons (cUn dNeg (cC (.int (1)))) cNil))) cNil)) (cCons (cTup (cCons (cTup (cCons (cC (.int (1))) (cCons (cC (.int (82))) cNil))) cNil)) (cCons (cTup (cCons (cTup (cCons (cC (.int (1))) (cCons (cC (.int (81))) cNil))) cNil)) (cCons (cFz (cLst (cCons (cTup (cCons (cC (.int (1))) (cCons (cC (.int (0))) cNil))) cNil))) (cCons (cTup (cCons (cTup (cCons (cC (.bl true)) (cCons (cC (.int (0))) cNil))) cNil)) (cCons (cTup (cCons (cTup (cCons (cC (.int (1))) (cCons (cC (.int (3))) cNil))) (cCons (cTup (cCons (cC (.int (1))) (cCons (cC (.int (3))) cNil))) cNil))) (cCons (cTup (cCons (cTup (cCons (cC (.int (1))) (cCons (cC (.int (3))) cNil))) (cCons (cTup (cCons (cUn dNeg (cC (.int (1)))) (cCons (cC (.int (4))) cNil))) cNil))) cNil)))))))))) e c = .ok (.lst ys) c ∧ ys.length = 8 ∧ ys.all (hp 9) = true := fun e c => ⟨_, rfl, rfl, rfl⟩
  obtain ⟨ys, f1, f2, f3⟩ := hfix E2 [a', b']
  have s5 := set_ok (i := 5) (bin_ok (op := dAdd) (fz_ok hc2) f1 (add_lst (xs := xs) (ys := ys) (by rw [hx8, f2]; decide)))
  have hall : ∀ d ∈ xs ++ ys, pl3 d := fun d hd => by
    rcases List.mem_append.mp hd with z | z
    · exact hp_pl3 (h6 d z)
    · exact hp_pl3 (List.all_eq_true.mp f3 d z)
  obtain ⟨e', e6⟩ := loopR (.fz .cup) (.fz (.int n)) (.fz (toD l)) (.fz (toD (ng l))) (.fz T) (.fz (.lst (xs ++ ys))) .no .no .no .no .no [a', b'] (xs ++ ys) .no .no hall
  refine ⟨a', b', run_ret (seq_nx s1 (seq_nx s2 (seq_nx s3 (seq_nx (if_nil_f t4) (seq_nx s5 (seq_nx (e' := e') (c' := [a', b']) (for_ok (ds := xs ++ ys) (c' := [a', b']) ?_ ?_) (ret_ok rfl)))))))⟩
  · rw [hE2']; rfl
  · rw [hE2']; exact e6
end K54

set_option Elab.async false
set_option linter.all false
set_option maxRecDepth 100000
set_option maxHeartbeats 4000000
namespace K54
open PySem PySem.Spec PyProof.Rows L2 Hm
theorem pow_ok {i j : Int} (h0 : 0 ≤ j) (h1 : j ≤ 1000000) (h2 : i.natAbs < 2 ^ 64) : dPow (.int i) (.int j) = some (.int (i ^ j.toNat)) := by
  show (if 0 ≤ j ∧ j ≤ 1000000 ∧ i.natAbs < 2 ^ 64 then some (D.int (i ^ j.toNat)) else none) = _
  rw [if_pos ⟨h0, h1, h2⟩]
theorem mul_ok {i j : Int} (h : mulOk i j = true) : dMul (.int i) (.int j) = some (.int (i * j)) := by
  show (if mulOk i j = true then some (D.int (i * j)) else none) = _
  rw [if_pos h]
theorem mulOk_l {i j : Int} (h : i.natAbs < 18446744073709551616) : mulOk i j = true := by
  unfold mulOk
  rw [Bool.or_eq_true, Bool.or_eq_true, decide_eq_true_eq]
  exact .inl (.inl h)
theorem mulOk_r {i j : Int} (h : j.natAbs < 18446744073709551616) : mulOk i j = true := by
  unfold mulOk
  rw [Bool.or_eq_true, Bool.or_eq_true, decide_eq_true_eq, decide_eq_true_eq]
  exact .inl (.inr h)
theorem mod_ok {i j : Int} (h : 0 < j) : dMod (.int i) (.int j) = some (.int (i % j)) := by
  show (if 0 < j then some (D.int (i % j)) else none) = _
  rw [if_pos h]
theorem if_ok {α : Type} {t : Ev → M Bool} {f g : Ev → M α} {env : Ev} {c : Cup} {b : Bool} {rr : Res α} (h1 : t env c = .ok b c) (h2 : (if b = true then f env c else g env c) = rr) : cIf t f g env c = rr := by
  unfold cIf
  rw [h1]
  exact h2
/-! ### the draws' state -/
theorem cup_spec (ns : List Int) (h : ns.length ≤ 63) (c : Cup) : ∃ x y, f_w_cup [.scr ns] c = .ok (.lst [.int x, .int y]) c := by
  obtain ⟨v, hv⟩ : ∃ v : Int, atI (ns.map D.int ++ [.int 0]) 0 = some (.int v) := by
    cases ns with
    | nil => exact ⟨0, rfl⟩
    | cons n r =>
      refine ⟨n, ?_⟩
      obtain ⟨d, e1, e2⟩ := atI_nat (xs := (n :: r).map D.int ++ [.int 0]) (i := 0) (by decide) (by simp; omega)
      rw [e1]
      simpa using e2.symm
  have hab : ∃ w : Int, dAbs [.int v] = some (.int w) := ⟨_, rfl⟩
  obtain ⟨w, hw⟩ := hab
  have s1 : sSet 1 (cCall dAbs (cCons (cBin dIx (cBin dAdd (cCall dList (cCons (cV 0) cNil)) (cFz (cLst (cCons (cC (.int (0))) cNil)))) (cC (.int (0)))) cNil)) (startE 2 [.scr ns]) c = .ok (.nx, [.fz (.scr ns), .fz (.int w)]) c :=
    (set_ok (call_ok (cons_ok (bin_ok (bin_ok (call_ok (cons_ok (v_ok rfl) nil_ok) (d := .lst (ns.map D.int)) rfl) (lst_ok (cons_ok (d := .int 0) rfl nil_ok) (by decide)) (add_lst (by simp; omega))) (y := .int 0) rfl hv) nil_ok) hw)).trans rfl
  have t1 : cTb (cBin (dCmpI fun i j => decide (j ≤ i)) (cV 1) (cBin dPow (cC (.int (10))) (cC (.int (18))))) [.fz (.scr ns), .fz (.int w)] c = .ok (decide ((10 : Int) ^ (18 : Int).toNat ≤ w)) c :=
    tb_ok (bin_ok (v_ok rfl) (bin_ok (x := .int 10) (y := .int 18) rfl rfl (pow_ok (by decide) (by decide) (by decide))) rfl)
  have d1 : dDiv (.int w) (.int 113) = some (.int (w / 113)) := dDiv_ok (by decide) (small_log (by decide))
  have e1 : ∃ x, cIf (cTb (cBin (dCmpI fun i j => decide (j ≤ i)) (cV 1) (cBin dPow (cC (.int (10))) (cC (.int (18)))))) (cBin dDiv (cV 1) (cC (.int (113)))) (cC (.int (0))) [.fz (.scr ns), .fz (.int w)] c = .ok (.int x) c := by
    cases hb : decide ((10 : Int) ^ (18 : Int).toNat ≤ w) with
    | true =>
      rw [hb] at t1
      exact ⟨w / 113, if_ok t1 (bin_ok (v_ok rfl) (y := .int 113) rfl d1)⟩
    | false =>
      rw [hb] at t1
      exact ⟨0, if_ok t1 rfl⟩
  obtain ⟨x, e1⟩ := e1
  refine ⟨x, (w * 367 + 5347) % 1994132857 + 241, run_ret (seq_nx s1 (ret_ok (lst_ok (cons_ok e1 (cons_ok ?_ nil_ok)) (by simp))))⟩
  refine bin_ok (bin_ok (call_ok (cons_ok (bin_ok (bin_ok (v_ok rfl) (y := .int 367) rfl (mul_ok (mulOk_r (by decide)))) (y := .int 5347) rfl rfl) nil_ok) rfl) (y := .int 1994132857) rfl (mod_ok (by decide))) (y := .int 241) rfl rfl
/-! ### the law -/
abbrev eR : Ev → M D := cBin dMul (cDef f_w_roll (cCons (cV 1) (cCons (cDef f_w_two (cCons (cV 5) cNil)) cNil))) (cDef f_w_some (cCons (cV 1) (cCons (cFz (cLst (cCons (cC (.int (1))) (cCons (cUn dNeg (cC (.int (1)))) cNil)))) cNil)))
theorem sizes (x0 x2 x3 x4 x6 : Sl) : ∀ (ks : List Int) (a b : Int) (x5 : Sl), (∀ k ∈ ks, 0 ≤ k ∧ k ≤ 30) → ∃ (ns : List Int) (a' b' : Int),
    compL (.nm 5) cYes eR [x0, .fz .cup, x2, x3, x4, x5, x6] (ks.map D.int) [a, b] = .ok (ns.map D.int) [a', b'] ∧ ns.length = ks.length ∧ ∀ n ∈ ns, -G ≤ n ∧ n ≤ G
  | [], a, b, _, _ => ⟨[], a, b, rfl, rfl, by simp⟩
  | k :: ks, a, b, x5, h => by
    obtain ⟨k0, k1⟩ := h k List.mem_cons_self
    have hw := w_two_spec (i := k) k0 (by omega) [a, b]
    have hp := pow_pos2 k.toNat
    have hle : (2 : Int) ^ k.toNat ≤ 1073741824 := by
      have : (2 : Nat) ^ k.toNat ≤ 2 ^ 30 := Nat.pow_le_pow_right (by decide) (by omega)
      have e : ((2 ^ k.toNat : Nat) : Int) = (2 : Int) ^ k.toNat := by simp
      have e30 : (2 : Nat) ^ 30 = 1073741824 := by decide
      omega
    obtain ⟨r, a1, b1, e1, r0, r1⟩ := roll_spec a b (2 ^ k.toNat) hp (log2_pow _ (by omega))
    obtain ⟨d, a2, b2, e2, hd⟩ := some_spec a1 b1 [.int 1, .int (-1)] (by simp) (by decide)
    obtain ⟨s, rfl, hs⟩ : ∃ s : Int, d = .int s ∧ (s = 1 ∨ s = -1) := by
      simp only [List.mem_cons, List.mem_nil_iff, or_false] at hd
      rcases hd with rfl | rfl
      · exact ⟨1, rfl, .inl rfl⟩
      · exact ⟨-1, rfl, .inr rfl⟩
    obtain ⟨ns, a', b', e3, h2, h3⟩ := sizes x0 x2 x3 x4 x6 ks a2 b2 x5 fun y hy => h y (List.mem_cons_of_mem _ hy)
    have hel : eR [x0, .fz .cup, x2, x3, x4, .fz (.int k), x6] [a, b] = .ok (.int (r * s)) [a2, b2] :=
      bin_ok (def_ok (cons_ok (v_ok rfl) (cons_ok (def_ok (cons_ok (v_ok rfl) nil_ok) hw) nil_ok)) e1) (def_ok (cons_ok (v_ok rfl) (cons_ok (lst_ok (cons_ok (d := .int 1) rfl (cons_ok (d := .int (-1)) rfl nil_ok)) (by decide)) nil_ok)) e2) (mul_ok (mulOk_r (by omega)))
    refine ⟨r * s :: ns, a', b', compL_t (e2 := [x0, .fz .cup, x2, x3, x4, .fz (.int k), x6]) rfl rfl hel e3, by simp [h2], ?_⟩
    intro n hn
    rcases List.mem_cons.mp hn with rfl | hn
    · show -1208925819614629174706176 ≤ r * s ∧ r * s ≤ 1208925819614629174706176
      rcases hs with rfl | rfl <;> omega
    · exact h3 n hn
abbrev cR : Ev → M Bool := cNotT (cTr (cDef f_w_right (cCons (cV 1) (cCons (cV 6) cNil))))
theorem rights (x0 x2 x3 x4 x5 : Sl) : ∀ (ns : List Int) (a b : Int) (x6 : Sl), (∀ n ∈ ns, -G ≤ n ∧ n ≤ G) → ∃ a' b', compL (.nm 6) cR (cC (.int (1))) [x0, .fz .cup, x2, x3, x4, x5, x6] (ns.map D.int) [a, b] = .ok [] [a', b']
  | [], a, b, _, _ => ⟨a, b, rfl⟩
  | n :: ns, a, b, x6, h => by
    obtain ⟨a1, b1, e1⟩ := right_spec n (h n List.mem_cons_self) a b
    obtain ⟨a', b', e2⟩ := rights x0 x2 x3 x4 x5 ns a1 b1 x6 fun y hy => h y (List.mem_cons_of_mem _ hy)
    exact ⟨a', b', compL_f (e2 := [x0, .fz .cup, x2, x3, x4, x5, .fz (.int n)]) rfl (notT_ok (tr_ok (def_ok (cons_ok (v_ok rfl) (cons_ok (v_ok rfl) nil_ok)) e1))) e2⟩
theorem errW {f : Ev → M D} {env : Ev} {c : Cup} (h : f env c = .exc { nm := "InvalidNumber" } c) : cErr (wordOf tab_w_error) dfl_w_error f env c = .ok (.str ("number" : Str)) c := by
  have hw : wordOf tab_w_error ("InvalidNumber" : Str) = some ("number" : Str) := by decide +kernel
  simp only [cErr, h, hw]
abbrev bW : MS := (sSeq (sApp 3 (cErr (wordOf tab_w_error) dfl_w_error (cDef f_signed (cCons (cV 4) cNil))))
  (sApp 3 (cErr (wordOf tab_w_error) dfl_w_error (cDef f_fewest (cCons (cV 4) cNil)))))
theorem loopW (x0 x1 x2 x5 x6 : Sl) (c : Cup) : ∀ (ds acc : List D) (x4 : Sl), (∀ d ∈ ds, pln d = true ∧ isW d (-G) G = false) → acc.length + 2 * ds.length < 1000 →
    ∃ e', forL (.nm 4) bW ds [x0, x1, x2, .ow acc, x4, x5, x6] c = .ok (.nx, e') c ∧ e'[3]? = some (.ow (acc ++ List.replicate (2 * ds.length) (.str ("number" : Str))))
  | [], acc, x4, _, _ => ⟨_, rfl, by simp⟩
  | d :: ds, acc, x4, h, hl => by
    obtain ⟨h1, h2⟩ := h d List.mem_cons_self
    rw [List.length_cons] at hl
    obtain ⟨e', e1, e2⟩ := loopW x0 x1 x2 x5 x6 c ds (acc ++ [.str ("number" : Str)] ++ [.str ("number" : Str)]) (.fz d) (fun y hy => h y (List.mem_cons_of_mem _ hy)) (by simp; omega)
    have a1 : bW [x0, x1, x2, .ow acc, .fz d, x5, x6] c = .ok (.nx, [x0, x1, x2, .ow (acc ++ [.str ("number" : Str)] ++ [.str ("number" : Str)]), .fz d, x5, x6]) c :=
      seq_nx ((sapp_ok rfl (errW (def_ok (cons_ok (v_ok rfl) nil_ok) (signed_bad d c h1 h2))) (by omega)).trans rfl) ((sapp_ok rfl (errW (def_ok (cons_ok (v_ok rfl) nil_ok) (fewest_bad d c h1 h2))) (by simp; omega)).trans rfl)
    refine ⟨e', forL_nx rfl a1 e1, ?_⟩
    rw [e2, List.length_cons, show 2 * (ds.length + 1) = 2 * ds.length + 1 + 1 by omega, List.replicate_succ, List.replicate_succ]
    simp
theorem plain (E : L2.XK) (ns : List Int) (h : ns.length ≤ 63) : ∃ a b env', g1_law ((List.replicate 7 .no).set 0 (.fz (.scr ns))) [] = .ok (.nx, env') [] ∧ env'.length = 7 ∧ env'[1]? = some (.fz (.lst [.int a, .int b])) ∧
    ∃ env2 c2, g2_law ((List.replicate 7 .no).set 1 (.fz .cup)) [a, b] = .ok (.ret (.bl true), env2) c2 := by
  obtain ⟨a, b, e0⟩ := cup_spec ns h []
  refine ⟨a, b, _, (set_ok (def_ok (cons_ok (v_ok rfl) nil_ok) e0)), rfl, rfl, ?_⟩
  show ∃ env2 c2, g2_law [.no, .fz .cup, .no, .no, .no, .no, .no] [a, b] = .ok (.ret (.bl true), env2) c2
  -- the numbers
  have p40 : dPow (.int 4) (.int 40) = some (.int G) := (pow_ok (by decide) (by decide) (by decide)).trans (congrArg (fun z => some (D.int z)) (show (4 : Int) ^ (40 : Int).toNat = G by decide +kernel))
  have p39 : dPow (.int 4) (.int 39) = some (.int 302231454903657293676544) := (pow_ok (by decide) (by decide) (by decide)).trans (congrArg (fun z => some (D.int z)) (show (4 : Int) ^ (39 : Int).toNat = 302231454903657293676544 by decide +kernel))
  have f40 : ∀ (e : Ev) (c : Cup), cBin dPow (cC (.int (4))) (cC (.int (40))) e c = .ok (.int G) c := fun e c => bin_ok (x := .int 4) (y := .int 40) rfl rfl p40
  have n1 : ∀ (e : Ev) (c : Cup), cLst (cCons (cC (.int (0))) (cCons (cC (.int (1))) (cCons (cUn dNeg (cC (.int (1)))) (cCons (cC (.int (7))) (cCons (cUn dNeg (cC (.int (6)))) (cCons (cC (.int (11))) (cCons (cBin dPow (cC (.int (4))) (cC (.int (40)))) (cCons (cUn dNeg (cBin dPow (cC (.int (4))) (cC (.int (40))))) (cCons (cBin dSub (cBin dPow (cC (.int (4))) (cC (.int (40)))) (cC (.int (1)))) (cCons (cBin dMul (cC (.int (3))) (cBin dPow (cC (.int (4))) (cC (.int (39))))) cNil)))))))))) e c
      = .ok (([0, 1, -1, 7, -6, 11, G, -G, G - 1, 3 * 302231454903657293676544] : List Int).map D.int) c := fun e c =>
    lst_ok' (cons_ok (d := .int 0) rfl (cons_ok (d := .int 1) rfl (cons_ok (d := .int (-1)) rfl (cons_ok (d := .int 7) rfl (cons_ok (d := .int (-6)) rfl (cons_ok (d := .int 11) rfl (cons_ok (f40 e c) (cons_ok (un_ok (f40 e c) rfl) (cons_ok (bin_ok (f40 e c) (y := .int 1) rfl rfl) (cons_ok (bin_ok (x := .int 3) rfl (bin_ok (x := .int 4) (y := .int 39) rfl rfl p39) (mul_ok (mulOk_l (by decide)))) nil_ok)))))))))) (by decide)
  generalize hL1 : ([0, 1, -1, 7, -6, 11, G, -G, G - 1, 3 * 302231454903657293676544] : List Int) = L1 at n1
  have g1 : ∀ n ∈ L1, -G ≤ n ∧ n ≤ G := by
    rw [← hL1]
    decide +kernel
  have hl1 : L1.length = 10 := by rw [← hL1]; rfl
  have s1 := setO_ok (i := 2) (n1 [.no, .fz .cup, .no, .no, .no, .no, .no] [a, b])
  obtain ⟨L2', a1, b1, e2, h2, g2⟩ := sizes .no (.ow (L1.map D.int)) .no .no .no [3, 6, 9, 20, 30] a b .no (by decide +kernel)
  have c2 := comp_ok (vs := [5]) (tg := .nm 5) (it := cItems (cTup (cCons (cC (.int (3))) (cCons (cC (.int (6))) (cCons (cC (.int (9))) (cCons (cC (.int (20))) (cCons (cC (.int (30))) cNil))))))) (cond := cYes) (el := eR) (env := [.no, .fz .cup, .ow (L1.map D.int), .no, .no, .no, .no]) (c := [a, b]) (c' := [a, b]) rfl (by decide) e2
  have s2 : sSetO 2 (cCat (cO 2) (cFz (cComp [5] (.nm 5) (cItems (cTup (cCons (cC (.int (3))) (cCons (cC (.int (6))) (cCons (cC (.int (9))) (cCons (cC (.int (20))) (cCons (cC (.int (30))) cNil))))))) cYes eR))) [.no, .fz .cup, .ow (L1.map D.int), .no, .no, .no, .no] [a, b] = .ok (.nx, [.no, .fz .cup, .ow ((L1 ++ L2').map D.int), .no, .no, .no, .no]) [a1, b1] := by
    refine (setO_ok (ds := (L1 ++ L2').map D.int) (c' := [a1, b1]) ?_).trans rfl
    unfold cCat
    rw [show cO 2 [.no, .fz .cup, .ow (L1.map D.int), .no, .no, .no, .no] [a, b] = .ok (.lst (L1.map D.int)) [a, b] from rfl, bnd_ok, fz_ok c2, bnd_ok]
    dsimp only
    rw [if_pos (by simp only [List.length_map, hl1, h2]; decide), List.map_append]
  obtain ⟨r1, a2, b2, e3, r10, r11⟩ := roll_spec a1 b1 1073741824 (by decide) (small_log (by decide))
  obtain ⟨r2, a3, b3, e4, r20, r21⟩ := roll_spec a2 b2 1073741824 (by decide) (small_log (by decide))
  obtain ⟨d, a4, b4, e5, hd⟩ := some_spec a3 b3 [.int 1, .int (-1), .int 32768] (by simp) (by decide)
  obtain ⟨s, rfl, hs⟩ : ∃ s : Int, d = .int s ∧ (s = 1 ∨ s = -1 ∨ s = 32768) := by
    simp only [List.mem_cons, List.mem_nil_iff, or_false] at hd
    rcases hd with rfl | rfl | rfl
    · exact ⟨1, rfl, .inl rfl⟩
    · exact ⟨-1, rfl, .inr (.inl rfl)⟩
    · exact ⟨32768, rfl, .inr (.inr rfl)⟩
  have p30 : dPow (.int 2) (.int 30) = some (.int 1073741824) := (pow_ok (by decide) (by decide) (by decide)).trans (congrArg (fun z => some (D.int z)) (show (2 : Int) ^ (30 : Int).toNat = 1073741824 by decide +kernel))
  have p15 : dPow (.int 2) (.int 15) = some (.int 32768) := (pow_ok (by decide) (by decide) (by decide)).trans (congrArg (fun z => some (D.int z)) (show (2 : Int) ^ (15 : Int).toNat = 32768 by decide +kernel))
  have f30 : ∀ (e : Ev) (c : Cup), cBin dPow (cC (.int (2))) (cC (.int (30))) e c = .ok (.int 1073741824) c := fun e c => bin_ok (x := .int 2) (y := .int 30) rfl rfl p30
  have f15 : ∀ (e : Ev) (c : Cup), cBin dPow (cC (.int (2))) (cC (.int (15))) e c = .ok (.int 32768) c := fun e c => bin_ok (x := .int 2) (y := .int 15) rfl rfl p15
  have hb : -G ≤ (r1 * 1073741824 + r2) * s ∧ (r1 * 1073741824 + r2) * s ≤ G := by
    show -1208925819614629174706176 ≤ (r1 * 1073741824 + r2) * s ∧ (r1 * 1073741824 + r2) * s ≤ 1208925819614629174706176
    rcases hs with rfl | rfl | rfl <;> omega
  generalize hE : ([.no, .fz .cup, .ow ((L1 ++ L2').map D.int), .no, .no, .no, .no] : Ev) = E at s2
  have v1 : ∀ c, cV 1 E c = .ok .cup c := fun c => v_ok (by rw [← hE]; rfl)
  have s3 := sapp_ok (i := 2) (env := E) (ds := (L1 ++ L2').map D.int) (by rw [← hE]; rfl) (bin_ok (op := dMul) (bin_ok (op := dAdd) (bin_ok (op := dMul) (def_ok (cons_ok (v1 _) (cons_ok (f30 E _) nil_ok)) e3) (f30 E _) (mul_ok (mulOk_r (by decide)))) (def_ok (cons_ok (v1 _) (cons_ok (f30 E _) nil_ok)) e4) (d := .int (r1 * 1073741824 + r2)) rfl) (def_ok (cons_ok (v1 _) (cons_ok (lst_ok (cons_ok (f := cC (.int (1))) (d := .int 1) rfl (cons_ok (f := cUn dNeg (cC (.int (1)))) (d := .int (-1)) rfl (cons_ok (f15 E _) nil_ok))) (by decide)) nil_ok)) e5) (mul_ok (mulOk_r (by omega)))) (by simp only [List.length_map, List.length_append, hl1, h2]; decide)
  have hE3 : E.set 2 (.ow ((L1 ++ L2').map D.int ++ [.int ((r1 * 1073741824 + r2) * s)])) = [.no, .fz .cup, .ow ((L1 ++ L2' ++ [(r1 * 1073741824 + r2) * s]).map D.int), .no, .no, .no, .no] := by
    rw [← hE, List.map_append (l₂ := [(r1 * 1073741824 + r2) * s])]
    rfl
  rw [hE3] at s3
  have g3 : ∀ n ∈ L1 ++ L2' ++ [(r1 * 1073741824 + r2) * s], -G ≤ n ∧ n ≤ G := fun n hn => by
    rcases List.mem_append.mp hn with z | z
    · rcases List.mem_append.mp z with z | z
      · exact g1 n z
      · exact g2 n z
    · rw [List.mem_singleton.mp z]
      exact hb
  have hl3 : (L1 ++ L2' ++ [(r1 * 1073741824 + r2) * s]).length = 16 := by simp [hl1, h2]
  generalize L1 ++ L2' ++ [(r1 * 1073741824 + r2) * s] = L3 at s3 g3 hl3
  -- the numbers are told right
  obtain ⟨a5, b5, e6⟩ := rights .no (.ow (L3.map D.int)) .no .no .no L3 a4 b4 .no g3
  have c4 := comp_ok (vs := [6]) (tg := .nm 6) (it := cItems (cO 2)) (cond := cR) (el := cC (.int (1))) (env := [.no, .fz .cup, .ow (L3.map D.int), .no, .no, .no, .no]) (c := [a4, b4]) (ds := L3.map D.int) (c' := [a4, b4]) rfl (by rw [List.length_map, hl3]; decide) e6
  have t4 := tb_ok (bin_ok (op := dNe) (fz_ok c4) (lst_ok (g := cNil) (c' := [a5, b5]) rfl (by decide)) (d := .bl false) rfl)
  -- by hand
  have c := ([a5, b5] : Cup)
  have b1' := fun (e : Ev) => def_ok (fn := f_signed) (env := e) (c := [a5, b5]) (cons_ok (f := cC (.int (7))) (d := .int 7) rfl nil_ok) (signed_ok 7 [a5, b5] (by decide))
  have b2' := fun (e : Ev) => def_ok (fn := f_signed) (env := e) (c := [a5, b5]) (cons_ok (f := cUn dNeg (cC (.int (6)))) (d := .int (-6)) rfl nil_ok) (signed_ok (-6) [a5, b5] (by decide))
  have b3' := fun (e : Ev) => def_ok (fn := f_signed) (env := e) (c := [a5, b5]) (cons_ok (f := cC (.int (0))) (d := .int 0) rfl nil_ok) (signed_ok 0 [a5, b5] (by decide))
  have b4' := fun (e : Ev) => def_ok (fn := f_fewest) (env := e) (c := [a5, b5]) (cons_ok (f := cC (.int (11))) (d := .int 11) rfl nil_ok) (fewest_ok 11 [a5, b5] (by decide))
  have b5' := fun (e : Ev) => def_ok (fn := f_value_of) (env := e) (c := [a5, b5]) (cons_ok (f := cTup (cCons (cTup (cCons (cC (.int (1))) (cCons (cC (.int (0))) cNil))) (cCons (cTup (cCons (cUn dNeg (cC (.int (1)))) (cCons (cC (.int (1))) cNil))) (cCons (cTup (cCons (cC (.int (1))) (cCons (cC (.int (2))) cNil))) cNil)))) (d := toD [(1, 0), (-1, 1), (1, 2)]) rfl nil_ok) (value_ok [(1, 0), (-1, 1), (1, 2)] [a5, b5] (by decide) (by simp [good]))
  rw [show digs 81 0 7 = [(-1, 0), (1, 3)] by decide +kernel] at b1'
  rw [show digs 81 0 (-6) = [(1, 1), (-1, 3)] by decide +kernel] at b2'
  rw [show digs 81 0 0 = [] by decide +kernel] at b3'
  rw [show ((digs 81 0 11).length : Int) = 3 by decide +kernel] at b4'
  rw [show sumD [(1, 0), (-1, 1), (1, 2)] = 3 by decide +kernel] at b5'
  have told := fun (e : Ev) => lst_ok (cons_ok (b1' e) (cons_ok (b2' e) (cons_ok (b3' e) (cons_ok (b4' e) (cons_ok (b5' e) nil_ok))))) (by decide)
  have lk := like_refl 7 (.lst [toD [(-1, 0), (1, 3)], toD [(1, 1), (-1, 3)], toD [], .int 3, .int 3]) (by omega) (by decide +kernel) [a5, b5]
  have t5 := fun (e : Ev) => notT_ok (tr_ok (def_ok (fn := f_w_like 8) (cons_ok (told e) (cons_ok (f := cFz (cLst (cCons (cTup (cCons (cTup (cCons (cUn dNeg (cC (.int (1)))) (cCons (cC (.int (0))) cNil))) (cCons (cTup (cCons (cC (.int (1))) (cCons (cC (.int (3))) cNil))) cNil))) (cCons (cTup (cCons (cTup (cCons (cC (.int (1))) (cCons (cC (.int (1))) cNil))) (cCons (cTup (cCons (cUn dNeg (cC (.int (1)))) (cCons (cC (.int (3))) cNil))) cNil))) (cCons (cTup cNil) (cCons (cC (.int (3))) (cCons (cC (.int (3))) cNil))))))) (d := .lst [toD [(-1, 0), (1, 3)], toD [(1, 1), (-1, 3)], toD [], .int 3, .int 3]) rfl nil_ok)) lk))
  -- the words
  obtain ⟨e', e7, e8⟩ := loopW .no (.fz .cup) (.ow (L3.map D.int)) .no .no [a5, b5] [.non, .bl true, .str "1", .int (G + 1), .int (-G - 1), .tup [.int 1]] [] .no (by
    intro d hd
    simp only [List.mem_cons, List.mem_nil_iff, or_false] at hd
    rcases hd with rfl | rfl | rfl | rfl | rfl | rfl <;> exact ⟨rfl, by decide +kernel⟩) (by decide)
  refine ⟨e', [a5, b5], seq_nx s1 (seq_nx s2 (seq_nx s3 (seq_nx (if_nil_f t4) (seq_nx (if_nil_f (t5 _)) (seq_nx (setO_ok (ds := []) (c' := [a5, b5]) rfl) (seq_nx (for_ok (ds := [.non, .bl true, .str "1", .int (G + 1), .int (-G - 1), .tup [.int 1]]) (c' := [a5, b5]) ?_ e7) (ret_ok ?_)))))))⟩
  · have tt := fun (e : Ev) => tup_ok (env := e) (c := [a5, b5]) (cons_ok (f := cC .non) (d := .non) rfl (cons_ok (f := cC (.bl true)) (d := .bl true) rfl (cons_ok (f := cC (.str "1")) (d := .str "1") rfl (cons_ok (bin_ok (op := dAdd) (f40 e [a5, b5]) (fb := cC (.int (1))) (y := .int 1) rfl rfl) (cons_ok (bin_ok (op := dSub) (un_ok (op := dNeg) (f40 e [a5, b5]) rfl) (fb := cC (.int (1))) (y := .int 1) rfl rfl) (cons_ok (f := cTup (cCons (cC (.int (1))) cNil)) (d := .tup [.int 1]) rfl nil_ok)))))) (by simp)
    unfold cItems
    rw [tt]
    rfl
  · have hO : cO 3 e' [a5, b5] = .ok (.lst (List.replicate 12 (.str ("number" : Str)))) [a5, b5] := by
      unfold cO
      rw [e8]
      rfl
    have ho : ok 1 (.lst (List.replicate 12 (.str ("number" : Str)))) = true := by decide +kernel
    refine bin_ok (op := dEq) hO (bin_ok (op := dMul) (x := .lst [.str ("number" : Str)]) (y := .int 12) (d := .lst (List.replicate 12 (.str ("number" : Str)))) rfl rfl rfl) ?_
    rw [dEq_ok (n := 1) (by omega) ho ho, eqv_refl 1 _ ho]
end K54

set_option Elab.async false
set_option linter.all false
set_option maxRecDepth 100000
set_option maxHeartbeats 0
namespace K54
open PySem PySem.Spec PyProof.Rows L2 Hm LamX
def dd (x : Str) (st : Stmt) : He.DefD := ⟨(x, none), x, x, defArgs st, defBody st, defScope st, [], []⟩
def fn : List He.DefD := [dd "is_whole" s_is_whole, dd "need_whole" s_need_whole, dd "is_tuple_of" s_is_tuple_of, dd "is_ascending" s_is_ascending, dd "two_to" s_two_to, dd "is_digits" s_is_digits, dd "need_digits" s_need_digits, dd "value_of" s_value_of, dd "is_apart" s_is_apart, dd "apart_digits" s_apart_digits, dd "signed" s_signed, dd "fewest" s_fewest, dd "_law_cup" s_w_cup, dd "_law_roll" s_w_roll, dd "_law_two" s_w_two, dd "_law_some" s_w_some, dd "_law_sort" s_w_sort, dd "_law_like" s_w_like, dd "_law_bent" s_w_bent, dd "_law_bits" s_w_bits, dd "_law_is_digits" s_w_is_digits, dd "_law_value" s_w_value, dd "_law_right" s_w_right, dd "_law_error" s_w_error, dd "law" s_law]
def fa : List He.Fa := [.glo "is_whole", .glo "need_whole", .glo "is_tuple_of", .glo "is_ascending", .glo "two_to", .glo "is_digits", .glo "need_digits", .glo "value_of", .glo "is_apart", .glo "apart_digits", .glo "signed", .glo "fewest", .glo "_law_cup", .glo "_law_roll", .glo "_law_two", .glo "_law_some", .glo "_law_sort", .glo "_law_like", .glo "_law_bent", .glo "_law_bits", .glo "_law_is_digits", .glo "_law_value", .glo "_law_right", .glo "_law_error", .glo "law", .glo "InvalidNumber", .exc "InvalidNumber", .glo "InvalidPaper", .exc "InvalidPaper", .free "abs", .free "all", .free "bool", .free "int", .free "isinstance", .free "len", .free "list", .free "range", .free "str", .free "sum", .free "tuple", .free "zip", .int "GREATEST" (1208925819614629174706176), .int "LAST" (81), .glo "HumError"]
def tf : List He.Defn := [("_law_right", none), ("law", none)]
def qof : He.Defn → Str := fun p => if p.1 = "_law_right" then q_w_right else if p.1 = "law" then q_law else Str.empty
def ex (K : PySem.W.Frag) : Bool := decide ((tf.map fun p => (He.cT K p).2).Nodup) && (tab_w_error.all fun p => excOkB K p.1 "HumError" cs_w_error)
abbrev R : PySem.W.OpenRow := PySem.W.OpenLaw.row PySem.Challenge.rw_humless_k54_whole_digits
abbrev hk : PySem.W.Hook := He.hookX 4 fa fn [] tf ex
def ob (s : PySem.W.SharedT) : He.AlX := He.obsX 4 fa fn [] tf ex (HandSHeadRun.getT s)
theorem ob_eq (s : PySem.W.SharedT) : ob s = hk.obs s.abs := He.obsX_eq (HandSHeadRun.getT_eq s)
def loose : List Str := ["HumError", "InvalidNumber", "InvalidPaper", "is_whole", "need_whole", "is_tuple_of", "is_ascending", "GREATEST", "LAST", "two_to", "is_digits", "need_digits", "value_of", "is_apart", "apart_digits", "signed", "fewest", "_law_cup", "_law_roll", "_law_two", "_law_some", "_law_sort", "_law_like", "_law_bent", "_law_error", "_law_bits", "_law_is_digits", "_law_value", "_law_right"]
theorem run (w : World) : HandSHeadRun.RunEq R (PySem.W.view R.prog [33]) hk ob 4000 loose w := by
  intro os
  kernel_rfl
section
variable {K : PySem.W.Frag} {h base : Heap} {mg : Str → Option Value} {w : World}
theorem tx (P : Program) (wl : World) (X : K.In h) (G : h.Ns mainGlobals mg) (c : He.SaysX fa fn [] tf ex w h K) (TB : ∀ p ∈ tf, TabB base mg (He.cT K p).1 (He.cT K p).2) : Tx P wl base ⟨K, mg, tabsOf K tf qof⟩ where
  exc_InvalidNumber := exc_of X G (c.t.d.fact 25 (f := .glo "InvalidNumber") rfl) (c.t.d.fact 26 (f := .exc "InvalidNumber") rfl)
  exc_InvalidPaper := exc_of X G (c.t.d.fact 27 (f := .glo "InvalidPaper") rfl) (c.t.d.fact 28 (f := .exc "InvalidPaper") rfl)
  free_abs := He.free_ok X G (c.t.d.fact 29 (f := .free "abs") rfl)
  free_all := He.free_ok X G (c.t.d.fact 30 (f := .free "all") rfl)
  free_bool := He.free_ok X G (c.t.d.fact 31 (f := .free "bool") rfl)
  free_int := He.free_ok X G (c.t.d.fact 32 (f := .free "int") rfl)
  free_isinstance := He.free_ok X G (c.t.d.fact 33 (f := .free "isinstance") rfl)
  free_len := He.free_ok X G (c.t.d.fact 34 (f := .free "len") rfl)
  free_list := He.free_ok X G (c.t.d.fact 35 (f := .free "list") rfl)
  free_range := He.free_ok X G (c.t.d.fact 36 (f := .free "range") rfl)
  free_str := He.free_ok X G (c.t.d.fact 37 (f := .free "str") rfl)
  free_sum := He.free_ok X G (c.t.d.fact 38 (f := .free "sum") rfl)
  free_tuple := He.free_ok X G (c.t.d.fact 39 (f := .free "tuple") rfl)
  free_zip := He.free_ok X G (c.t.d.fact 40 (f := .free "zip") rfl)
  int_GREATEST := He.int_ok X G (c.t.d.fact 41 (f := .int "GREATEST" (1208925819614629174706176)) rfl)
  int_LAST := He.int_ok X G (c.t.d.fact 42 (f := .int "LAST" (81)) rfl)
  def_is_whole := def_of X G (c.t.d.fact 0 (f := .glo "is_whole") rfl) (c.t.d.def_ 0 (d := dd "is_whole" s_is_whole) rfl)
  def_need_whole := def_of X G (c.t.d.fact 1 (f := .glo "need_whole") rfl) (c.t.d.def_ 1 (d := dd "need_whole" s_need_whole) rfl)
  def_is_tuple_of := def_of X G (c.t.d.fact 2 (f := .glo "is_tuple_of") rfl) (c.t.d.def_ 2 (d := dd "is_tuple_of" s_is_tuple_of) rfl)
  def_is_ascending := def_of X G (c.t.d.fact 3 (f := .glo "is_ascending") rfl) (c.t.d.def_ 3 (d := dd "is_ascending" s_is_ascending) rfl)
  def_two_to := def_of X G (c.t.d.fact 4 (f := .glo "two_to") rfl) (c.t.d.def_ 4 (d := dd "two_to" s_two_to) rfl)
  def_is_digits := def_of X G (c.t.d.fact 5 (f := .glo "is_digits") rfl) (c.t.d.def_ 5 (d := dd "is_digits" s_is_digits) rfl)
  def_need_digits := def_of X G (c.t.d.fact 6 (f := .glo "need_digits") rfl) (c.t.d.def_ 6 (d := dd "need_digits" s_need_digits) rfl)
  def_value_of := def_of X G (c.t.d.fact 7 (f := .glo "value_of") rfl) (c.t.d.def_ 7 (d := dd "value_of" s_value_of) rfl)
  def_is_apart := def_of X G (c.t.d.fact 8 (f := .glo "is_apart") rfl) (c.t.d.def_ 8 (d := dd "is_apart" s_is_apart) rfl)
  def_apart_digits := def_of X G (c.t.d.fact 9 (f := .glo "apart_digits") rfl) (c.t.d.def_ 9 (d := dd "apart_digits" s_apart_digits) rfl)
  def_signed := def_of X G (c.t.d.fact 10 (f := .glo "signed") rfl) (c.t.d.def_ 10 (d := dd "signed" s_signed) rfl)
  def_fewest := def_of X G (c.t.d.fact 11 (f := .glo "fewest") rfl) (c.t.d.def_ 11 (d := dd "fewest" s_fewest) rfl)
  def_w_cup := def_of X G (c.t.d.fact 12 (f := .glo "_law_cup") rfl) (c.t.d.def_ 12 (d := dd "_law_cup" s_w_cup) rfl)
  def_w_roll := def_of X G (c.t.d.fact 13 (f := .glo "_law_roll") rfl) (c.t.d.def_ 13 (d := dd "_law_roll" s_w_roll) rfl)
  def_w_two := def_of X G (c.t.d.fact 14 (f := .glo "_law_two") rfl) (c.t.d.def_ 14 (d := dd "_law_two" s_w_two) rfl)
  def_w_some := def_of X G (c.t.d.fact 15 (f := .glo "_law_some") rfl) (c.t.d.def_ 15 (d := dd "_law_some" s_w_some) rfl)
  def_w_sort := def_of X G (c.t.d.fact 16 (f := .glo "_law_sort") rfl) (c.t.d.def_ 16 (d := dd "_law_sort" s_w_sort) rfl)
  def_w_like := def_of X G (c.t.d.fact 17 (f := .glo "_law_like") rfl) (c.t.d.def_ 17 (d := dd "_law_like" s_w_like) rfl)
  def_w_bent := def_of X G (c.t.d.fact 18 (f := .glo "_law_bent") rfl) (c.t.d.def_ 18 (d := dd "_law_bent" s_w_bent) rfl)
  def_w_bits := def_of X G (c.t.d.fact 19 (f := .glo "_law_bits") rfl) (c.t.d.def_ 19 (d := dd "_law_bits" s_w_bits) rfl)
  def_w_is_digits := def_of X G (c.t.d.fact 20 (f := .glo "_law_is_digits") rfl) (c.t.d.def_ 20 (d := dd "_law_is_digits" s_w_is_digits) rfl)
  def_w_value := def_of X G (c.t.d.fact 21 (f := .glo "_law_value") rfl) (c.t.d.def_ 21 (d := dd "_law_value" s_w_value) rfl)
  def_w_right := def_of X G (c.t.d.fact 22 (f := .glo "_law_right") rfl) (c.t.d.def_ 22 (d := dd "_law_right" s_w_right) rfl)
  def_w_error := def_of X G (c.t.d.fact 23 (f := .glo "_law_error") rfl) (c.t.d.def_ 23 (d := dd "_law_error" s_w_error) rfl)
  errs_w_error := errs_of X G (c.t.d.fact 43 (f := .glo "HumError") rfl) (fun p hp => by
      unfold tab_w_error at hp
      simp only [List.mem_cons, List.mem_nil_iff, or_false] at hp
      rcases hp with rfl | rfl
      · exact (c.t.d.fact 25 (f := .glo "InvalidNumber") rfl)
      · exact (c.t.d.fact 27 (f := .glo "InvalidPaper") rfl)) (fun x hx => by
      unfold cs_w_error at hx
      simp only [List.mem_cons, List.mem_nil_iff, or_false] at hx
      rcases hx with rfl | rfl
      · exact (c.t.d.fact 25 (f := .glo "InvalidNumber") rfl)
      · exact (c.t.d.fact 27 (f := .glo "InvalidPaper") rfl)) (show _ = true from (He.ba c.more).2)
  lam_w_right := lam_of (st := s_w_right) (qof := qof) X G (c.t.d.fact 22 (f := .glo "_law_right") rfl) (c.t.d.def_ 22 (d := dd "_law_right" s_w_right) rfl) (by decide +kernel) (of_decide_eq_true (show _ = true from (He.ba c.more).1)) TB
  lam_law := lam_of (st := s_law) (qof := qof) X G (c.t.d.fact 24 (f := .glo "law") rfl) (c.t.d.def_ 24 (d := dd "law" s_law) rfl) (by decide +kernel) (of_decide_eq_true (show _ = true from (He.ba c.more).1)) TB
end
theorem facts (hplain : ∀ (E : XK) (ns : List Int), ns.length ≤ 63 → ∃ a b env', g1_law ((List.replicate 7 .no).set 0 (.fz (.scr ns))) [] = .ok (.nx, env') [] ∧ env'.length = 7 ∧ env'[1]? = some (.fz (.lst [.int a, .int b])) ∧ ∃ env2 c2, g2_law ((List.replicate 7 .no).set 1 (.fz .cup)) [a, b] = .ok (.ret (.bl true), env2) c2) {w : World} {K : PySem.W.Frag} {h : Heap} {mg : Str → Option Value} {f : Addr} (X : K.In h) (G : h.Ns mainGlobals mg) (hfa : mg ("law" : Str) = some (.ref f)) (c : He.SaysX fa fn [] tf ex w h K) :
    LawAtS PySem.Challenge.rw_humless_k54_whole_digits w K (L2N.CX (PySem.Challenge.rw_humless_k54_whole_digits).prog w) 17 63 "script" mg f h := by
  obtain ⟨fd, F⟩ := (c.t.d.def_ 24 (d := dd "law" s_law) rfl)
  have e := hfa.symm.trans (He.glo_ok X G (c.t.d.fact 24 (f := .glo "law") rfl))
  cases e
  have b := FunD.bindsA (ps := ["script"]) F fun _ _ _ _ _ _ us hl => match us, hl with | [_], _ => rfl
  exact law_at (qof := qof) X c (fun s u => b s [u] rfl) fun base k1 k2 TB => W_law (tx _ _ X G c TB) (fun_of F) (He.glo_ok X G (c.t.d.fact 24 (f := .glo "law") rfl)) hplain
end K54
open PySem PySem.W PySem.Calls PyProof.Rows
theorem K54.head (hplain : ∀ (E : L2.XK) (ns : List Int), ns.length ≤ 63 → ∃ a b env', K54.g1_law ((List.replicate 7 Hm.Sl.no).set 0 (Hm.Sl.fz (Hm.D.scr ns))) [] = Hm.Res.ok (Hm.Fl.nx, env') [] ∧ env'.length = 7 ∧ env'[1]? = some (Hm.Sl.fz (Hm.D.lst [Hm.D.int a, Hm.D.int b])) ∧ ∃ env2 c2, K54.g2_law ((List.replicate 7 Hm.Sl.no).set 1 (Hm.Sl.fz Hm.D.cup)) [a, b] = Hm.Res.ok (Hm.Fl.ret (Hm.D.bl true), env2) c2) : PySem.Challenge.rw_humless_k54_whole_digits.Holds := by
  w_on; o_law
  refine HandSHeadRun.head_any (r := OpenLaw.row PySem.Challenge.rw_humless_k54_whole_digits) (q := view (OpenLaw.row PySem.Challenge.rw_humless_k54_whole_digits).prog [33]) (H := K54.hk) (ob := K54.ob) (M := 4000) (loose := K54.loose) (d := HandSHeadRun.topDef (OpenLaw.row PySem.Challenge.rw_humless_k54_whole_digits).prog 33) (kwd := []) K54.ob_eq
    (by kernel_rfl) (fun s => by kernel_rfl) K54.run (by kernel_rfl) (by kernel_rfl) (by kernel_rfl) (by rfl) (by first | assumption | decide +kernel) (by decide +kernel) ⟨rfl, rfl, rfl, rfl, rfl, by decide +kernel⟩ ?hw ?hc
  case hw => w_witness2
  case hc =>
    refine LamX.walk_ofTsE (l := PySem.Challenge.rw_humless_k54_whole_digits) (n := 63) (k := 17) (x := "script") (CX := fun w => L2N.CX (PySem.Challenge.rw_humless_k54_whole_digits).prog w) rfl (by decide) (by kernel_rfl) ⟨rfl, by decide, by decide⟩ ?F (fun w H s e s' z => ?hx)
    case F =>
      intro w mg fa h Y G hmg0
      obtain ⟨K, KX, c⟩ := Y
      have hmg : mg ("law" : PySem.Str) = some (.ref fa) := by
        have e : (HandSHeadRun.topDef (OpenLaw.row PySem.Challenge.rw_humless_k54_whole_digits).prog 33).name = ("law" : PySem.Str) := by kernel_rfl
        rw [← e]
        exact hmg0
      exact ⟨K, KX, K54.facts hplain KX G hmg c⟩
    case hx =>
      obtain ⟨_, _, _, _, _, _, _, _, _, _, _, _, z⟩ := z
      exact z

theorem PySem.Challenge.cw_humless_k54_whole_digits_holds : PySem.Challenge.rw_humless_k54_whole_digits.Holds :=
  K54.head fun E ns h => K54.plain E ns h

