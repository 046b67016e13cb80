import PyProof.Rows.All
import Wide.All
import OpenK.AllK
import Wide.FinOn
import HandS.EndBits
import HandS.Flow
import HandS.ForExc
import HandS.ForMost
import HandS.IsInst
import HandS.ListItems
import HandS.SortInts
import HandS.Style
import HandS.TupAny
import HandS.Wide
import HandS.Zip
import PyProof.StrOps2
import PySem.Challenge.RW_officewords_k11_worths_of_kinds
set_option Elab.async false
set_option autoImplicit false
set_option linter.all false
set_option maxRecDepth 100000
set_option maxHeartbeats 4000000
/-! Ofw 1: pure data, what stands for it in the heap, slots -/
namespace Ofw
open PySem L2
inductive D where
  | non | bl (b : Bool) | int (i : Int) | str (x : Str)
  | tup (ds : List D) | lst (ds : List D) | dic (kds : List (Key × D)) | scr (ns : List Int)
abbrev Ys := Addr → Prop
/-- a tuple of the written part -/
def WrT (K : PySem.W.Frag) (a : Addr) (xs : List V) : Prop :=
  ∃ (o : Obj) (its : Array Value) (n : Nat), K.lookup a = some o ∧ o.cls = .type "tuple" ∧ o.data = .seq its n ∧ its.size ≤ sizeLine ∧ Vals xs its.toList
/-- a list of the written part -/
def WrL (K : PySem.W.Frag) (a : Addr) (xs : List V) : Prop :=
  ∃ (o : Obj) (its : Array Value) (n : Nat), K.lookup a = some o ∧ o.cls = .type "list" ∧ o.dict = none ∧ o.data = .seq its n ∧ its.size ≤ sizeLine ∧ Vals xs its.toList
mutual
inductive Rep (K : PySem.W.Frag) (H : Hp) (Y : Ys) : V → D → Prop where
  | non : Rep K H Y .non .non
  | bl (b : Bool) : Rep K H Y (.bl b) (.bl b)
  | int (i : Int) : Rep K H Y (.int i) (.int i)
  | str (x : Str) : Rep K H Y (.str x) (.str x)
  | tup {a : Addr} {vs : List V} {ds : List D} : H a = some (.tup vs) → ¬ Y a → Reps K H Y vs ds → Rep K H Y (.ref a) (.tup ds)
  | tupW {a : Addr} {vs : List V} {ds : List D} : WrT K a vs → Reps K H Y vs ds → Rep K H Y (.ref a) (.tup ds)
  | lst {a : Addr} {vs : List V} {ds : List D} : H a = some (.lst vs) → ¬ Y a → Reps K H Y vs ds → Rep K H Y (.ref a) (.lst ds)
  | dic {a : Addr} {kvs : List (Key × V)} {kds : List (Key × D)} : H a = some (.dK kvs) → ¬ Y a → RepK K H Y kvs kds → Rep K H Y (.ref a) (.dic kds)
  | scr {a : Addr} {o : Obj} {ns : List Int} : H a = some (.frz o (.lst (ns.map V.int))) → ¬ Y a → Rep K H Y (.ref a) (.scr ns)
  | scrW {a : Addr} {ns : List Int} : WrL K a (ns.map V.int) → Rep K H Y (.ref a) (.scr ns)
inductive Reps (K : PySem.W.Frag) (H : Hp) (Y : Ys) : List V → List D → Prop where
  | nil : Reps K H Y [] []
  | cons {v : V} {d : D} {vs : List V} {ds : List D} : Rep K H Y v d → Reps K H Y vs ds → Reps K H Y (v :: vs) (d :: ds)
inductive RepK (K : PySem.W.Frag) (H : Hp) (Y : Ys) : List (Key × V) → List (Key × D) → Prop where
  | nil : RepK K H Y [] []
  | cons {k : Key} {v : V} {d : D} {vs : List (Key × V)} {ds : List (Key × D)} : Rep K H Y v d → RepK K H Y vs ds → RepK K H Y ((k, v) :: vs) ((k, d) :: ds)
end
section
variable {K : PySem.W.Frag} {H H' : Hp} {Y Y' : Ys}
/-- what is not forbidden stays, what is newly forbidden was not there -/
structure Fr1 (H H' : Hp) (Y Y' : Ys) : Prop where
  stay : ∀ a o, H a = some o → ¬ Y a → H' a = some o
  more : ∀ a, Y' a → Y a ∨ H a = none
mutual
theorem Rep.fr (f : Fr1 H H' Y Y') : ∀ {v : V} {d : D}, Rep K H Y v d → Rep K H' Y' v d
  | _, _, .non => .non
  | _, _, .bl b => .bl b
  | _, _, .int i => .int i
  | _, _, .str x => .str x
  | _, _, .tup h n r => .tup (f.stay _ _ h n) (fun y => (f.more _ y).elim n fun z => by rw [h] at z; cases z) (Reps.fr f r)
  | _, _, .tupW h r => .tupW h (Reps.fr f r)
  | _, _, .lst h n r => .lst (f.stay _ _ h n) (fun y => (f.more _ y).elim n fun z => by rw [h] at z; cases z) (Reps.fr f r)
  | _, _, .dic h n r => .dic (f.stay _ _ h n) (fun y => (f.more _ y).elim n fun z => by rw [h] at z; cases z) (RepK.fr f r)
  | _, _, .scr h n => .scr (f.stay _ _ h n) (fun y => (f.more _ y).elim n fun z => by rw [h] at z; cases z)
  | _, _, .scrW h => .scrW h
theorem Reps.fr (f : Fr1 H H' Y Y') : ∀ {vs : List V} {ds : List D}, Reps K H Y vs ds → Reps K H' Y' vs ds
  | _, _, .nil => .nil
  | _, _, .cons h r => .cons (Rep.fr f h) (Reps.fr f r)
theorem RepK.fr (f : Fr1 H H' Y Y') : ∀ {vs : List (Key × V)} {ds : List (Key × D)}, RepK K H Y vs ds → RepK K H' Y' vs ds
  | _, _, .nil => .nil
  | _, _, .cons h r => .cons (Rep.fr f h) (RepK.fr f r)
end
theorem Fr1.same (s : Same H H') : Fr1 H H' Y Y := ⟨fun a o h _ => s a o h, fun _ y => .inl y⟩
theorem Fr1.less (h : ∀ a, Y' a → Y a) : Fr1 H H Y Y' := ⟨fun _ _ e _ => e, fun a y => .inl (h a y)⟩
theorem Reps.len : ∀ {vs : List V} {ds : List D}, Reps K H Y vs ds → vs.length = ds.length
  | _, _, .nil => rfl
  | _, _, .cons _ r => by simp [Reps.len r]
theorem RepK.len : ∀ {vs : List (Key × V)} {ds : List (Key × D)}, RepK K H Y vs ds → vs.length = ds.length
  | _, _, .nil => rfl
  | _, _, .cons _ r => by simp [RepK.len r]
theorem Reps.get : ∀ {vs : List V} {ds : List D} {i : Nat} {d : D}, Reps K H Y vs ds → ds[i]? = some d → ∃ v, vs[i]? = some v ∧ Rep K H Y v d
  | _, _, _, _, .nil, e => by simp at e
  | _, _, 0, _, .cons h _, e => by simp at e; subst e; exact ⟨_, rfl, h⟩
  | _, _, i + 1, d, .cons _ r, e => by
    obtain ⟨v, h1, h2⟩ := Reps.get (i := i) (d := d) r (by simpa using e)
    exact ⟨v, by simpa using h1, h2⟩
theorem Reps.get' : ∀ {vs : List V} {ds : List D} {i : Nat} {v : V}, Reps K H Y vs ds → vs[i]? = some v → ∃ d, ds[i]? = some d ∧ Rep K H Y v d
  | _, _, _, _, .nil, e => by simp at e
  | _, _, 0, _, .cons h _, e => by simp at e; subst e; exact ⟨_, rfl, h⟩
  | _, _, i + 1, d, .cons _ r, e => by
    obtain ⟨v, h1, h2⟩ := Reps.get' (i := i) (v := d) r (by simpa using e)
    exact ⟨v, by simpa using h1, h2⟩
theorem Reps.app : ∀ {vs ws : List V} {ds es : List D}, Reps K H Y vs ds → Reps K H Y ws es → Reps K H Y (vs ++ ws) (ds ++ es)
  | _, _, _, _, .nil, s => s
  | _, _, _, _, .cons h r, s => .cons h (Reps.app r s)
theorem Reps.drop : ∀ {vs : List V} {ds : List D} (n : Nat), Reps K H Y vs ds → Reps K H Y (vs.drop n) (ds.drop n)
  | _, _, 0, r => r
  | _, _, _ + 1, .nil => .nil
  | _, _, n + 1, .cons _ r => Reps.drop n r
theorem Reps.take : ∀ {vs : List V} {ds : List D} (n : Nat), Reps K H Y vs ds → Reps K H Y (vs.take n) (ds.take n)
  | _, _, 0, _ => .nil
  | _, _, _ + 1, .nil => .nil
  | _, _, n + 1, .cons h r => .cons h (Reps.take n r)
theorem Reps.set : ∀ {vs : List V} {ds : List D} {v : V} {d : D} (n : Nat), Reps K H Y vs ds → Rep K H Y v d → Reps K H Y (vs.set n v) (ds.set n d)
  | _, _, _, _, _, .nil, _ => .nil
  | _, _, _, _, 0, .cons _ r, h => .cons h r
  | _, _, _, _, n + 1, .cons g r, h => .cons g (Reps.set n r h)
theorem Reps.rev {vs : List V} {ds : List D} (r : Reps K H Y vs ds) : Reps K H Y vs.reverse ds.reverse := by
  induction r using Reps.rec (motive_1 := fun _ _ _ => True) (motive_3 := fun _ _ _ => True) with
  | nil => exact .nil
  | cons h r _ ih => rw [List.reverse_cons, List.reverse_cons]; exact ih.app (.cons h .nil)
  | _ => trivial
theorem Reps.dropLast {vs : List V} {ds : List D} (r : Reps K H Y vs ds) : Reps K H Y vs.dropLast ds.dropLast := by
  rw [List.dropLast_eq_take, List.dropLast_eq_take, r.len]
  exact r.take _
theorem Reps.ints : ∀ {vs : List V} {ns : List Int}, Reps K H Y vs (ns.map D.int) → vs = ns.map V.int
  | _, [], .nil => rfl
  | _, n :: ns, .cons (.int _) r => by rw [List.map_cons, Reps.ints r]
theorem Reps.ofInts : ∀ {ns : List Int}, Reps K H Y (ns.map V.int) (ns.map D.int)
  | [] => .nil
  | n :: ns => .cons (.int n) Reps.ofInts
theorem Reps.strs : ∀ {vs : List V} {ns : List Str}, Reps K H Y vs (ns.map D.str) → vs = ns.map V.str
  | _, [], .nil => rfl
  | _, n :: ns, .cons (.str _) r => by rw [List.map_cons, Reps.strs r]
theorem Reps.ofStrs : ∀ {ns : List Str}, Reps K H Y (ns.map V.str) (ns.map D.str)
  | [] => .nil
  | n :: ns => .cons (.str n) Reps.ofStrs
theorem Reps.bls : ∀ {vs : List V} {ns : List Bool}, Reps K H Y vs (ns.map D.bl) → vs = ns.map V.bl
  | _, [], .nil => rfl
  | _, n :: ns, .cons (.bl _) r => by rw [List.map_cons, Reps.bls r]
theorem sqT_of {a : Addr} {ds : List D} (r : Rep K H Y (.ref a) (.tup ds)) : ∃ vs, SqT K H a vs ∧ Reps K H Y vs ds := by
  cases r with
  | tup h _ r => exact ⟨_, SqT.of h, r⟩
  | tupW h r => exact ⟨_, Or.inr h, r⟩
/-- what stands at an own place -/
def Bod (K : PySem.W.Frag) (H : Hp) (Y : Ys) (a : Addr) : D → Prop
  | .lst ds => ∃ vs, H a = some (.lst vs) ∧ Reps K H Y vs ds
  | .dic kds => ∃ kvs, H a = some (.dK kvs) ∧ RepK K H Y kvs kds
  | _ => False
theorem Bod.there {a : Addr} {d : D} (b : Bod K H Y a d) : ∃ o, H a = some o := by
  cases d <;> first | exact b.elim | exact ⟨_, b.choose_spec.1⟩
theorem Bod.rep {a : Addr} {d : D} (b : Bod K H Y a d) (n : ¬ Y a) : Rep K H Y (.ref a) d := by
  cases d <;> first | exact b.elim | skip
  · obtain ⟨vs, h, r⟩ := b; exact .lst h n r
  · obtain ⟨vs, h, r⟩ := b; exact .dic h n r
/-- the items' places stand, the own one stays -/
theorem Bod.fr {a : Addr} {d : D} (f : Fr1 H H' Y Y') (s : ∀ o, H a = some o → H' a = some o) (b : Bod K H Y a d) : Bod K H' Y' a d := by
  cases d <;> first | exact b.elim | skip
  · obtain ⟨vs, h, r⟩ := b; exact ⟨vs, s _ h, r.fr f⟩
  · obtain ⟨vs, h, r⟩ := b; exact ⟨vs, s _ h, r.fr f⟩
end
/-! ### slots -/
inductive Sl where
  | emp | val (d : D) | own (d : D) | bor (d : D)
def Sl.isOwn : Sl → Bool
  | .own _ => true
  | .bor _ => true
  | _ => false
abbrev En := List Sl
/-- the places that slots own -/
def ownA (σ : St) (env : En) (a : Addr) : Prop := ∃ (i : Nat) (s : Sl), env[i]? = some s ∧ s.isOwn = true ∧ σ[i]? = some (some (.ref a))
def Av (σ : St) (env : En) (Z : Ys) (a : Addr) : Prop := ownA σ env a ∨ Z a
/-- a def's call: the heap at its entry, the borrowed places by slot -/
structure Gx where
  K : PySem.W.Frag
  H_0 : Hp
  ba : Nat → Option Addr
structure Good (G : Gx) (Z : Ys) (σ : St) (H : Hp) (env : En) : Prop where
  len : env.length = σ.length
  zdom : ∀ a, Z a → H a ≠ none
  vals : ∀ (i : Nat) (d : D), env[i]? = some (Sl.val d) → ∃ v : V, σ[i]? = some (some v) ∧ Rep G.K H (Av σ env Z) v d
  owns : ∀ (i : Nat) (d : D), env[i]? = some (Sl.own d) → ∃ a : Addr, σ[i]? = some (some (.ref a)) ∧ Bod G.K H (Av σ env Z) a d ∧ G.H_0 a = none ∧ ¬ Z a
  bors : ∀ (i : Nat) (d : D), env[i]? = some (Sl.bor d) → ∃ a : Addr, σ[i]? = some (some (.ref a)) ∧ Bod G.K H (Av σ env Z) a d ∧ G.ba i = some a ∧ ¬ Z a
  inj : ∀ (i j : Nat) (s t : Sl) (a : Addr), env[i]? = some s → env[j]? = some t → s.isOwn = true → t.isOwn = true → σ[i]? = some (some (.ref a)) → σ[j]? = some (some (.ref a)) → i = j
  held : ∀ (i : Nat) (a : Addr), G.ba i = some a → ∃ d, env[i]? = some (Sl.bor d)
  frame : ∀ a o, G.H_0 a = some o → (∀ i, G.ba i ≠ some a) → H a = some o
section
variable {G : Gx} {Z : Ys} {σ : St} {H H' : Hp} {env : En}
theorem Good.avdom (g : Good G Z σ H env) {a : Addr} (h : Av σ env Z a) : H a ≠ none := by
  rcases h with ⟨i, s, h1, h2, h3⟩ | h
  · cases s with
    | emp => cases h2
    | val d => cases h2
    | own d =>
      obtain ⟨b, e, bd, _⟩ := g.owns i d h1
      rw [h3] at e; cases e
      obtain ⟨o, ho⟩ := bd.there
      rw [ho]; exact fun z => nomatch z
    | bor d =>
      obtain ⟨b, e, bd, _⟩ := g.bors i d h1
      rw [h3] at e; cases e
      obtain ⟨o, ho⟩ := bd.there
      rw [ho]; exact fun z => nomatch z
  · exact g.zdom a h
theorem Good.ownZ (g : Good G Z σ H env) {a : Addr} (h : ownA σ env a) : ¬ Z a := by
  obtain ⟨i, s, h1, h2, h3⟩ := h
  cases s with
  | emp => cases h2
  | val d => cases h2
  | own d =>
    obtain ⟨b, e, _, _, n⟩ := g.owns i d h1
    rw [h3] at e; cases e; exact n
  | bor d =>
    obtain ⟨b, e, _, _, n⟩ := g.bors i d h1
    rw [h3] at e; cases e; exact n
/-- what was there stays; the forbidden ones may be more by new places, or fewer -/
theorem Good.ext {Z' : Ys} (g : Good G Z σ H env) (s : Same H H') (hz : ∀ a, Z' a → Z a ∨ H a = none) (hd : ∀ a, Z' a → H' a ≠ none) : Good G Z' σ H' env where
  len := g.len
  zdom := hd
  vals := fun i d h => by
    obtain ⟨v, e, r⟩ := g.vals i d h
    exact ⟨v, e, r.fr ⟨fun a o q _ => s a o q, fun a y => y.elim (fun z => .inl (.inl z)) fun z => (hz a z).elim (fun q => .inl (.inr q)) .inr⟩⟩
  owns := fun i d h => by
    obtain ⟨v, e, r, n, nz⟩ := g.owns i d h
    refine ⟨v, e, r.fr ⟨fun a o q _ => s a o q, fun a y => y.elim (fun z => .inl (.inl z)) fun z => (hz a z).elim (fun q => .inl (.inr q)) .inr⟩ (fun o q => s _ o q), n, fun z => ?_⟩
    obtain ⟨o, ho⟩ := r.there
    exact (hz v z).elim nz fun q => by rw [ho] at q; cases q
  bors := fun i d h => by
    obtain ⟨v, e, r, n, nz⟩ := g.bors i d h
    refine ⟨v, e, r.fr ⟨fun a o q _ => s a o q, fun a y => y.elim (fun z => .inl (.inl z)) fun z => (hz a z).elim (fun q => .inl (.inr q)) .inr⟩ (fun o q => s _ o q), n, fun z => ?_⟩
    obtain ⟨o, ho⟩ := r.there
    exact (hz v z).elim nz fun q => by rw [ho] at q; cases q
  inj := g.inj
  held := g.held
  frame := fun a o h n => s a o (g.frame a o h n)
theorem Good.same (g : Good G Z σ H env) (s : Same H H') : Good G Z σ H' env :=
  g.ext s (fun _ z => .inl z) fun a z => by
    have h := g.zdom a z
    cases e : H a with
    | none => exact absurd e h
    | some o => rw [s a o e]; exact fun q => nomatch q
theorem Good.less {Z' : Ys} (g : Good G Z σ H env) (h : ∀ a, Z' a → Z a) : Good G Z' σ H env :=
  g.ext (Same.refl H) (fun a z => .inl (h a z)) fun a z => g.zdom a (h a z)
end
/-! ### results -/
inductive Rs where
  | val (d : D) | fr (d : D)
def Rs.d : Rs → D
  | .val d => d
  | .fr d => d
/-- one place more -/
def zad (Z : Ys) (p : Addr) : Ys := fun a => Z a ∨ a = p
/-- what is known of a result: a value apart from what slots own; a new place that nothing else has -/
def ResOk (G : Gx) (Z : Ys) (σ : St) (H H' : Hp) (env : En) (v : V) : Rs → Prop
  | .val d => Rep G.K H' (Av σ env Z) v d
  | .fr d => ∃ p, v = .ref p ∧ H p = none ∧ Good G (zad Z p) σ H' env ∧ Bod G.K H' (Av σ env (zad Z p)) p d
/-- all but what slots own is as it was; what they own besides is new -/
structure Post (G : Gx) (Z : Ys) (σ : St) (H : Hp) (env : En) (σ' : St) (H' : Hp) (env' : En) : Prop where
  good : Good G Z σ' H' env'
  step : ∀ a o, H a = some o → ¬ ownA σ env a → H' a = some o
  own : ∀ a, ownA σ' env' a → ownA σ env a ∨ H a = none
  there : ∀ a, H' a = none → H a = none
theorem same_there {H H' : Hp} (s : Same H H') (a : Addr) (h : H' a = none) : H a = none := s.free h
section
variable {G : Gx} {Z : Ys} {σ σ' σ2 : St} {H H' H2 : Hp} {env env' env2 : En} {v : V} {r : Rs} {d : D}
theorem Post.refl (g : Good G Z σ H env) : Post G Z σ H env σ H env := ⟨g, fun _ _ h _ => h, fun _ h => .inl h, fun _ h => h⟩
theorem Post.same (g : Good G Z σ H env) (s : Same H H') : Post G Z σ H env σ H' env := ⟨g.same s, fun a o h _ => s a o h, fun _ h => .inl h, same_there s⟩
theorem Post.trans (a : Post G Z σ H env σ' H' env') (b : Post G Z σ' H' env' σ2 H2 env2) : Post G Z σ H env σ2 H2 env2 := by
  have no : ∀ c o, H c = some o → ¬ ownA σ env c → ¬ ownA σ' env' c := fun c o h n z => (a.own c z).elim n fun q => by rw [h] at q; cases q
  refine ⟨b.good, fun c o h n => b.step c o (a.step c o h n) (no c o h n), fun c z => ?_, fun c z => a.there c (b.there c z)⟩
  rcases b.own c z with z | z
  · exact a.own c z
  · cases h : H c with
    | none => exact .inr rfl
    | some o =>
      refine .inl (Classical.byContradiction fun n => ?_)
      rw [a.step c o h n] at z; cases z
/-- the frame, whatever is forbidden besides -/
theorem Post.frZ (p : Post G Z σ H env σ' H' env') (Z' : Ys) : Fr1 H H' (Av σ env Z') (Av σ' env' Z') :=
  ⟨fun a o h n => p.step a o h fun z => n (.inl z), fun a y => y.elim (fun z => (p.own a z).elim (fun q => .inl (.inl q)) .inr) fun z => .inl (.inr z)⟩
theorem Post.rep (p : Post G Z σ H env σ' H' env') (h : Rep G.K H (Av σ env Z) v d) : Rep G.K H' (Av σ' env' Z) v d := h.fr (p.frZ Z)
theorem Post.reps (p : Post G Z σ H env σ' H' env') {vs : List V} {ds : List D} (h : Reps G.K H (Av σ env Z) vs ds) : Reps G.K H' (Av σ' env' Z) vs ds := h.fr (p.frZ Z)
/-- a new thing may be seen as any other -/
theorem ResOk.rep (g0 : Good G Z σ H env) (h : ResOk G Z σ' H H' env' v r) : Rep G.K H' (Av σ' env' Z) v r.d := by
  cases r with
  | val d => exact h
  | fr d =>
    obtain ⟨q, rfl, hq, g, b⟩ := h
    have b' : Bod G.K H' (Av σ' env' Z) q d := b.fr (Fr1.less fun a y => y.elim .inl fun z => .inr (.inl z)) fun o h => h
    refine b'.rep fun y => ?_
    rcases y with y | y
    · exact g.ownZ y (.inr rfl)
    · exact g0.zdom q y hq
end
end Ofw
/-! Ofw 2: the small language, its evaluator -/
namespace Ofw
open PySem L2
inductive Ty where
  | bool | int | str | tuple | list | dict
  deriving DecidableEq
/-- operations on values: strict in all arguments -/
inductive Tag where
  | bin (op : Operator) | cmp (op : CmpOp) | neg
  | tup | lst | dic (n : Nat)
  | idx | slc (lo hi : Bool) | rev
  | len | int1 | bool1 | str1 | repr1 | abs1 | min2 | max2 | min1 | max1 | sum1 | sum2 | all1 | any1
  | sorted1 | sortedSet | lenSet | tuple1 | list1 | divmod2 | ord1 | chr1
  | isi (T : Ty)
  | get1 | get2 | upper | join (sep : Str) | index1
  | call (f : Nat)
  deriving DecidableEq
inductive Tg where
  | one (i : Nat) | tup (is : List Nat)
  deriving DecidableEq
inductive ItK where
  | seq | rng1 | rng2 | enum | zip2 | items
  deriving DecidableEq
inductive Ex where
  | var (i : Nat) | peek (i : Nat) | lit (c : Const) | glob (x : Str) (d : D)
  | op (t : Tag) (as : List Ex)
  | not (a : Ex) | and (as : List Ex) | or (as : List Ex) | ife (c a b : Ex)
  | chain (p q : CmpOp) (a b c : Ex)
  | lc (elt : Ex) (tg : Tg) (k : ItK) (src ifs : List Ex) (vs : List Nat)
inductive Sx where
  | asg (i : Nat) (e : Ex) | asgT (is : List Nat) (e : Ex) | par (is : List Nat) (es : List Ex)
  | seti (i : Nat) (k e : Ex) | aug (i : Nat) (op : Operator) (e : Ex)
  | app (i : Nat) (e : Ex) | ext (i : Nat) (e : Ex) | upd (i : Nat) (e : Ex) | popA (j i : Nat)
  | drop (e : Ex) | ret (e : Ex) | retN
  | ife (c : Ex) (a b : List Sx)
  | for_ (tg : Tg) (k : ItK) (src : List Ex) (body : List Sx)
  | whl (c : Ex) (body : List Sx)
  | pass | brk | cont
/-! ### data -/
def litD : Const → Option D
  | .none => some .non
  | .bool b => some (.bl b)
  | .int i => some (.int i)
  | .str x => some (.str x)
  | _ => none
def truD : D → Option Bool
  | .non => some false
  | .bl b => some b
  | .int i => some (i != 0)
  | .str x => if x.length ≤ sizeLine then some ((x.length : Int) != 0) else none
  | .tup ds => some !ds.isEmpty
  | .lst ds => some !ds.isEmpty
  | .dic ds => some !ds.isEmpty
  | .scr ns => some !ns.isEmpty
mutual
/-- == of data -/
def eqv : D → D → Bool
  | .non, .non => true
  | .bl a, .bl b => a == b
  | .bl a, .int j => (if a then 1 else 0) == j
  | .int i, .bl b => i == (if b then 1 else 0)
  | .int i, .int j => i == j
  | .str x, .str y => x == y
  | .lst xs, .lst ys => eqvs xs ys
  | .tup xs, .tup ys => eqvs xs ys
  | _, _ => false
def eqvs : List D → List D → Bool
  | [], [] => true
  | x :: xs, y :: ys => eqv x y && eqvs xs ys
  | _, _ => false
end
mutual
/-- what == is told of -/
def okD : D → Bool
  | .non => true | .bl _ => true | .int _ => true
  | .str x => PyData.strOk x
  | .tup ds => okDs ds
  | .lst ds => okDs ds
  | .dic _ => false | .scr _ => false
def okDs : List D → Bool
  | [] => true
  | x :: xs => okD x && okDs xs
end
mutual
def toP : D → PyData
  | .non => .none | .bl b => .bool b | .int i => .int i | .str x => .str x
  | .tup ds => .tuple (toPs ds)
  | .lst ds => .list (toPs ds)
  | .dic _ => .none | .scr _ => .none
def toPs : List D → List PyData
  | [] => []
  | d :: ds => toP d :: toPs ds
end
def repS (x : Str) (n : Nat) : Str := ⟨(List.replicate n x.cps).foldl (· ++ ·) #[]⟩
mutual
def depD : D → Nat
  | .tup ds => depDs ds + 1
  | .lst ds => depDs ds + 1
  | _ => 0
def depDs : List D → Nat
  | [] => 0
  | x :: xs => max (depD x) (depDs xs)
end
def fitD (d : D) : Bool := okD d && decide (depD d ≤ 64)
/-- scalars of one kind, or of kinds that == tells apart at once -/
def scalD : D → D → Bool
  | .non, .non => true | .non, .int _ => true | .int _, .non => true | .non, .bl _ => true | .bl _, .non => true | .non, .str _ => true | .str _, .non => true
  | .int _, .int _ => true | .bl _, .bl _ => true | .str _, .str _ => true
  | .int _, .str _ => true | .str _, .int _ => true | .bl _, .str _ => true | .str _, .bl _ => true
  | _, _ => false
def eqD (a b : D) : Option Bool := if scalD a b then some (eqv a b) else if fitD a && fitD b then some (eqv a b) else none
def isiD : Ty → D → Bool
  | .bool, .bl _ => true
  | .int, .bl _ => true
  | .int, .int _ => true
  | .str, .str _ => true
  | .tuple, .tup _ => true
  | .list, .lst _ => true
  | .list, .scr _ => true
  | .dict, .dic _ => true
  | _, _ => false
def flatD : D → Bool
  | .non => true | .bl _ => true | .int _ => true | .str _ => true
  | _ => false
def intsD : List D → Option (List Int)
  | [] => some []
  | .int i :: r => (intsD r).map (i :: ·)
  | _ => none
def strsD : List D → Option (List Str)
  | [] => some []
  | .str i :: r => (strsD r).map (i :: ·)
  | _ => none
def blsD : List D → Option (List Bool)
  | [] => some []
  | .bl i :: r => (blsD r).map (i :: ·)
  | _ => none
/-- a list or a tuple -/
def seqD : D → Option (List D)
  | .lst ds => some ds
  | .tup ds => some ds
  | _ => none
def ixD {α : Type} (xs : List α) (i : Int) : Option α := atI xs i
def cutD {α : Type} (xs : List α) (lo hi : Option Int) : List α := (xs.drop (HT.sIx xs.length 0 lo)).take (HT.sIx xs.length xs.length hi - HT.sIx xs.length 0 lo)
def partD : D → Option Int
  | .int i => some i
  | _ => none
/-- ints in order, each once -/
def insD (x : Int) : List Int → List Int
  | [] => [x]
  | y :: r => if x ≤ y then x :: y :: r else y :: insD x r
def sortI : List Int → List Int
  | [] => []
  | x :: r => insD x (sortI r)
def dedI : List Int → List Int
  | [] => []
  | x :: r => if r.contains x then dedI r else x :: dedI r
def getK (kds : List (Key × D)) (k : Key) : Option D := (kds.find? fun kv => decide (kv.1 = k)).map (·.2)
def putKD (kds : List (Key × D)) (k : Key) (v : D) : List (Key × D) :=
  if (kds.any fun kv => decide (kv.1 = k)) = true then kds.map (fun kv => if kv.1 = k then (kv.1, v) else kv) else kds ++ [(k, v)]
def inD (x : D) (ds : List D) : Bool := ds.any fun y => eqv y x
def binD : Operator → D → D → Option Rs
  | .Add, .int i, .int j => some (.val (.int (i + j)))
  | .Add, .str x, .str y => if x.length + y.length ≤ sizeLine then some (.val (.str (x ++ y))) else none
  | .Add, .tup xs, .tup ys => if xs.length + ys.length ≤ sizeLine then some (.val (.tup (xs ++ ys))) else none
  | .Add, .lst xs, .lst ys => if xs.length + ys.length ≤ sizeLine then some (.fr (.lst (xs ++ ys))) else none
  | .Sub, .int i, .int j => some (.val (.int (i - j)))
  | .Mult, .int i, .int j => if (i.natAbs < 2 ^ 64 ∨ j.natAbs < 2 ^ 64) ∨ i.natAbs.log2 + j.natAbs.log2 < 1000000 then some (.val (.int (i * j))) else none
  | .Mult, .str x, .int j => if 0 ≤ j ∧ j ≤ 10000 ∧ x.length ≤ 1000 then some (.val (.str (repS x j.toNat))) else none
  | .FloorDiv, .int i, .int j => if 0 < j ∧ j.natAbs.log2 < 9000 then some (.val (.int (i / j))) else none
  | .Mod, .int i, .int j => if 0 < j then some (.val (.int (i % j))) else none
  | .Pow, .int i, .int j => if 0 ≤ j ∧ j ≤ 1000000 ∧ i.natAbs < 2 ^ 64 then some (.val (.int (i ^ j.toNat))) else none
  | _, _, _ => none
def cmpD : CmpOp → D → D → Option Bool
  | .Eq, a, b => eqD a b
  | .NotEq, a, b => (eqD a b).map (!·)
  | .Lt, .int i, .int j => some (decide (i < j))
  | .LtE, .int i, .int j => some (decide (i ≤ j))
  | .Gt, .int i, .int j => some (decide (j < i))
  | .GtE, .int i, .int j => some (decide (j ≤ i))
  | .Is, .non, .non => some true
  | .Is, .bl _, .non => some false
  | .Is, .int _, .non => some false
  | .Is, .str _, .non => some false
  | .Is, .tup _, .non => some false
  | .Is, .lst _, .non => some false
  | .Is, .dic _, .non => some false
  | .Is, .bl a, .bl b => some (a == b)
  | .IsNot, .non, .non => some false
  | .IsNot, .bl _, .non => some true
  | .IsNot, .int _, .non => some true
  | .IsNot, .str _, .non => some true
  | .IsNot, .tup _, .non => some true
  | .IsNot, .lst _, .non => some true
  | .IsNot, .dic _, .non => some true
  | .IsNot, .bl a, .bl b => some (!(a == b))
  | .In, x, .lst ds => if flatD x && ds.all flatD then some (inD x ds) else none
  | .In, x, .tup ds => if flatD x && ds.all flatD then some (inD x ds) else none
  | .In, .int i, .dic kds => some (getK kds (Sum.inl i : Key)).isSome
  | .In, .str i, .dic kds => some (getK kds (Sum.inr i : Key)).isSome
  | .NotIn, x, .lst ds => if flatD x && ds.all flatD then some (!inD x ds) else none
  | .NotIn, x, .tup ds => if flatD x && ds.all flatD then some (!inD x ds) else none
  | .NotIn, .int i, .dic kds => some !(getK kds (Sum.inl i : Key)).isSome
  | .NotIn, .str i, .dic kds => some !(getK kds (Sum.inr i : Key)).isSome
  | _, _, _ => none
def slcD (d : D) (lo hi : Option Int) : Option Rs := match d with
  | .lst ds => some (.fr (.lst (cutD ds lo hi)))
  | .scr ns => some (.fr (.lst ((cutD ns lo hi).map D.int)))
  | .tup ds => some (.val (.tup (cutD ds lo hi)))
  | .str z => if z.length ≤ sizeLine then some (.val (.str ⟨(cutD z.cps.toList lo hi).toArray⟩)) else none
  | _ => none
def prBin (op : Operator) : List D → Option Rs
  | [a, b] => binD op a b
  | _ => none
def prCmp (op : CmpOp) : List D → Option Rs
  | [a, b] => (cmpD op a b).map fun k => .val (.bl k)
  | _ => none
def prNeg : List D → Option Rs
  | [.int i] => some (.val (.int (-i)))
  | _ => none
def prTup : List D → Option Rs
  | ds => if ds.length ≤ sizeLine then some (.val (.tup ds)) else none
def prLst : List D → Option Rs
  | ds => if ds.length ≤ sizeLine then some (.fr (.lst ds)) else none
def prIdx : List D → Option Rs
  | [.lst ds, .int i] => (ixD ds i).map .val
  | [.tup ds, .int i] => (ixD ds i).map .val
  | [.scr ns, .int i] => (ixD ns i).map fun n => .val (.int n)
  | [.str z, .int i] => if z.length ≤ sizeLine then (ixD z.cps.toList i).map fun c => .val (.str ⟨#[c]⟩) else none
  | [.dic kds, .int i] => (getK kds (Sum.inl i : Key)).map .val
  | [.dic kds, .str i] => (getK kds (Sum.inr i : Key)).map .val
  | _ => none
def prSlcFF : List D → Option Rs
  | [d] => slcD d none none
  | _ => none
def prSlcTF : List D → Option Rs
  | [d, .int i] => slcD d (some i) none
  | _ => none
def prSlcFT : List D → Option Rs
  | [d, .int j] => slcD d none (some j)
  | _ => none
def prSlcTT : List D → Option Rs
  | [d, .int i, .int j] => slcD d (some i) (some j)
  | _ => none
def prRev : List D → Option Rs
  | [.lst ds] => some (.fr (.lst ds.reverse))
  | _ => none
def prLen : List D → Option Rs
  | [.lst ds] => some (.val (.int ds.length))
  | [.tup ds] => some (.val (.int ds.length))
  | [.scr ds] => some (.val (.int ds.length))
  | [.dic ds] => some (.val (.int ds.length))
  | [.str z] => if z.length ≤ sizeLine then some (.val (.int z.length)) else none
  | _ => none
def prInt1 : List D → Option Rs
  | [.int i] => some (.val (.int i))
  | [.bl b] => some (.val (.int (if b then 1 else 0)))
  | _ => none
def prBool1 : List D → Option Rs
  | [.int i] => some (.val (.bl (i != 0)))
  | [.bl b] => some (.val (.bl b))
  | _ => none
def prStr1 : List D → Option Rs
  | [.int i] => if i.natAbs.log2 < 1920 then some (.val (.str (toString i))) else none
  | _ => none
def prAbs1 : List D → Option Rs
  | [.int i] => some (.val (.int (if i < 0 then -i else i)))
  | _ => none
def prMin2 : List D → Option Rs
  | [.int i, .int j] => some (.val (.int (if j < i then j else i)))
  | _ => none
def prMax2 : List D → Option Rs
  | [.int i, .int j] => some (.val (.int (if j > i then j else i)))
  | _ => none
def prSum1 : List D → Option Rs
  | [.lst ds] => (intsD ds).map fun ns => .val (.int ns.sum)
  | _ => none
def prAll1 : List D → Option Rs
  | [.lst ds] => (blsD ds).map fun bs => .val (.bl (bs.all id))
  | _ => none
def prAny1 : List D → Option Rs
  | [.lst ds] => (blsD ds).map fun bs => .val (.bl (bs.any id))
  | _ => none
def prSorted1 : List D → Option Rs
  | [.lst ds] => (intsD ds).map fun ns => .fr (.lst ((sortI ns).map D.int))
  | _ => none
def prTuple1 : List D → Option Rs
  | [.lst ds] => some (.val (.tup ds))
  | [.tup ds] => some (.val (.tup ds))
  | _ => none
def prList1 : List D → Option Rs
  | [.lst ds] => some (.fr (.lst ds))
  | [.tup ds] => some (.fr (.lst ds))
  | [.scr ns] => some (.fr (.lst (ns.map D.int)))
  | _ => none
def prIsi (T : Ty) : List D → Option Rs
  | [d] => some (.val (.bl (isiD T d)))
  | _ => none
def prGet1 : List D → Option Rs
  | [.dic kds, .int i] => some (.val ((getK kds (Sum.inl i : Key)).getD .non))
  | [.dic kds, .str i] => some (.val ((getK kds (Sum.inr i : Key)).getD .non))
  | _ => none
def prGet2 : List D → Option Rs
  | [.dic kds, .int i, x] => some (.val ((getK kds (Sum.inl i : Key)).getD x))
  | [.dic kds, .str i, x] => some (.val ((getK kds (Sum.inr i : Key)).getD x))
  | _ => none
def prDic0 : List D → Option Rs
  | [] => some (.fr (.dic []))
  | _ => none
def prUpper : List D → Option Rs
  | [.str x] => if x.length ≤ 5592405 then some (.val (.str (PySem.Txt.upper x))) else none
  | _ => none
def prJoin (sep : Str) : List D → Option Rs
  | [.lst ds] => (strsD ds).bind fun ys => if (ys.map (·.length)).sum + ys.length * sep.length ≤ 16777216 then some (.val (.str (PySem.Txt.join sep ys))) else none
  | [.tup ds] => (strsD ds).bind fun ys => if (ys.map (·.length)).sum + ys.length * sep.length ≤ 16777216 then some (.val (.str (PySem.Txt.join sep ys))) else none
  | _ => none
def boxD : D → Bool
  | .lst _ => true
  | .tup _ => true
  | _ => false
def prRepr1 : List D → Option Rs
  | [d] => if (boxD d && fitD d) = true ∧ (toP d).showable = true ∧ (toP d).shown.length ≤ sizeLine ∧ depD d ≤ 60 then some (.val (.str (toP d).shown)) else none
  | _ => none
def prDivmod : List D → Option Rs
  | [.int i, .int j] => if 0 < j ∧ j < 1073741824 then some (.val (.tup [.int (i / j), .int (i % j)])) else none
  | _ => none
def primD (t : Tag) (ds : List D) : Option Rs := match t with
  | .bin op => prBin op ds
  | .cmp op => prCmp op ds
  | .neg => prNeg ds
  | .tup => prTup ds
  | .lst => prLst ds
  | .idx => prIdx ds
  | .slc false false => prSlcFF ds
  | .slc true false => prSlcTF ds
  | .slc false true => prSlcFT ds
  | .slc true true => prSlcTT ds
  | .rev => prRev ds
  | .len => prLen ds
  | .int1 => prInt1 ds
  | .bool1 => prBool1 ds
  | .str1 => prStr1 ds
  | .abs1 => prAbs1 ds
  | .min2 => prMin2 ds
  | .max2 => prMax2 ds
  | .sum1 => prSum1 ds
  | .all1 => prAll1 ds
  | .any1 => prAny1 ds
  | .sorted1 => prSorted1 ds
  | .tuple1 => prTuple1 ds
  | .list1 => prList1 ds
  | .isi T => prIsi T ds
  | .get1 => prGet1 ds
  | .get2 => prGet2 ds
  | .dic 0 => prDic0 ds
  | .upper => prUpper ds
  | .join sep => prJoin sep ds
  | .repr1 => prRepr1 ds
  | .divmod2 => prDivmod ds
  | _ => none
/-- operations that keep their arguments -/
def storing : Tag → Bool
  | .tup => true | .lst => true | .dic _ => true | .get2 => true
  | _ => false
/-! ### the evaluator -/
/-- an argument: a value, or a slot looked at when all are there -/
inductive Av1 where
  | v (d : D) | r (i : Nat)
def slotD : Sl → Option D
  | .emp => none
  | .val d => some d
  | .own d => some d
  | .bor d => some d
def look (env : En) : Av1 → Option D
  | .v d => some d
  | .r i => (env[i]?).bind slotD
def looks (env : En) : List Av1 → Option (List D)
  | [] => some []
  | x :: r => match look env x, looks env r with
    | some d, some ds => some (d :: ds)
    | _, _ => none
/-- a def's call: what it gives, what its borrowed arguments are then -/
abbrev CallT := Nat → List D → Option (Rs × List (Option D))
def putBor : Sl → D → Sl
  | .own _, d => .own d
  | .bor _, d => .bor d
  | s, _ => s
/-- the borrowed slots as they are behind a call -/
def putBack : En → List Av1 → List (Option D) → En
  | env, .r i :: xs, some d :: ds => putBack (env.set i (putBor (env.getD i .emp) d)) xs ds
  | env, _ :: xs, _ :: ds => putBack env xs ds
  | env, _, _ => env
/-- each borrowed argument is an own slot, no slot twice; the others are values -/
def borOk (env : En) : List Bool → List Av1 → List Nat → Bool
  | [], [], _ => true
  | true :: fs, .r i :: xs, seen => (match env[i]? with | some s => s.isOwn | none => false) && !seen.contains i && borOk env fs xs (i :: seen)
  | false :: fs, .v _ :: xs, seen => borOk env fs xs seen
  | _, _, _ => false
def valsOf : List Av1 → Option (List D)
  | [] => some []
  | .v d :: r => (valsOf r).map (d :: ·)
  | _ => none
def applyT (rf : Nat → List Bool) (C : CallT) (t : Tag) (xs : List Av1) (env : En) : Option (Rs × En) :=
  match t with
  | .call f => if borOk env (rf f) xs [] then match looks env xs with
      | some ds => match C f ds with
        | some (r, outs) => some (r, putBack env xs outs)
        | none => none
      | none => none
    else none
  | t => match (if storing t then valsOf xs else looks env xs) with
    | some ds => (primD t ds).map fun r => (r, env)
    | none => none
def bindT : Tg → D → En → Option En
  | .one i, d, env => match env[i]? with
    | some (.bor _) => none
    | some _ => some (env.set i (.val d))
    | none => none
  | .tup is, .tup ds, env => if is.length = ds.length then bindTs is ds env else none
  | _, _, _ => none
where bindTs : List Nat → List D → En → Option En
  | [], [], env => some env
  | i :: is, d :: ds, env => match env[i]? with
    | some (.bor _) => none
    | some _ => bindTs is ds (env.set i (.val d))
    | none => none
  | _, _, _ => none
def lcLoop (f : D → En → Option (Option D × En)) : List D → En → Option (List D × En)
  | [], env => some ([], env)
  | d :: ds, env => match f d env with
    | some (o, env1) => match lcLoop f ds env1 with
      | some (r, env2) => some (o.toList ++ r, env2)
      | none => none
    | none => none
def rngD (lo hi : Int) : List D := (List.range (hi - lo).toNat).map fun (k : Nat) => D.int (lo + (k : Int))
def smallI (i : Int) : Bool := decide (-(2 ^ 62) ≤ i) && decide (i < 2 ^ 62)
def enumD (ds : List D) : List D := (List.range ds.length).map fun (k : Nat) => D.tup [.int (k : Int), ds.getD k .non]
def zipD (xs ys : List D) : List D := (List.range (min xs.length ys.length)).map fun (k : Nat) => D.tup [xs.getD k .non, ys.getD k .non]
/-- what is walked -/
def itSeq : List D → Option (List D)
  | [.lst ds] => some ds
  | [.tup ds] => some ds
  | [.scr ns] => some (ns.map D.int)
  | _ => none
def itRng1 : List D → Option (List D)
  | [.int j] => if smallI j then some (rngD 0 j) else none
  | _ => none
def itRng2 : List D → Option (List D)
  | [.int i, .int j] => if smallI i && smallI j then some (rngD i j) else none
  | _ => none
def itEnum : List D → Option (List D)
  | [.lst ds] => some (enumD ds)
  | _ => none
def itZip2 : List D → Option (List D)
  | [.lst xs, .lst ys] => some (zipD xs ys)
  | [.tup xs, .tup ys] => some (zipD xs ys)
  | _ => none
def itemsD (k : ItK) (ds : List D) : Option (List D) := match k with
  | .seq => itSeq ds
  | .rng1 => itRng1 ds
  | .rng2 => itRng2 ds
  | .enum => itEnum ds
  | .zip2 => itZip2 ds
  | .items => none
/-- the block's own slots, forgotten; taken back -/
def wipeE (env : En) : List Nat → En
  | [] => env
  | v :: vs => (wipeE env vs).set v .emp
def backE (old : En) (env : En) : List Nat → En
  | [] => env
  | v :: vs => (backE old env vs).set v (old.getD v .emp)
def plainSlots (env : En) (vs : List Nat) : Bool := vs.all fun i => match env[i]? with | some s => !s.isOwn | none => false
section
variable (rf : Nat → List Bool) (C : CallT)
mutual
def evalE : Ex → En → Option (Rs × En)
  | .var i, env => match env[i]? with
    | some (.val d) => some (.val d, env)
    | some (.own d) => some (.val d, env.set i (.val d))
    | _ => none
  | .peek _, _ => none
  | .lit c, env => (litD c).map fun d => (.val d, env)
  | .glob _ d, env => some (.val d, env)
  | .op t as, env => match evalAs as env with
    | some (xs, env1) => applyT rf C t xs env1
    | none => none
  | .not a, env => match evalE a env with
    | some (r, env1) => (truD r.d).map fun b => (.val (.bl (!b)), env1)
    | none => none
  | .and as, env => evalAnd as env
  | .or as, env => evalOr as env
  | .ife c a b, env => match evalE c env with
    | some (r, env1) => match truD r.d with
      | some true => evalE a env1
      | some false => evalE b env1
      | none => none
    | none => none
  | .chain p q a b c, env => match evalE a env with
    | some (ra, env1) => match evalE b env1 with
      | some (rb, env2) => match cmpD p ra.d rb.d with
        | some true => match evalE c env2 with
          | some (rc, env3) => (cmpD q rb.d rc.d).map fun k => (.val (.bl k), env3)
          | none => none
        | some false => some (.val (.bl false), env2)
        | none => none
      | none => none
    | none => none
  | .lc elt tg k src ifs vs, env => match evalAs src env with
    | some (xs, env1) => match valsOf xs with
      | some ds => match itemsD k ds with
        | some its => if plainSlots env1 vs && decide (its.length < sizeLine) then
            match lcLoop (fun d en => match bindT tg d en with
              | some en1 => match evalIfs ifs en1 with
                | some (true, en2) => match evalE elt en2 with
                  | some (r, en3) => if plainSlots en3 vs then some (some r.d, wipeE en3 vs) else none
                  | none => none
                | some (false, en2) => if plainSlots en2 vs then some (none, wipeE en2 vs) else none
                | none => none
              | none => none) its (wipeE env1 vs) with
            | some (out, env2) => some (.fr (.lst out), backE env1 env2 vs)
            | none => none
          else none
        | none => none
      | none => none
    | none => none
def evalAs : List Ex → En → Option (List Av1 × En)
  | [], env => some ([], env)
  | .peek i :: as, env => match env[i]? with
    | some .emp => none
    | none => none
    | some _ => match evalAs as env with
      | some (xs, env2) => some (.r i :: xs, env2)
      | none => none
  | a :: as, env => match evalE a env with
    | some (r, env1) => match evalAs as env1 with
      | some (xs, env2) => some (.v r.d :: xs, env2)
      | none => none
    | none => none
def evalAnd : List Ex → En → Option (Rs × En)
  | [], _ => none
  | [a], env => evalE a env
  | a :: as, env => match evalE a env with
    | some (r, env1) => match truD r.d with
      | some true => evalAnd as env1
      | some false => some (.val r.d, env1)
      | none => none
    | none => none
def evalOr : List Ex → En → Option (Rs × En)
  | [], _ => none
  | [a], env => evalE a env
  | a :: as, env => match evalE a env with
    | some (r, env1) => match truD r.d with
      | some true => some (.val r.d, env1)
      | some false => evalOr as env1
      | none => none
    | none => none
def evalIfs : List Ex → En → Option (Bool × En)
  | [], env => some (true, env)
  | a :: _, env => match evalE a env with
    | some (r, env1) => (truD r.d).map fun b => (b, env1)
    | none => none
end
end
end Ofw
/-! Ofw 3: arguments, operations -/
namespace Ofw
open PySem L2
section
variable {X : Cx} {e : Expr} {t t' : TE} {es : List Expr}
theorem _root_.L2.PE.imp (h : PE X e t) (f : ∀ σ H Q, t' σ H Q → t σ H Q) : PE X e t' := ⟨fun pins s σ H Q I q => h.run pins s σ H Q I (f σ H Q q)⟩
theorem _root_.L2.PT.imp {t t' : TT} (h : PT X e t) (f : ∀ σ H Q, t' σ H Q → t σ H Q) : PT X e t' := ⟨fun pins s σ H Q I q => h.run pins s σ H Q I (f σ H Q q)⟩
theorem _root_.L2.PW.imp {t t' : TT} (h : PW X e t) (f : ∀ σ H Q, t' σ H Q → t σ H Q) : PW X e t' := ⟨fun w pins s σ H Q I q => h.run w pins s σ H Q I (f σ H Q q)⟩
theorem _root_.L2.PA.imp {t t' : TA} (h : PA X es t) (f : ∀ σ H Q, t' σ H Q → t σ H Q) : PA X es t' := ⟨fun po pins s σ H Q I q => h.run po pins s σ H Q I (f σ H Q q)⟩
theorem _root_.L2.PS.imp {st : Stmt} {t t' : TS} (h : PS X st t) (f : ∀ D σ H, t' D σ H → t D σ H) : PS X st t' := ⟨fun pins s σ H D I q => h.run pins s σ H D I (f D σ H q)⟩
theorem _root_.L2.PSs.imp {st : List Stmt} {t t' : TS} (h : PSs X st t) (f : ∀ D σ H, t' D σ H → t D σ H) : PSs X st t' := ⟨fun pins s σ H D I q => h.run pins s σ H D I (f D σ H q)⟩
theorem _root_.L2.PI.or {tg it : Expr} {w1 w2 : TI} (h1 : PI X tg it w1) (h2 : PI X tg it w2) : PI X tg it (fun σ H R => w1 σ H R ∨ w2 σ H R) :=
  ⟨fun pins s σ H R I q => q.elim (h1.run pins s σ H R I) (h2.run pins s σ H R I)⟩
theorem _root_.L2.PI.imp {tg it : Expr} {w w' : TI} (h : PI X tg it w) (f : ∀ σ H R, w' σ H R → w σ H R) : PI X tg it w' := ⟨fun pins s σ H R I q => h.run pins s σ H R I (f σ H R q)⟩
end
/-! ### what an expression's value is -/
section
variable (G : Gx) (rf : Nat → List Bool) (C : CallT)
def tE (e : Ex) : TE := fun σ H Q => ∃ Z env r env', Good G Z σ H env ∧ evalE rf C e env = some (r, env') ∧
  ∀ v H', Post G Z σ H env σ H' env' → ResOk G Z σ H H' env' v r → Q v H'
def tArg : Ex → TE
  | .peek i => tVar i
  | e => tE G rf C e
def tArgs : List Ex → TA
  | [] => tNil
  | a :: as => tCons (tArg G rf C a) (tArgs as)
end
/-- arguments that came -/
inductive ArgP (K : PySem.W.Frag) (σ : St) (H : Hp) (Y : Ys) : List V → List Av1 → Prop where
  | nil : ArgP K σ H Y [] []
  | v {v : V} {d : D} {vs : List V} {xs : List Av1} : Rep K H Y v d → ArgP K σ H Y vs xs → ArgP K σ H Y (v :: vs) (.v d :: xs)
  | r {v : V} {i : Nat} {vs : List V} {xs : List Av1} : σ[i]? = some (some v) → ArgP K σ H Y vs xs → ArgP K σ H Y (v :: vs) (.r i :: xs)
theorem ArgP.fr {K : PySem.W.Frag} {σ : St} {H H' : Hp} {Y Y' : Ys} (f : Fr1 H H' Y Y') : ∀ {vs : List V} {xs : List Av1}, ArgP K σ H Y vs xs → ArgP K σ H' Y' vs xs
  | _, _, .nil => .nil
  | _, _, .v h t => .v (h.fr f) (ArgP.fr f t)
  | _, _, .r h t => .r h (ArgP.fr f t)
section
variable {G : Gx} {rf : Nat → List Bool} {C : CallT}
theorem Good.slot {Z : Ys} {σ : St} {H : Hp} {env : En} (g : Good G Z σ H env) {i : Nat} {s : Sl} {d : D} (h : env[i]? = some s) (hd : slotD s = some d) : ∃ v, σ[i]? = some (some v) := by
  cases s with
  | emp => cases hd
  | val d => obtain ⟨v, e, _⟩ := g.vals i d h; exact ⟨v, e⟩
  | own d => obtain ⟨v, e, _⟩ := g.owns i d h; exact ⟨_, e⟩
  | bor d => obtain ⟨v, e, _⟩ := g.bors i d h; exact ⟨_, e⟩
theorem tArg_of {a : Ex} (h : ∀ i, a ≠ .peek i) : tArg G rf C a = tE G rf C a := by
  cases a <;> first | rfl | exact absurd rfl (h _)
theorem evalAs_cons {a : Ex} {as : List Ex} {env : En} (h : ∀ i, a ≠ .peek i) : evalAs rf C (a :: as) env = (match evalE rf C a env with
    | some (r, env1) => match evalAs rf C as env1 with
      | some (xs, env2) => some (.v r.d :: xs, env2)
      | none => none
    | none => none) := by
  cases a <;> first | rfl | exact absurd rfl (h _)
theorem args_ok : ∀ (as : List Ex) {env env' : En} {xs : List Av1} {σ : St} {H : Hp} {Z : Ys} {Q : List V → Hp → Prop}, Good G Z σ H env → evalAs rf C as env = some (xs, env') →
    (∀ vs H', Post G Z σ H env σ H' env' → ArgP G.K σ H' (Av σ env' Z) vs xs → Q vs H') → tArgs G rf C as σ H Q
  | [], env, env', xs, σ, H, Z, Q, g, h, q => by
    simp only [evalAs, Option.some.injEq, Prod.mk.injEq] at h
    obtain ⟨rfl, rfl⟩ := h
    exact q [] H (Post.refl g) .nil
  | a :: as, env, env', xs, σ, H, Z, Q, g, h, q => by
    by_cases hp : ∃ i, a = .peek i
    · obtain ⟨i, rfl⟩ := hp
      simp only [evalAs] at h
      cases hs : env[i]? with
      | none => rw [hs] at h; cases h
      | some s =>
        rw [hs] at h
        have hd : ∃ d, slotD s = some d := by cases s <;> first | exact ⟨_, rfl⟩ | cases h
        obtain ⟨d, hd⟩ := hd
        obtain ⟨v, hv⟩ := g.slot hs hd
        have h' : (match evalAs rf C as env with
          | some (xs, env2) => some (Av1.r i :: xs, env2)
          | none => none) = some (xs, env') := by cases s <;> first | exact h | cases hd
        cases h1 : evalAs rf C as env with
        | none => rw [h1] at h'; cases h'
        | some p =>
          obtain ⟨ys, env2⟩ := p
          rw [h1] at h'
          simp only [Option.some.injEq, Prod.mk.injEq] at h'
          obtain ⟨rfl, rfl⟩ := h'
          show tVar i σ H fun x H1 => tArgs G rf C as σ H1 fun xs H2 => Q (x :: xs) H2
          exact ⟨v, hv, args_ok as g h1 fun vs H' p r => q (v :: vs) H' p (.r hv r)⟩
    · have hp' : ∀ i, a ≠ .peek i := fun i e => hp ⟨i, e⟩
      rw [evalAs_cons hp'] at h
      cases h1 : evalE rf C a env with
      | none => rw [h1] at h; cases h
      | some p =>
        obtain ⟨r, env1⟩ := p
        rw [h1] at h
        cases h2 : evalAs rf C as env1 with
        | none => simp only [h2] at h; cases h
        | some p2 =>
          obtain ⟨ys, env2⟩ := p2
          simp only [h2, Option.some.injEq, Prod.mk.injEq] at h
          obtain ⟨rfl, rfl⟩ := h
          show tArg G rf C a σ H fun x H1 => tArgs G rf C as σ H1 fun xs H2 => Q (x :: xs) H2
          rw [tArg_of hp']
          refine ⟨Z, env, r, env1, g, h1, fun v H1 p1 r1 => ?_⟩
          have rp : Rep G.K H1 (Av σ env1 Z) v r.d := r1.rep g
          exact args_ok as p1.good h2 fun vs H' p2 rs => q (v :: vs) H' (p1.trans p2) (.v (p2.rep rp) rs)
/-! ### operations -/
/-- an argument as an operation sees it: a value, or what stands at an own place -/
def AR (K : PySem.W.Frag) (H : Hp) (Y : Ys) (v : V) (d : D) : Prop := Rep K H Y v d ∨ ∃ a, v = .ref a ∧ Bod K H Y a d
inductive ARs (K : PySem.W.Frag) (H : Hp) (Y : Ys) : List V → List D → Prop where
  | nil : ARs K H Y [] []
  | cons {v : V} {d : D} {vs : List V} {ds : List D} : AR K H Y v d → ARs K H Y vs ds → ARs K H Y (v :: vs) (d :: ds)
theorem looks_ok {Z : Ys} {σ : St} {H : Hp} {env : En} (g : Good G Z σ H env) : ∀ {vs : List V} {xs : List Av1} {ds : List D}, ArgP G.K σ H (Av σ env Z) vs xs → looks env xs = some ds → ARs G.K H (Av σ env Z) vs ds
  | _, _, ds, .nil, h => by simp only [looks, Option.some.injEq] at h; subst h; exact .nil
  | _, _, ds, .v (d := d) (xs := xs) hr r, h => by
    simp only [looks, look] at h
    cases h1 : looks env xs with
    | none => rw [h1] at h; cases h
    | some es =>
      rw [h1] at h
      simp only [Option.some.injEq] at h
      subst h
      exact .cons (.inl hr) (looks_ok g r h1)
  | _, _, ds, .r (v := v) (i := i) (xs := xs) hv r, h => by
    simp only [looks, look] at h
    cases hs : env[i]? with
    | none => rw [hs] at h; cases h
    | some s =>
      rw [hs] at h
      simp only [Option.bind_some] at h
      cases hd : slotD s with
      | none => rw [hd] at h; cases h
      | some d =>
        rw [hd] at h
        cases h1 : looks env xs with
        | none => rw [h1] at h; cases h
        | some es =>
          rw [h1] at h
          simp only [Option.some.injEq] at h
          subst h
          refine .cons ?_ (looks_ok g r h1)
          cases s with
          | emp => cases hd
          | val d' =>
            cases hd
            obtain ⟨w, e, rp⟩ := g.vals i d hs
            rw [hv] at e; cases e
            exact .inl rp
          | own d' =>
            cases hd
            obtain ⟨w, e, rp, _⟩ := g.owns i d hs
            rw [hv] at e; cases e
            exact .inr ⟨w, rfl, rp⟩
          | bor d' =>
            cases hd
            obtain ⟨w, e, rp, _⟩ := g.bors i d hs
            rw [hv] at e; cases e
            exact .inr ⟨w, rfl, rp⟩
/-- what an operation gives -/
def PRes (K : PySem.W.Frag) (H H' : Hp) (Y : Ys) (v : V) : Rs → Prop
  | .val d => Rep K H' Y v d
  | .fr d => ∃ p, v = .ref p ∧ H p = none ∧ Bod K H' (fun a => Y a ∨ a = p) p d
/-- an operation on values that changes nothing that stands -/
def rTag (K : PySem.W.Frag) (t : Tag) : List V → Hp → VK → Prop := fun vs H Q => ∃ (Y : Ys) (ds : List D) (res : Rs), (∀ a, Y a → H a ≠ none) ∧ ARs K H Y vs ds ∧ primD t ds = some res ∧
  ∀ v H', Same H H' → PRes K H H' Y v res → Q v H'
theorem post_prim {Z : Ys} {σ : St} {H H' : Hp} {env : En} {v : V} {r : Rs} (g : Good G Z σ H env) (s : Same H H') (h : PRes G.K H H' (Av σ env Z) v r) : Post G Z σ H env σ H' env ∧ ResOk G Z σ H H' env v r := by
  refine ⟨Post.same g s, ?_⟩
  cases r with
  | val d => exact h
  | fr d =>
    obtain ⟨p, rfl, hp, b⟩ := h
    obtain ⟨o, ho⟩ := b.there
    refine ⟨p, rfl, hp, g.ext s (fun a z => z.elim .inl fun e => .inr (by rw [e]; exact hp)) (fun a z => ?_), b.fr (Fr1.less fun a y => ?_) fun o h => h⟩
    · rcases z with z | z
      · exact (g.same s).zdom a z
      · rw [z, ho]; exact fun q => nomatch q
    · rcases y with y | y | y
      · exact .inl (.inl y)
      · exact .inl (.inr y)
      · exact .inr y
theorem vals_ok {K : PySem.W.Frag} {σ : St} {H : Hp} {Y : Ys} : ∀ {vs : List V} {xs : List Av1} {ds : List D}, ArgP K σ H Y vs xs → valsOf xs = some ds → Reps K H Y vs ds
  | _, _, ds, .nil, h => by simp only [valsOf, Option.some.injEq] at h; subst h; exact .nil
  | _, _, ds, .v (d := d) (xs := xs) hr r, h => by
    simp only [valsOf] at h
    cases h1 : valsOf xs with
    | none => rw [h1] at h; cases h
    | some es =>
      rw [h1] at h
      simp only [Option.map_some, Option.some.injEq] at h
      subst h
      exact .cons hr (vals_ok r h1)
  | _, _, ds, .r _ _, h => by simp only [valsOf] at h; cases h
theorem ARs.of {K : PySem.W.Frag} {H : Hp} {Y : Ys} : ∀ {vs : List V} {ds : List D}, Reps K H Y vs ds → ARs K H Y vs ds
  | _, _, .nil => .nil
  | _, _, .cons h r => .cons (.inl h) (ARs.of r)
/-- .. one that keeps its arguments -/
def rTagV (K : PySem.W.Frag) (t : Tag) : List V → Hp → VK → Prop := fun vs H Q => ∃ (Y : Ys) (ds : List D) (res : Rs), (∀ a, Y a → H a ≠ none) ∧ Reps K H Y vs ds ∧ primD t ds = some res ∧
  ∀ v H', Same H H' → PRes K H H' Y v res → Q v H'
theorem op_red0 {t : Tag} {as : List Ex} (ht : ∀ f, t ≠ .call f) {σ : St} {H : Hp} {Q : VK} (h : tE G rf C (.op t as) σ H Q) :
    ∃ Z env xs env1 ds res, Good G Z σ H env ∧ evalAs rf C as env = some (xs, env1) ∧ (if storing t then valsOf xs else looks env1 xs) = some ds ∧ primD t ds = some res ∧
      ∀ H1, Post G Z σ H env σ H1 env1 → ∀ v H', Same H1 H' → PRes G.K H1 H' (Av σ env1 Z) v res → Q v H' := by
  obtain ⟨Z, env, r, env', g, h, q⟩ := h
  simp only [evalE] at h
  cases h1 : evalAs rf C as env with
  | none => rw [h1] at h; cases h
  | some p =>
    obtain ⟨xs, env1⟩ := p
    rw [h1] at h
    have h' : (match (if storing t then valsOf xs else looks env1 xs) with
      | some ds => (primD t ds).map fun r => (r, env1)
      | none => none) = some (r, env') := by
      cases t <;> first | exact h | exact absurd rfl (ht _)
    cases h2 : (if storing t then valsOf xs else looks env1 xs) with
    | none => rw [h2] at h'; cases h'
    | some ds =>
      rw [h2] at h'
      cases h3 : primD t ds with
      | none => simp only [h3, Option.map_none] at h'; cases h'
      | some res =>
        simp only [h3, Option.map_some, Option.some.injEq, Prod.mk.injEq] at h'
        obtain ⟨rfl, rfl⟩ := h'
        refine ⟨Z, env, xs, env1, ds, res, g, h1, h2, h3, fun H1 p1 v H' s pr => ?_⟩
        obtain ⟨p2, ro⟩ := post_prim p1.good s pr
        refine q v H' (p1.trans p2) ?_
        cases res with
        | val d => exact ro
        | fr d =>
          obtain ⟨p, e, hp, gg, b⟩ := ro
          exact ⟨p, e, p1.there p hp, gg, b⟩
theorem op_red {t : Tag} {as : List Ex} (ht : ∀ f, t ≠ .call f) (hs : storing t = false) {σ : St} {H : Hp} {Q : VK} (h : tE G rf C (.op t as) σ H Q) : tArgs G rf C as σ H (fun vs H1 => rTag G.K t vs H1 Q) := by
  obtain ⟨Z, env, xs, env1, ds, res, g, h1, h2, h3, q⟩ := op_red0 ht h
  rw [hs] at h2
  exact args_ok as g h1 fun vs H1 p1 ar => ⟨Av σ env1 Z, ds, res, fun a y => p1.good.avdom y, looks_ok p1.good ar h2, h3, q H1 p1⟩
theorem op_redV {t : Tag} {as : List Ex} (ht : ∀ f, t ≠ .call f) (hs : storing t = true) {σ : St} {H : Hp} {Q : VK} (h : tE G rf C (.op t as) σ H Q) : tArgs G rf C as σ H (fun vs H1 => rTagV G.K t vs H1 Q) := by
  obtain ⟨Z, env, xs, env1, ds, res, g, h1, h2, h3, q⟩ := op_red0 ht h
  rw [hs] at h2
  exact args_ok as g h1 fun vs H1 p1 ar => ⟨Av σ env1 Z, ds, res, fun a y => p1.good.avdom y, vals_ok ar h2, h3, q H1 p1⟩
end
end Ofw
/-! Ofw 4: each operation's rule -/
namespace Ofw
open PySem L2
section
variable {K : PySem.W.Frag} {H : Hp} {Y : Ys} {v : V}
theorem AR.int {i : Int} (h : AR K H Y v (.int i)) : v = .int i := by
  rcases h with h | ⟨_, _, h⟩
  · cases h; rfl
  · exact h.elim
theorem AR.bl {i : Bool} (h : AR K H Y v (.bl i)) : v = .bl i := by
  rcases h with h | ⟨_, _, h⟩
  · cases h; rfl
  · exact h.elim
theorem AR.str {i : Str} (h : AR K H Y v (.str i)) : v = .str i := by
  rcases h with h | ⟨_, _, h⟩
  · cases h; rfl
  · exact h.elim
theorem AR.non (h : AR K H Y v .non) : v = .non := by
  rcases h with h | ⟨_, _, h⟩
  · cases h; rfl
  · exact h.elim
theorem AR.tup {ds : List D} (h : AR K H Y v (.tup ds)) : ∃ a vs, v = .ref a ∧ SqT K H a vs ∧ Reps K H Y vs ds ∧ Rep K H Y v (.tup ds) := by
  rcases h with h | ⟨_, _, h⟩
  · have h0 := h
    cases h with
    | tup e _ r => exact ⟨_, _, rfl, SqT.of e, r, h0⟩
    | tupW e r => exact ⟨_, _, rfl, Or.inr e, r, h0⟩
  · exact h.elim
theorem AR.lst {ds : List D} (h : AR K H Y v (.lst ds)) : ∃ a vs, v = .ref a ∧ H a = some (.lst vs) ∧ Reps K H Y vs ds := by
  rcases h with h | ⟨a, e, vs, h, r⟩
  · cases h with
    | lst e _ r => exact ⟨_, _, rfl, e, r⟩
  · exact ⟨a, vs, e, h, r⟩
theorem AR.dic {ds : List (Key × D)} (h : AR K H Y v (.dic ds)) : ∃ a vs, v = .ref a ∧ H a = some (.dK vs) ∧ RepK K H Y vs ds := by
  rcases h with h | ⟨a, e, vs, h, r⟩
  · cases h with
    | dic e _ r => exact ⟨_, _, rfl, e, r⟩
  · exact ⟨a, vs, e, h, r⟩
theorem AR.scr {ns : List Int} (h : AR K H Y v (.scr ns)) : ∃ a, v = .ref a ∧ SqL K H a (ns.map V.int) := by
  rcases h with h | ⟨_, _, h⟩
  · cases h with
    | scr e _ => exact ⟨_, rfl, Or.inl (Or.inr ⟨_, e⟩)⟩
    | scrW e => exact ⟨_, rfl, Or.inr e⟩
  · exact h.elim
theorem ARs.two {vs : List V} {a b : D} (h : ARs K H Y vs [a, b]) : ∃ x y, vs = [x, y] ∧ AR K H Y x a ∧ AR K H Y y b := by
  cases h with
  | cons h r => cases r with
    | cons h2 r => cases r; exact ⟨_, _, rfl, h, h2⟩
theorem ARs.one {vs : List V} {a : D} (h : ARs K H Y vs [a]) : ∃ x, vs = [x] ∧ AR K H Y x a := by
  cases h with
  | cons h r => cases r; exact ⟨_, rfl, h⟩
theorem ARs.len : ∀ {vs : List V} {ds : List D}, ARs K H Y vs ds → vs.length = ds.length
  | _, _, .nil => rfl
  | _, _, .cons _ r => by simp [ARs.len r]
theorem same_new {p : Addr} {o : HO} (hp : H p = none) : Same H (upd H p o) := fun a u e => by rw [upd_ne (ne_of_none e hp)]; exact e
theorem new_tup {p : Addr} {vs : List V} {ds : List D} (hY : ∀ a, Y a → H a ≠ none) (hp : H p = none) (r : Reps K H Y vs ds) : PRes K H (upd H p (.tup vs)) Y (.ref p) (.val (.tup ds)) :=
  show Rep K (upd H p (.tup vs)) Y (.ref p) (.tup ds) from .tup upd_same (fun y => hY p y hp) (r.fr (Fr1.same (same_new hp)))
theorem new_lst {p : Addr} {vs : List V} {ds : List D} (hp : H p = none) (r : Reps K H Y vs ds) : PRes K H (upd H p (.lst vs)) Y (.ref p) (.fr (.lst ds)) :=
  ⟨p, rfl, hp, vs, upd_same, r.fr ⟨fun a o e _ => same_new hp a o e, fun a y => y.elim .inl fun e => .inr (by rw [e]; exact hp)⟩⟩
theorem new_dic {p : Addr} {vs : List (Key × V)} {ds : List (Key × D)} (hp : H p = none) (r : RepK K H Y vs ds) : PRes K H (upd H p (.dK vs)) Y (.ref p) (.fr (.dic ds)) :=
  ⟨p, rfl, hp, vs, upd_same, r.fr ⟨fun a o e _ => same_new hp a o e, fun a y => y.elim .inl fun e => .inr (by rw [e]; exact hp)⟩⟩
theorem ixN_len {vs : List V} {ds : List D} {i : Int} {d : D} (r : Reps K H Y vs ds) (h : ixD ds i = some d) : ∃ v, atI vs i = some v ∧ Rep K H Y v d := by
  unfold ixD atI at h
  cases e : ixN ds.length i with
  | none => rw [e] at h; cases h
  | some j =>
    rw [e] at h
    obtain ⟨v, hv, rv⟩ := r.get (show ds[j]? = some d from h)
    refine ⟨v, ?_, rv⟩
    unfold atI
    rw [r.len, e]
    exact hv
theorem cut_reps {vs : List V} {ds : List D} (lo hi : Option Int) (r : Reps K H Y vs ds) : Reps K H Y (cutV vs lo hi) (cutD ds lo hi) := by
  unfold cutV cutD
  rw [r.len]
  exact (r.drop _).take _
theorem intsD_ok : ∀ {ds : List D} {ns : List Int}, intsD ds = some ns → ds = ns.map D.int
  | [], _, h => by simp only [intsD, Option.some.injEq] at h; subst h; rfl
  | .int i :: r, ns, h => by
    simp only [intsD] at h
    cases e : intsD r with
    | none => rw [e] at h; cases h
    | some ms =>
      rw [e] at h
      simp only [Option.map_some, Option.some.injEq] at h
      subst h
      rw [List.map_cons, ← intsD_ok e]
  | .non :: _, _, h => by cases h
  | .bl _ :: _, _, h => by cases h
  | .str _ :: _, _, h => by cases h
  | .tup _ :: _, _, h => by cases h
  | .lst _ :: _, _, h => by cases h
  | .dic _ :: _, _, h => by cases h
  | .scr _ :: _, _, h => by cases h
theorem blsD_ok : ∀ {ds : List D} {ns : List Bool}, blsD ds = some ns → ds = ns.map D.bl
  | [], _, h => by simp only [blsD, Option.some.injEq] at h; subst h; rfl
  | .bl i :: r, ns, h => by
    simp only [blsD] at h
    cases e : blsD r with
    | none => rw [e] at h; cases h
    | some ms =>
      rw [e] at h
      simp only [Option.map_some, Option.some.injEq] at h
      subst h
      rw [List.map_cons, ← blsD_ok e]
  | .non :: _, _, h => by cases h
  | .int _ :: _, _, h => by cases h
  | .str _ :: _, _, h => by cases h
  | .tup _ :: _, _, h => by cases h
  | .lst _ :: _, _, h => by cases h
  | .dic _ :: _, _, h => by cases h
  | .scr _ :: _, _, h => by cases h
theorem strsD_ok : ∀ {ds : List D} {ns : List Str}, strsD ds = some ns → ds = ns.map D.str
  | [], _, h => by simp only [strsD, Option.some.injEq] at h; subst h; rfl
  | .str i :: r, ns, h => by
    simp only [strsD] at h
    cases e : strsD r with
    | none => rw [e] at h; cases h
    | some ms =>
      rw [e] at h
      simp only [Option.map_some, Option.some.injEq] at h
      subst h
      rw [List.map_cons, ← strsD_ok e]
  | .non :: _, _, h => by cases h
  | .int _ :: _, _, h => by cases h
  | .bl _ :: _, _, h => by cases h
  | .tup _ :: _, _, h => by cases h
  | .lst _ :: _, _, h => by cases h
  | .dic _ :: _, _, h => by cases h
  | .scr _ :: _, _, h => by cases h
end
/-! ### sorting ints -/
theorem insD_perm (x : Int) : ∀ l : List Int, (insD x l).Perm (x :: l)
  | [] => .refl _
  | y :: r => by
    unfold insD
    split
    · exact .refl _
    · exact ((insD_perm x r).cons y).trans (.swap x y r)
theorem sortI_perm : ∀ l : List Int, (sortI l).Perm l
  | [] => .refl _
  | x :: r => (insD_perm x _).trans ((sortI_perm r).cons x)
theorem insD_sorted (x : Int) : ∀ {l : List Int}, l.Pairwise (· ≤ ·) → (insD x l).Pairwise (· ≤ ·)
  | [], _ => List.pairwise_singleton _ _
  | y :: r, h => by
    unfold insD
    split
    · rename_i hxy
      refine List.pairwise_cons.mpr ⟨fun z hz => ?_, h⟩
      rcases List.mem_cons.mp hz with rfl | hz
      · exact hxy
      · exact Int.le_trans hxy ((List.pairwise_cons.mp h).1 z hz)
    · rename_i hxy
      refine List.pairwise_cons.mpr ⟨fun z hz => ?_, insD_sorted x (List.pairwise_cons.mp h).2⟩
      rcases List.mem_cons.mp ((insD_perm x r).mem_iff.mp hz) with rfl | hz
      · omega
      · exact (List.pairwise_cons.mp h).1 z hz
theorem sortI_sorted : ∀ l : List Int, (sortI l).Pairwise (· ≤ ·)
  | [] => .nil
  | x :: r => insD_sorted x (sortI_sorted r)
theorem sorted_unique : ∀ {a b : List Int}, a.Perm b → a.Pairwise (· ≤ ·) → b.Pairwise (· ≤ ·) → a = b := fun p ha hb =>
  p.eq_of_pairwise (fun _ _ _ _ h1 h2 => Int.le_antisymm h1 h2) ha hb
end Ofw
/-! Ofw G: defs where no repr is under way -/
namespace Ofw
open PySem L2
open PySem.Spec PyProof.Rows
theorem deeper_guards {A : Around} (env : Env) (h : A.guards = some []) : (A.deeper env).guards = some [] := by
  exact h
/-- a def's promise, called where no repr is under way -/
structure FnG (P : Program) (w : World) (K : PySem.W.Frag) (mg : Str → Option Value) (base : Heap) (k : Nat) (f : Addr) (fd : FuncData) (ps : List Str) (sp : Sp) : Prop where
  len : ∀ vs H Q E, sp vs H Q E → vs.length = ps.length
  run : ∀ (A : Around) (outer : List Env) (s : Shared) (H : Hp) (args : Args) (us : List Value) (vs : List V) (Q : VK) (E : XK), A.guards = some [] → Room k A → Env0 P w K mg base A outer s H → BindsTo s fd args (ps.zip us) → Vals vs us → sp vs H Q E →
    codeAny (model P w) A (.call (.ref f) args) (CR CX0 outer P w H s Q E) s
section
variable {P : Program} {w : World} {K : PySem.W.Frag} {mg : Str → Option Value} {base : Heap} {k : Nat} {f : Addr} {fd : FuncData} {ps : List Str} {sp : Sp}
theorem fnG_of {x qual : Str} {st : Stmt} {N : List Str} (F : Fun K x qual st f fd) (S : FnScope N ps (defScope st)) (len : ∀ vs H Q E, sp vs H Q E → vs.length = ps.length)
    (body : ∀ (cdv : Value) (A : Around) (outer : List Env) (s : Shared) (H : Hp) (vs : List V) (Q : VK) (E : XK), A.guards = some [] → Room k (A.deeper (envOfC qual (defScope st) s.heap.objs.size f cdv)) → sp vs H Q E →
      ∃ t, PSs (cxOf CX0 P w K mg base N qual (defScope st) f cdv A outer s H E).nox (defBody st) t ∧ t { nx := fun _ H' => Q .non H', rt := Q } (L2.start N vs) H) : FnG P w K mg base (k + 1) f fd ps sp := by
  obtain ⟨oc, od, kV, doc, pm, an, cdv, ct, osl, e, look, hcd⟩ := F.ex
  subst e
  refine ⟨len, fun A outer s H args us vs Q E gu room en hb rv q => ?_⟩
  have n := len vs H Q E q
  have ki : K.In s.heap := en.mod.kin.keeps fun b o e => (en.bs b o e).1
  have li : s.heap.NoLimit := en.mod.nolimit.keeps fun b o e => (en.bs b o e).1
  have kinds : ∀ y ∈ ps.zip us, (defScope st).names.lookup y.1 = some .local ∨ ((defScope st).names.lookup y.1 = some .cell ∧ ((cellsFrom (s.heap.objs.size + 1) (defScope st).names []).lookup y.1).isSome = true) := by
    rintro ⟨y, v⟩ hy
    cases S.par y (List.of_mem_zip hy).1 with
    | inl q => exact .inl q
    | inr q => exact .inr ⟨q, PySem.W.cellsFrom_some _ _ _ (.inl q)⟩
  apply codeAny_call_function room.depth (ki _ _ look) rfl S.co S.gen rfl (PySem.W.codeRec_of ki hcd)
  apply hb
  apply wpAny_newFunctionEnv_cells S.kind kinds
  intro env he s1 inc
  cases he
  refine ⟨li.keeps inc.toInCall.keep, codeAny_func ?_⟩
  obtain ⟨t, pt, hq⟩ := body cdv A outer s H vs Q E gu (room.deeper _) q
  have inv : Inv (cxOf CX0 P w K mg base N qual (defScope st) f cdv A outer s H E) [] (L2.start N vs) H s1 := inv_start S room.hd en n rv inc
  have pt' : PSs (cxOf CX0 P w K mg base N qual (defScope st) f cdv A outer s H E) (defBody st) t := pt.nox
  refine wpAny_mono (pt'.run [] s1 _ H _ inv hq) ?_ (fun _ _ h => h)
  intro fl s' hs
  cases fl with
  | ret u => obtain ⟨v, σ', H', J, r, z⟩ := hs; exact ⟨v, H', J.os, J.bare, J.base, J.hok, r, z⟩
  | next => obtain ⟨σ', H', J, z⟩ := hs; exact ⟨V.non, H', J.os, J.bare, J.base, J.hok, rfl, z⟩
  | brk => obtain ⟨_, _, _, z⟩ := hs; exact z.elim
  | cont => obtain ⟨_, _, _, z⟩ := hs; exact z.elim
end
section
variable {X : Cx} {k : Nat} {f : Addr} {fd : FuncData} {ps : List Str} {sp : Sp} {x : Str} {p pos : Pos} {e : Expr} {es : List Expr} {t : TA}
theorem runG {pins : List (Addr × Obj)} {σ : L2.St} {H : Hp} {s : Shared} {Q : VK} {ws : List Value} {vs : List V} {args : Args} (F : FnG X.prog X.w X.K X.mg X.base k f fd ps sp) (gu : X.A.guards = some []) (room : Room k X.A) (hb : BindsTo s fd args (ps.zip ws))
    (I : Inv X pins σ H s) (r : Vals vs ws) (q : sp vs H Q E0) : codeAny (model X.prog X.w) X.A (.call (.ref f) args) (fun r s' => match r with | .ok (.ret u) => EP X pins σ Q u s' | _ => False) s := by
  refine codeAny_mono (F.run X.A X.stack s H args ws vs Q E0 gu room I.env0 hb r q) ?_
  intro r s' h
  match r, h with
  | .ok (.ret u), h => exact I.after h
  | .ok .next, h => exact h.elim
  | .ok .brk, h => exact h.elim
  | .ok .cont, h => exact h.elim
  | .error e, h => exact h.elim
theorem wp_of_code {pins : List (Addr × Obj)} {σ : L2.St} {Q : VK} {s : Shared} {us : List Value} {kw : List (Str × Value)} (h : codeAny (model X.prog X.w) X.A (.call (.ref f) ⟨us, kw⟩) (fun r s' => match r with | .ok (.ret u) => EP X pins σ Q u s' | _ => False) s) :
    wpAny (model X.prog X.w) X.A (call (.ref f) us kw) (EP X pins σ Q) X.xe s := by
  refine wpAny_call (codeAny_mono h ?_)
  intro r s' h
  match r, h with
  | .ok (.ret u), h => exact h
  | .ok .next, h => exact h.elim
  | .ok .brk, h => exact h.elim
  | .ok .cont, h => exact h.elim
  | .error e, h => exact h.elim
/-- f(e, ..) -/
theorem peG_call (F : FnG X.prog X.w X.K X.mg X.base k f fd ps sp) (gu : X.A.guards = some []) (room : Room k X.A) (hg : Gl X x) (hm : X.mg x = some (.ref f)) (hk : PySem.W.keepIn X.K (.ref f) = true) (hb : Binds X.K fd ps [])
    (ha : PA X (e :: es) t) (hdb : (x == ("__debug__" : Str)) = false) (he : starEach (e :: es) X.env = (false, eval e X.env) :: starEach es X.env) (hpl : (backTo pos (starEach es X.env)).any (·.1) = false) :
    PE X (.Call (.Name x p) (e :: es) [] pos) (fun σ H Q => t σ H fun vs H1 => sp vs H1 Q E0) := by
  refine ⟨fun pins s σ H Q I h => wpAny_Call_Name_kw (ld_glob I hg hm ?_ hdb)⟩
  apply PySem.W.callWith_K (h₀ := X.base) I.ok.mod.kin hk _ he hpl
  refine thn (ha.run pos pins s σ H _ I h) ?_
  rintro us s1 ⟨vs, H1, I1, r, q⟩
  refine ⟨I1.kIn, wp_of_code (runG (ws := us) F gu room ?_ I1 r q)⟩
  have := hb s1 us I1.kIn (by rw [List.append_nil, ← r.length]; exact F.len _ _ _ _ q)
  rw [List.append_nil] at this
  exact this
end
end Ofw
/-! Ofw G1: rules on texts that lacked -/
namespace Ofw
open PySem L2
theorem repS_one (x : Str) : repS x 1 = x := by
  unfold repS
  simp
theorem repS_nil (x : Str) (h : x.length = 0) (n : Nat) : repS x n = x := by
  have e : x.cps = #[] := by
    have : x.cps.size = 0 := h
    exact Array.eq_empty_of_size_eq_zero this
  have : ∀ n : Nat, (List.replicate n x.cps).foldl (· ++ ·) #[] = #[] := fun n => by
    induction n with
    | zero => rfl
    | succ n ih => rw [List.replicate_succ, List.foldl_cons, e]; rw [e] at ih; exact ih
  unfold repS
  rw [this, ← e]
theorem repS_len (x : Str) (n : Nat) : (repS x n).length = x.length * n := by
  have : ∀ (n : Nat) (acc : Array Nat), ((List.replicate n x.cps).foldl (· ++ ·) acc).size = acc.size + x.cps.size * n := fun n => by
    induction n with
    | zero => intro acc; simp
    | succ n ih => intro acc; rw [List.replicate_succ, List.foldl_cons, ih, Array.size_append, Nat.mul_succ]; omega
  show ((List.replicate n x.cps).foldl (· ++ ·) #[]).size = _
  rw [this]
  simp [Str.length]
section
variable {X : Cx}
/-- x * n, a text -/
theorem op_mulS : OpR X (binaryOp .Mult) (fun x y H Q => ∃ (a : Str) (n : Int), x = .str a ∧ y = .int n ∧ 0 ≤ n ∧ n ≤ 10000 ∧ a.length ≤ 1000 ∧ Q (.str (repS a n.toNat)) H) := by
  intro pins s σ H x y v u Q I rx ry h
  obtain ⟨a, n, rfl, rfl, h0, h1, h2, q⟩ := h
  obtain ⟨t, rfl⟩ := rx
  obtain ⟨t', rfl⟩ := ry
  have ok : ∀ (u : Value) (k : Nat), RelV (.str (repS a n.toNat)) u → EP X pins σ Q u { s with toks := k } := fun u k r => ⟨.str (repS a n.toNat), H, I.tok k, r, q⟩
  have hz : a.length * n.toNat ≤ 1000 * 10000 := Nat.mul_le_mul h2 (by omega)
  refine PySem.P.mul_str ?_ (fun _ _ => ?_) (fun _ _ => ?_) ?_
  · rw [decide_eq_false (by omega), decide_eq_false (by omega)]; rfl
  · have : (2 ^ 63 - 1 : Int) / n ≥ (2 ^ 63 - 1) / 10000 := by
      rcases Int.lt_or_le 0 n with hp | hp
      · apply Int.le_ediv_of_mul_le hp
        omega
      · omega
    omega
  · unfold Builtin.Str.tooLong
    rw [decide_eq_false]
    have : sizeLine = 16777216 := by decide
    omega
  · split
    · have e : n = 0 := by omega
      subst e
      exact ⟨by decide, ok _ _ ⟨_, rfl⟩⟩
    · split
      · rename_i h3
        have e : repS a n.toNat = a := by
          rw [Bool.or_eq_true] at h3
          rcases h3 with h3 | h3
          · have : n = 1 := by simpa using h3
            subst this
            exact repS_one a
          · exact repS_nil a (by simpa using h3) _
        have := ok (.str a t) s.toks (by rw [e]; exact ⟨_, rfl⟩)
        exact this
      · exact ⟨by rw [show (⟨(List.replicate n.toNat a.cps).foldl (· ++ ·) #[]⟩ : Str) = repS a n.toNat from rfl, repS_len]; have : sizeLine = 16777216 := by decide
                  omega, ok _ _ ⟨_, rfl⟩⟩
end
end Ofw
/-! Ofw 5: each operation's rule -/
namespace Ofw
open PySem L2
section
variable {X : Cx}
theorem r_bin {op : Operator} : OpR X (binaryOp op) (fun x y => rTag X.K (.bin op) [x, y]) := by
  intro pins s σ H x y v u Q I rx ry ⟨Y, ds, res, hY, ar, h, q⟩
  cases ar with
  | cons ha ar => cases ar with
    | cons hb ar => cases ar with
      | nil =>
        rename_i a b
        simp only [primD, prBin] at h
        unfold binD at h
        split at h
        · obtain rfl := ha.int; obtain rfl := hb.int
          cases h
          exact op_add pins s σ H _ _ v u Q I rx ry ⟨_, _, rfl, rfl, q _ H (Same.refl H) (.int _)⟩
        · obtain rfl := ha.str; obtain rfl := hb.str
          split at h
          · cases h
            exact op_add_str pins s σ H _ _ v u Q I rx ry ⟨_, _, rfl, rfl, ‹_›, q _ H (Same.refl H) (.str _)⟩
          · cases h
        · obtain ⟨p, vs, rfl, st, r, rp⟩ := ha.tup
          obtain ⟨p', vs', rfl, st', r', rp'⟩ := hb.tup
          split at h
          · rename_i hz
            cases h
            rw [← r.len, ← r'.len] at hz
            refine op_catA pins s σ H _ _ v u Q I rx ry ⟨_, _, vs, vs', rfl, rfl, st, st', hz, fun e => ?_, fun _ e => ?_, fun _ _ p hp => ?_⟩
            · subst e
              cases r
              exact q _ H (Same.refl H) rp'
            · subst e
              cases r'
              refine q _ H (Same.refl H) ?_
              rw [List.append_nil]; exact rp
            · exact q _ _ (same_new hp) (new_tup hY hp (r.app r'))
          · cases h
        · obtain ⟨p, vs, rfl, e, r⟩ := ha.lst
          obtain ⟨p', vs', rfl, e', r'⟩ := hb.lst
          split at h
          · rename_i hz
            cases h
            rw [← r.len, ← r'.len] at hz
            exact op_cat pins s σ H _ _ v u Q I rx ry ⟨_, _, vs, vs', rfl, rfl, e, e', hz, fun p hp => q _ _ (same_new hp) (new_lst hp (r.app r'))⟩
          · cases h
        · obtain rfl := ha.int; obtain rfl := hb.int
          cases h
          exact op_sub pins s σ H _ _ v u Q I rx ry ⟨_, _, rfl, rfl, q _ H (Same.refl H) (.int _)⟩
        · obtain rfl := ha.int; obtain rfl := hb.int
          split at h
          · rename_i hm
            cases h
            rcases hm with hm | hm
            · exact op_mul pins s σ H _ _ v u Q I rx ry ⟨_, _, rfl, rfl, by unfold CMul; omega, q _ H (Same.refl H) (.int _)⟩
            · exact op_mulW pins s σ H _ _ v u Q I rx ry ⟨_, _, rfl, rfl, hm, q _ H (Same.refl H) (.int _)⟩
          · cases h
        · obtain rfl := ha.str; obtain rfl := hb.int
          split at h
          · rename_i hm
            cases h
            exact op_mulS pins s σ H _ _ v u Q I rx ry ⟨_, _, rfl, rfl, hm.1, hm.2.1, hm.2.2, q _ H (Same.refl H) (.str _)⟩
          · cases h
        · obtain rfl := ha.int; obtain rfl := hb.int
          split at h
          · cases h
            exact op_fdivW pins s σ H _ _ v u Q I rx ry ⟨_, _, rfl, rfl, ‹_›, q _ H (Same.refl H) (.int _)⟩
          · cases h
        · obtain rfl := ha.int; obtain rfl := hb.int
          split at h
          · cases h
            exact op_mod pins s σ H _ _ v u Q I rx ry ⟨_, _, rfl, rfl, ‹_›, q _ H (Same.refl H) (.int _)⟩
          · cases h
        · obtain rfl := ha.int; obtain rfl := hb.int
          split at h
          · cases h
            exact op_pow pins s σ H _ _ v u Q I rx ry ⟨_, _, rfl, rfl, ‹_›, q _ H (Same.refl H) (.int _)⟩
          · cases h
        · cases h
/-! ### comparisons -/
mutual
theorem eqv_toP : ∀ (a b : D), okD a = true → okD b = true → PyData.eqv (toP a) (toP b) = eqv a b
  | .non, b, _, hb => by cases b <;> simp_all [okD, toP, PyData.eqv, eqv]
  | .bl _, b, _, hb => by cases b <;> simp_all [okD, toP, PyData.eqv, eqv]
  | .int _, b, _, hb => by cases b <;> simp_all [okD, toP, PyData.eqv, eqv]
  | .str _, b, _, hb => by cases b <;> simp_all [okD, toP, PyData.eqv, eqv]
  | .tup xs, b, ha, hb => by
    cases b <;> try simp_all [okD, toP, PyData.eqv, eqv]
    exact eqvs_toP xs _ ha hb
  | .lst xs, b, ha, hb => by
    cases b <;> try simp_all [okD, toP, PyData.eqv, eqv]
    exact eqvs_toP xs _ ha hb
  | .dic _, b, ha, hb => by simp [okD] at ha
  | .scr _, b, ha, hb => by simp [okD] at ha
theorem eqvs_toP : ∀ (a b : List D), okDs a = true → okDs b = true → PyData.eqvAll (toPs a) (toPs b) = eqvs a b
  | [], [], _, _ => by simp [toPs, PyData.eqvAll, eqvs]
  | [], _ :: _, _, _ => by simp [toPs, PyData.eqvAll, eqvs]
  | _ :: _, [], _, _ => by simp [toPs, PyData.eqvAll, eqvs]
  | x :: xs, y :: ys, ha, hb => by
    simp only [okDs, Bool.and_eq_true] at ha hb
    simp only [toPs, PyData.eqvAll, eqvs, eqv_toP x y ha.1 hb.1, eqvs_toP xs ys ha.2 hb.2]
end
mutual
theorem lay_toP : ∀ d : D, okD d = true → (toP d).canLay0 = true
  | .non, _ => by simp [toP, PyData.canLay0]
  | .bl _, _ => by simp [toP, PyData.canLay0]
  | .int _, _ => by simp [toP, PyData.canLay0]
  | .str _, h => by simpa [toP, PyData.canLay0, okD] using h
  | .tup ds, h => by simp only [toP, PyData.canLay0]; exact lays_toP ds (by simpa [okD] using h)
  | .lst ds, h => by simp only [toP, PyData.canLay0]; exact lays_toP ds (by simpa [okD] using h)
  | .dic _, _ => by simp [toP, PyData.canLay0]
  | .scr _, _ => by simp [toP, PyData.canLay0]
theorem lays_toP : ∀ ds : List D, okDs ds = true → PyData.canLayAll0 (toPs ds) = true
  | [], _ => by simp [toPs, PyData.canLayAll0]
  | d :: ds, h => by
    simp only [okDs, Bool.and_eq_true] at h
    simp only [toPs, PyData.canLayAll0, lay_toP d h.1, lays_toP ds h.2, Bool.and_self]
end
mutual
theorem dep_toP : ∀ d : D, (toP d).depth = depD d
  | .non => by simp [toP, PyData.depth, depD]
  | .bl _ => by simp [toP, PyData.depth, depD]
  | .int _ => by simp [toP, PyData.depth, depD]
  | .str _ => by simp [toP, PyData.depth, depD]
  | .tup ds => by simp [toP, PyData.depth, depD, deps_toP ds]
  | .lst ds => by simp [toP, PyData.depth, depD, deps_toP ds]
  | .dic _ => by simp [toP, PyData.depth, depD]
  | .scr _ => by simp [toP, PyData.depth, depD]
theorem deps_toP : ∀ ds : List D, PyData.depthAll (toPs ds) = depDs ds
  | [] => by simp [toPs, PyData.depthAll, depDs]
  | d :: ds => by simp [toPs, PyData.depthAll, depDs, dep_toP d, deps_toP ds]
end
theorem shaped_toP {d : D} (h : fitD d = true) : SeqAt.shaped (toP d) = true := by
  unfold fitD at h
  simp only [Bool.and_eq_true, decide_eq_true_eq] at h
  unfold SeqAt.shaped
  rw [lay_toP d h.1, dep_toP d]
  simp [h.2]
mutual
theorem dp_of {K : PySem.W.Frag} {H : Hp} {Y : Ys} : ∀ {v : V} {d : D}, Rep K H Y v d → okD d = true → Dp K H v (toP d)
  | _, _, .non, _ => by simp only [toP]; exact .non
  | _, _, .bl b, _ => by simp only [toP]; exact .bl b
  | _, _, .int i, _ => by simp only [toP]; exact .int i
  | _, _, .str x, _ => by simp only [toP]; exact .str x
  | _, _, .tup h _ r, o => by simp only [toP]; exact .tup (SqT.of h) (dps_of r (by simpa [okD] using o))
  | _, _, .tupW h r, o => by simp only [toP]; exact .tup (Or.inr h) (dps_of r (by simpa [okD] using o))
  | _, _, .lst h _ r, o => by simp only [toP]; exact .lst (SqL.of h) (dps_of r (by simpa [okD] using o))
  | _, _, .dic _ _ _, o => by simp [okD] at o
  | _, _, .scr _ _, o => by simp [okD] at o
  | _, _, .scrW _, o => by simp [okD] at o
theorem dps_of {K : PySem.W.Frag} {H : Hp} {Y : Ys} : ∀ {vs : List V} {ds : List D}, Reps K H Y vs ds → okDs ds = true → DpAll K H vs (toPs ds)
  | _, _, .nil, _ => by simp only [toPs]; exact .nil
  | _, _, .cons h r, o => by
    simp only [okDs, Bool.and_eq_true] at o
    simp only [toPs]
    exact .cons (dp_of h o.1) (dps_of r o.2)
end
theorem dp_ar {K : PySem.W.Frag} {H : Hp} {Y : Ys} {v : V} {d : D} (h : AR K H Y v d) (o : okD d = true) : Dp K H v (toP d) := by
  rcases h with h | ⟨a, rfl, b⟩
  · exact dp_of h o
  · cases d <;> first | exact b.elim | skip
    · obtain ⟨vs, e, r⟩ := b
      simp only [toP]
      exact .lst (SqL.of e) (dps_of r (by simpa [okD] using o))
    · simp [okD] at o
theorem scal_ar {K : PySem.W.Frag} {H : Hp} {Y : Ys} {x y : V} {a b : D} (ha : AR K H Y x a) (hb : AR K H Y y b) (h : scalD a b = true) : scal x y = true ∧ decide (x = y) = eqv a b := by
  cases a <;> cases b <;> simp only [scalD] at h <;> try cases h
  all_goals first | (obtain rfl := ha.int) | (obtain rfl := ha.bl) | (obtain rfl := ha.str) | (obtain rfl := ha.non)
  all_goals first | (obtain rfl := hb.int) | (obtain rfl := hb.bl) | (obtain rfl := hb.str) | (obtain rfl := hb.non)
  all_goals first
    | exact ⟨rfl, dec_int⟩
    | exact ⟨rfl, dec_bl⟩
    | exact ⟨rfl, dec_str⟩
    | exact ⟨rfl, by simp [eqv]⟩
theorem r_eq (hu : X.A.units + 64 < cLine) {x y : V} {a b : D} {H : Hp} {Y : Ys} {k : Bool} (ha : AR X.K H Y x a) (hb : AR X.K H Y y b) (h : eqD a b = some k) {pins : List (Addr × Obj)} {s : Shared} {σ : L2.St} {v u : Value} {Q : VK} (I : Inv X pins σ H s) (rx : RelV x v) (ry : RelV y u)
    (q : Q (.bl k) H) : wpAny (model X.prog X.w) X.A (compareOp .Eq v u) (EP X pins σ Q) X.xe s := by
  unfold eqD at h
  split at h
  · rename_i hs
    obtain ⟨h1, h2⟩ := scal_ar ha hb hs
    cases h
    exact op_eq pins s σ H x y v u Q I rx ry ⟨h1, by rw [h2]; exact q⟩
  · split at h
    · rename_i hf
      simp only [Bool.and_eq_true] at hf
      cases h
      have oa : okD a = true := by have := hf.1; unfold fitD at this; simp only [Bool.and_eq_true] at this; exact this.1
      have ob : okD b = true := by have := hf.2; unfold fitD at this; simp only [Bool.and_eq_true] at this; exact this.1
      refine op_eqD hu pins s σ H x y v u Q I rx ry ⟨toP a, toP b, dp_ar ha oa, dp_ar hb ob, shaped_toP hf.1, shaped_toP hf.2, ?_⟩
      rw [eqv_toP a b oa ob]; exact q
    · cases h
theorem r_ne (hu : X.A.units + 64 < cLine) {x y : V} {a b : D} {H : Hp} {Y : Ys} {k : Bool} (ha : AR X.K H Y x a) (hb : AR X.K H Y y b) (h : eqD a b = some k) {pins : List (Addr × Obj)} {s : Shared} {σ : L2.St} {v u : Value} {Q : VK} (I : Inv X pins σ H s) (rx : RelV x v) (ry : RelV y u)
    (q : Q (.bl (!k)) H) : wpAny (model X.prog X.w) X.A (compareOp .NotEq v u) (EP X pins σ Q) X.xe s := by
  unfold eqD at h
  split at h
  · rename_i hs
    obtain ⟨h1, h2⟩ := scal_ar ha hb hs
    cases h
    exact op_ne pins s σ H x y v u Q I rx ry ⟨h1, by rw [h2]; exact q⟩
  · split at h
    · rename_i hf
      simp only [Bool.and_eq_true] at hf
      cases h
      have oa : okD a = true := by have := hf.1; unfold fitD at this; simp only [Bool.and_eq_true] at this; exact this.1
      have ob : okD b = true := by have := hf.2; unfold fitD at this; simp only [Bool.and_eq_true] at this; exact this.1
      refine op_neD hu pins s σ H x y v u Q I rx ry ⟨toP a, toP b, dp_ar ha oa, dp_ar hb ob, shaped_toP hf.1, shaped_toP hf.2, ?_⟩
      rw [eqv_toP a b oa ob]; exact q
    · cases h
theorem flat_ar {K : PySem.W.Frag} {H : Hp} {Y : Ys} {x : V} {a : D} (ha : AR K H Y x a) (h : flatD a = true) : flatV x = true := by
  cases a <;> simp only [flatD] at h <;> try cases h
  · obtain rfl := ha.non; rfl
  · obtain rfl := ha.bl; rfl
  · obtain rfl := ha.int; rfl
  · obtain rfl := ha.str; rfl
theorem flat_reps {K : PySem.W.Frag} {H : Hp} {Y : Ys} : ∀ {vs : List V} {ds : List D}, Reps K H Y vs ds → ds.all flatD = true → vs.all flatV = true
  | _, _, .nil, _ => rfl
  | _, _, .cons h r, f => by
    simp only [List.all_cons, Bool.and_eq_true] at f ⊢
    exact ⟨flat_ar (.inl h) f.1, flat_reps r f.2⟩
theorem eqV_ar {K : PySem.W.Frag} {H : Hp} {Y : Ys} {x y : V} {a b : D} (ha : AR K H Y x a) (hb : AR K H Y y b) (fa : flatD a = true) (fb : flatD b = true) : eqV x y = eqv a b := by
  cases a <;> simp only [flatD] at fa <;> try cases fa
  all_goals cases b <;> simp only [flatD] at fb <;> try cases fb
  all_goals first | (obtain rfl := ha.int) | (obtain rfl := ha.bl) | (obtain rfl := ha.str) | (obtain rfl := ha.non)
  all_goals first | (obtain rfl := hb.int) | (obtain rfl := hb.bl) | (obtain rfl := hb.str) | (obtain rfl := hb.non)
  all_goals simp [eqV, eqv]
theorem inV_reps {K : PySem.W.Frag} {H : Hp} {Y : Ys} {x : V} {a : D} (ha : AR K H Y x a) (fa : flatD a = true) : ∀ {vs : List V} {ds : List D}, Reps K H Y vs ds → ds.all flatD = true → inV x vs = inD a ds
  | _, _, .nil, _ => rfl
  | _, _, .cons h r, f => by
    simp only [List.all_cons, Bool.and_eq_true] at f
    have e := inV_reps ha fa r f.2
    unfold inV inD at e ⊢
    rw [List.any_cons, List.any_cons, e, eqV_ar (.inl h) ha f.1 fa]
theorem getK_ok {K : PySem.W.Frag} {H : Hp} {Y : Ys} (k : Key) : ∀ {vs : List (Key × V)} {ds : List (Key × D)}, RepK K H Y vs ds → (∀ d, getK ds k = some d → ∃ v, valV vs k = some v ∧ Rep K H Y v d) ∧ (getK ds k = none → valV vs k = none)
  | _, _, .nil => ⟨fun d h => by simp [getK] at h, fun _ => rfl⟩
  | _, _, .cons (k := k') h r => by
    have ih := getK_ok k r
    by_cases e : k' = k
    · subst e
      refine ⟨fun d hd => ?_, fun hn => ?_⟩
      · rw [valV_pos rfl]
        simp [getK, List.find?_cons] at hd
        subst hd
        exact ⟨_, rfl, h⟩
      · simp [getK, List.find?_cons] at hn
    · have e1 : ∀ (w : V) (r : List (Key × V)), valV ((k', w) :: r) k = valV r k := fun w r => valV_neg e
      rw [e1]
      have e2 : ∀ (d : D) (r : List (Key × D)), getK ((k', d) :: r) k = getK r k := fun d r => by simp [getK, List.find?_cons, e]
      rw [e2]
      exact ih
theorem r_cmp {op : CmpOp} (hu : X.A.units + 64 < cLine) : OpR X (compareOp op) (fun x y => rTag X.K (.cmp op) [x, y]) := by
  intro pins s σ H x y v u Q I rx ry ⟨Y, ds, res, hY, ar, h, q⟩
  have hu1 : X.A.units + 1 < cLine := by omega
  cases ar with
  | cons ha ar => cases ar with
    | cons hb ar => cases ar with
      | nil =>
        rename_i a b
        simp only [primD, prCmp] at h
        cases hc : cmpD op a b with
        | none => rw [hc] at h; cases h
        | some k =>
          rw [hc] at h
          simp only [Option.map_some, Option.some.injEq] at h
          subst h
          have q' : Q (.bl k) H := q _ H (Same.refl H) (.bl k)
          unfold cmpD at hc
          split at hc
          · exact r_eq hu ha hb hc I rx ry q'
          · cases he : eqD a b with
            | none => rw [he] at hc; cases hc
            | some j =>
              rw [he] at hc
              simp only [Option.map_some, Option.some.injEq] at hc
              subst hc
              exact r_ne hu ha hb he I rx ry q'
          · obtain rfl := ha.int; obtain rfl := hb.int; cases hc
            exact op_lt pins s σ H _ _ v u Q I rx ry ⟨_, _, rfl, rfl, q'⟩
          · obtain rfl := ha.int; obtain rfl := hb.int; cases hc
            exact op_le pins s σ H _ _ v u Q I rx ry ⟨_, _, rfl, rfl, q'⟩
          · obtain rfl := ha.int; obtain rfl := hb.int; cases hc
            exact op_gt pins s σ H _ _ v u Q I rx ry ⟨_, _, rfl, rfl, q'⟩
          · obtain rfl := ha.int; obtain rfl := hb.int; cases hc
            exact op_ge pins s σ H _ _ v u Q I rx ry ⟨_, _, rfl, rfl, q'⟩
          · obtain rfl := ha.non; obtain rfl := hb.non; cases hc
            exact op_isN pins s σ H _ _ v u Q I rx ry ⟨rfl, q'⟩
          · obtain rfl := ha.bl; obtain rfl := hb.non; cases hc
            exact op_isN pins s σ H _ _ v u Q I rx ry ⟨rfl, q'⟩
          · obtain rfl := ha.int; obtain rfl := hb.non; cases hc
            exact op_isN pins s σ H _ _ v u Q I rx ry ⟨rfl, q'⟩
          · obtain rfl := ha.str; obtain rfl := hb.non; cases hc
            exact op_isN pins s σ H _ _ v u Q I rx ry ⟨rfl, q'⟩
          · obtain ⟨_, _, rfl, _⟩ := ha.tup; obtain rfl := hb.non; cases hc
            exact op_isN pins s σ H _ _ v u Q I rx ry ⟨rfl, q'⟩
          · obtain ⟨_, _, rfl, _⟩ := ha.lst; obtain rfl := hb.non; cases hc
            exact op_isN pins s σ H _ _ v u Q I rx ry ⟨rfl, q'⟩
          · obtain ⟨_, _, rfl, _⟩ := ha.dic; obtain rfl := hb.non; cases hc
            exact op_isN pins s σ H _ _ v u Q I rx ry ⟨rfl, q'⟩
          · rename_i i j
            obtain rfl := ha.bl; obtain rfl := hb.bl; cases hc
            refine op_isBl pins s σ H _ _ v u Q I rx ry ⟨_, _, rfl, rfl, ?_⟩
            have e : decide (i = j) = (i == j) := by cases i <;> cases j <;> rfl
            rw [e]; exact q'
          · obtain rfl := ha.non; obtain rfl := hb.non; cases hc
            exact op_notN pins s σ H _ _ v u Q I rx ry ⟨rfl, q'⟩
          · obtain rfl := ha.bl; obtain rfl := hb.non; cases hc
            exact op_notN pins s σ H _ _ v u Q I rx ry ⟨rfl, q'⟩
          · obtain rfl := ha.int; obtain rfl := hb.non; cases hc
            exact op_notN pins s σ H _ _ v u Q I rx ry ⟨rfl, q'⟩
          · obtain rfl := ha.str; obtain rfl := hb.non; cases hc
            exact op_notN pins s σ H _ _ v u Q I rx ry ⟨rfl, q'⟩
          · obtain ⟨_, _, rfl, _⟩ := ha.tup; obtain rfl := hb.non; cases hc
            exact op_notN pins s σ H _ _ v u Q I rx ry ⟨rfl, q'⟩
          · obtain ⟨_, _, rfl, _⟩ := ha.lst; obtain rfl := hb.non; cases hc
            exact op_notN pins s σ H _ _ v u Q I rx ry ⟨rfl, q'⟩
          · obtain ⟨_, _, rfl, _⟩ := ha.dic; obtain rfl := hb.non; cases hc
            exact op_notN pins s σ H _ _ v u Q I rx ry ⟨rfl, q'⟩
          · rename_i i j
            obtain rfl := ha.bl; obtain rfl := hb.bl; cases hc
            refine op_notBl pins s σ H _ _ v u Q I rx ry ⟨_, _, rfl, rfl, ?_⟩
            have e : decide (i = j) = (i == j) := by cases i <;> cases j <;> rfl
            rw [e]; exact q'
          · obtain ⟨p, vs, rfl, e, r⟩ := hb.lst
            split at hc
            · rename_i hf
              simp only [Bool.and_eq_true] at hf
              cases hc
              refine op_in_seq pins s σ H _ _ v u Q I rx ry ⟨p, vs, rfl, .inl (SqL.of e), flat_ar ha hf.1, flat_reps r hf.2, ?_⟩
              rw [inV_reps ha hf.1 r hf.2]; exact q'
            · cases hc
          · obtain ⟨p, vs, rfl, e, r, _⟩ := hb.tup
            split at hc
            · rename_i hf
              simp only [Bool.and_eq_true] at hf
              cases hc
              refine op_in_seq pins s σ H _ _ v u Q I rx ry ⟨p, vs, rfl, .inr e, flat_ar ha hf.1, flat_reps r hf.2, ?_⟩
              rw [inV_reps ha hf.1 r hf.2]; exact q'
            · cases hc
          · rename_i i kds
            obtain rfl := ha.int
            obtain ⟨p, kvs, rfl, e, r⟩ := hb.dic
            cases hc
            obtain rfl : u = Value.ref p := ry
            have g := DGet.k (k := (Sum.inl i : Key)) e
            refine d_in hu1 I g rx fun s3 I3 => ⟨.bl _, H, I3, rfl, ?_⟩
            have eq : (valV kvs (Sum.inl i : Key)).isSome = (getK kds (Sum.inl i : Key)).isSome := by
              obtain ⟨h1, h2⟩ := getK_ok (Sum.inl i : Key) r
              cases hg : getK kds (Sum.inl i : Key) with
              | none => rw [h2 hg]; rfl
              | some d => obtain ⟨w, hw, _⟩ := h1 d hg; rw [hw]; rfl
            rw [eq]; exact q'
          · rename_i i kds
            obtain rfl := ha.str
            obtain ⟨p, kvs, rfl, e, r⟩ := hb.dic
            cases hc
            obtain rfl : u = Value.ref p := ry
            have g := DGet.k (k := (Sum.inr i : Key)) e
            refine d_in hu1 I g rx fun s3 I3 => ⟨.bl _, H, I3, rfl, ?_⟩
            have eq : (valV kvs (Sum.inr i : Key)).isSome = (getK kds (Sum.inr i : Key)).isSome := by
              obtain ⟨h1, h2⟩ := getK_ok (Sum.inr i : Key) r
              cases hg : getK kds (Sum.inr i : Key) with
              | none => rw [h2 hg]; rfl
              | some d => obtain ⟨w, hw, _⟩ := h1 d hg; rw [hw]; rfl
            rw [eq]; exact q'
          · obtain ⟨p, vs, rfl, e, r⟩ := hb.lst
            split at hc
            · rename_i hf
              simp only [Bool.and_eq_true] at hf
              cases hc
              refine op_notIn_seq pins s σ H _ _ v u Q I rx ry ⟨p, vs, rfl, .inl (SqL.of e), flat_ar ha hf.1, flat_reps r hf.2, ?_⟩
              rw [inV_reps ha hf.1 r hf.2]; exact q'
            · cases hc
          · obtain ⟨p, vs, rfl, e, r, _⟩ := hb.tup
            split at hc
            · rename_i hf
              simp only [Bool.and_eq_true] at hf
              cases hc
              refine op_notIn_seq pins s σ H _ _ v u Q I rx ry ⟨p, vs, rfl, .inr e, flat_ar ha hf.1, flat_reps r hf.2, ?_⟩
              rw [inV_reps ha hf.1 r hf.2]; exact q'
            · cases hc
          · rename_i i kds
            obtain rfl := ha.int
            obtain ⟨p, kvs, rfl, e, r⟩ := hb.dic
            cases hc
            obtain rfl : u = Value.ref p := ry
            have g := DGet.k (k := (Sum.inl i : Key)) e
            refine d_notIn hu1 I g rx fun s3 I3 => ⟨.bl _, H, I3, rfl, ?_⟩
            have eq : (valV kvs (Sum.inl i : Key)).isSome = (getK kds (Sum.inl i : Key)).isSome := by
              obtain ⟨h1, h2⟩ := getK_ok (Sum.inl i : Key) r
              cases hg : getK kds (Sum.inl i : Key) with
              | none => rw [h2 hg]; rfl
              | some d => obtain ⟨w, hw, _⟩ := h1 d hg; rw [hw]; rfl
            rw [eq]; exact q'
          · rename_i i kds
            obtain rfl := ha.str
            obtain ⟨p, kvs, rfl, e, r⟩ := hb.dic
            cases hc
            obtain rfl : u = Value.ref p := ry
            have g := DGet.k (k := (Sum.inr i : Key)) e
            refine d_notIn hu1 I g rx fun s3 I3 => ⟨.bl _, H, I3, rfl, ?_⟩
            have eq : (valV kvs (Sum.inr i : Key)).isSome = (getK kds (Sum.inr i : Key)).isSome := by
              obtain ⟨h1, h2⟩ := getK_ok (Sum.inr i : Key) r
              cases hg : getK kds (Sum.inr i : Key) with
              | none => rw [h2 hg]; rfl
              | some d => obtain ⟨w, hw, _⟩ := h1 d hg; rw [hw]; rfl
            rw [eq]; exact q'
          · cases hc
end
end Ofw
/-! Ofw 6: each operation's rule, further -/
namespace Ofw
open PySem L2
section
variable {X : Cx}
theorem r_neg : UnR X (unaryOp .USub) (fun x => rTag X.K .neg [x]) := by
  intro pins s σ H x v Q I rx ⟨Y, ds, res, hY, ar, h, q⟩
  change prNeg ds = some res at h
  unfold prNeg at h
  split at h <;> try cases h
  obtain ⟨_, e, ha⟩ := ar.one
  cases e
  obtain rfl := ha.int
  exact un_neg pins s σ H _ v Q I rx ⟨_, rfl, q _ H (Same.refl H) (.int _)⟩
theorem r_tup {K : PySem.W.Frag} {vs : List V} {H : Hp} {Q : VK} (h : rTagV K .tup vs H Q) : vs.length ≤ sizeLine ∧ ∀ p, H p = none → Q (.ref p) (upd H p (.tup vs)) := by
  obtain ⟨Y, ds, res, hY, r, h, q⟩ := h
  simp only [primD, prTup] at h
  split at h
  · rename_i hl
    cases h
    exact ⟨by rw [r.len]; exact hl, fun p hp => q _ _ (same_new hp) (new_tup hY hp r)⟩
  · cases h
theorem r_lst {K : PySem.W.Frag} {vs : List V} {H : Hp} {Q : VK} (h : rTagV K .lst vs H Q) : vs.length ≤ sizeLine ∧ ∀ p, H p = none → Q (.ref p) (upd H p (.lst vs)) := by
  obtain ⟨Y, ds, res, hY, r, h, q⟩ := h
  simp only [primD, prLst] at h
  split at h
  · rename_i hl
    cases h
    exact ⟨by rw [r.len]; exact hl, fun p hp => q _ _ (same_new hp) (new_lst hp r)⟩
  · cases h
theorem ix_dict (hu : X.A.units + 1 < cLine) : IxR X (fun x y H Q => ∃ (a : Addr) (v : V), x = .ref a ∧ DGet H a y (some v) ∧ Q v H) := by
  intro value slice pins s σ H x y v u Q I rx ry ⟨a, z, ex, g, q⟩ hs
  subst ex
  obtain rfl : v = Value.ref a := rx
  exact PyProof.Rows.tail_any (dict_typeIs I g) PySem.F.slot_dict_getitem.lookup (d_getItem hu I g ry fun w' s3 I3 rw' => ⟨z, H, I3, rw', q⟩) hs
theorem r_idx (hu : X.A.units + 1 < cLine) : IxR X (fun x y => rTag X.K .idx [x, y]) := by
  intro value slice pins s σ H x y v u Q I rx ry ⟨Y, ds, res, hY, ar, h, q⟩ hs
  change prIdx ds = some res at h
  unfold prIdx at h
  split at h
  rotate_right
  · cases h
  · obtain ⟨x', y', e, ha, hb⟩ := ar.two
    cases e
    obtain rfl := hb.int
    obtain ⟨p, vs, rfl, e, r⟩ := ha.lst
    rename_i ds i
    cases hi : ixD ds i with
    | none => rw [hi] at h; cases h
    | some d =>
      rw [hi] at h
      simp only [Option.map_some, Option.some.injEq] at h
      subst h
      obtain ⟨w, hw, rw⟩ := ixN_len r hi
      exact ix_list value slice pins s σ H _ _ v u Q I rx ry ⟨p, vs, _, w, rfl, rfl, SqL.of e, hw, q _ H (Same.refl H) rw⟩ hs
  · obtain ⟨x', y', e, ha, hb⟩ := ar.two
    cases e
    obtain rfl := hb.int
    obtain ⟨p, vs, rfl, e, r, rp⟩ := ha.tup
    rename_i ds i
    cases hi : ixD ds i with
    | none => rw [hi] at h; cases h
    | some d =>
      rw [hi] at h
      simp only [Option.map_some, Option.some.injEq] at h
      subst h
      obtain ⟨w, hw, rw⟩ := ixN_len r hi
      exact ix_tup value slice pins s σ H _ _ v u Q I rx ry ⟨p, vs, _, w, rfl, rfl, e, hw, q _ H (Same.refl H) rw⟩ hs
  · obtain ⟨x', y', e, ha, hb⟩ := ar.two
    cases e
    obtain rfl := hb.int
    obtain ⟨p, rfl, sq⟩ := ha.scr
    rename_i ns i
    cases hi : ixD ns i with
    | none => rw [hi] at h; cases h
    | some n =>
      rw [hi] at h
      simp only [Option.map_some, Option.some.injEq] at h
      subst h
      refine ix_list value slice pins s σ H _ _ v u Q I rx ry ⟨p, _, _, .int n, rfl, rfl, sq, ?_, q _ H (Same.refl H) (.int n)⟩ hs
      unfold ixD atI at hi
      unfold atI
      rw [List.length_map]
      cases hj : ixN ns.length i with
      | none => rw [hj] at hi; cases hi
      | some j =>
        rw [hj] at hi
        have hi' : ns[j]? = some n := hi
        show (ns.map V.int)[j]? = some (.int n)
        rw [List.getElem?_map, hi']; rfl
  · obtain ⟨x', y', e, ha, hb⟩ := ar.two
    cases e
    obtain rfl := hb.int
    obtain rfl := ha.str
    rename_i z i
    split at h
    · rename_i hz
      cases hi : ixD z.cps.toList i with
      | none => rw [hi] at h; cases h
      | some c =>
        rw [hi] at h
        simp only [Option.map_some, Option.some.injEq] at h
        subst h
        exact ix_str value slice pins s σ H _ _ v u Q I rx ry ⟨z, i, c, rfl, rfl, hz, hi, q _ H (Same.refl H) (.str _)⟩ hs
    · cases h
  · obtain ⟨x', y', e, ha, hb⟩ := ar.two
    cases e
    obtain rfl := hb.int
    obtain ⟨p, kvs, rfl, e, r⟩ := ha.dic
    rename_i kds i
    cases hi : getK kds (Sum.inl i : Key) with
    | none => rw [hi] at h; cases h
    | some d =>
      rw [hi] at h
      simp only [Option.map_some, Option.some.injEq] at h
      subst h
      obtain ⟨w, hw, rw'⟩ := (getK_ok _ r).1 d hi
      have g := DGet.k (k := (Sum.inl i : Key)) e
      rw [hw] at g
      exact ix_dict hu value slice pins s σ H _ _ v u Q I rx ry ⟨p, w, rfl, g, q _ H (Same.refl H) rw'⟩ hs
  · obtain ⟨x', y', e, ha, hb⟩ := ar.two
    cases e
    obtain rfl := hb.str
    obtain ⟨p, kvs, rfl, e, r⟩ := ha.dic
    rename_i kds i
    cases hi : getK kds (Sum.inr i : Key) with
    | none => rw [hi] at h; cases h
    | some d =>
      rw [hi] at h
      simp only [Option.map_some, Option.some.injEq] at h
      subst h
      obtain ⟨w, hw, rw'⟩ := (getK_ok _ r).1 d hi
      have g := DGet.k (k := (Sum.inr i : Key)) e
      rw [hw] at g
      exact ix_dict hu value slice pins s σ H _ _ v u Q I rx ry ⟨p, w, rfl, g, q _ H (Same.refl H) rw'⟩ hs
def rSlcD (K : PySem.W.Frag) : V → Option Int → Option Int → Hp → VK → Prop := fun x lo hi H Q => ∃ (Y : Ys) (d : D) (res : Rs), (∀ a, Y a → H a ≠ none) ∧ AR K H Y x d ∧ slcD d lo hi = some res ∧ ∀ v H', Same H H' → PRes K H H' Y v res → Q v H'
theorem cut_ints (ns : List Int) (lo hi : Option Int) : cutV (ns.map V.int) lo hi = (cutD ns lo hi).map V.int := by
  unfold cutV cutD
  rw [List.length_map, List.map_take, List.map_drop]
theorem r_slc : SlR X (rSlcD X.K) := by
  intro pins s σ H x v vl vu lo hi sl Q I rx hs pl pu ⟨Y, d, res, hY, ha, h, q⟩
  unfold slcD at h
  split at h
  · obtain ⟨p, vs, rfl, e, r⟩ := ha.lst
    cases h
    exact sl_list pins s σ H _ v vl vu lo hi sl Q I rx hs pl pu ⟨p, vs, rfl, SqL.of e, fun p' hp => q _ _ (same_new hp) (new_lst hp (cut_reps lo hi r))⟩
  · rename_i ns
    obtain ⟨p, rfl, sq⟩ := ha.scr
    cases h
    refine sl_list pins s σ H _ v vl vu lo hi sl Q I rx hs pl pu ⟨p, _, rfl, sq, fun p' hp => q _ _ (same_new hp) ?_⟩
    rw [cut_ints]
    exact new_lst hp Reps.ofInts
  · obtain ⟨p, vs, rfl, e, r, rp⟩ := ha.tup
    rename_i ds
    cases h
    refine sl_tupA pins s σ H _ v vl vu lo hi sl Q I rx hs pl pu ⟨p, vs, rfl, e, fun hw => q _ H (Same.refl H) ?_, fun _ p' hp => q _ _ (same_new hp) (new_tup hY hp (cut_reps lo hi r))⟩
    have ec : cutD ds lo hi = ds := by
      rw [r.len] at hw
      unfold cutD
      rw [hw.1, hw.2]
      simp
    show Rep X.K H Y (.ref p) (.tup (cutD ds lo hi))
    rw [ec]; exact rp
  · rename_i z
    obtain rfl := ha.str
    split at h
    · cases h
      exact sl_str pins s σ H _ v vl vu lo hi sl Q I rx hs pl pu ⟨z, rfl, ‹_›, q _ H (Same.refl H) (.str _)⟩
    · cases h
  · cases h
/-- an int among the parts of a slice -/
theorem part_of {G : Gx} {rf : Nat → List Bool} {C : CallT} {e : Ex} {Z : Ys} {σ : L2.St} {H : Hp} {env env' : En} {r : Rs} {i : Int} {Q : Option Int → Hp → Prop} (g : Good G Z σ H env) (h : evalE rf C e env = some (r, env')) (hr : r.d = .int i)
    (q : ∀ H', Post G Z σ H env σ H' env' → Q (some i) H') : tPart (tE G rf C e) σ H Q :=
  ⟨Z, env, r, env', g, h, fun v H' p ro => by
    have rp := ro.rep g
    rw [hr] at rp
    cases rp
    exact ⟨i, rfl, q H' p⟩⟩
/-! ### builtin functions -/
theorem r_len : CallR X (.builtin "len") (rTag X.K .len) := by
  intro pins s σ H xs us Q I r ⟨Y, ds, res, hY, ar, h, q⟩
  change prLen ds = some res at h
  unfold prLen at h
  split at h
  · obtain ⟨x, rfl, ha⟩ := ar.one
    obtain ⟨p, vs, rfl, e, rr⟩ := ha.lst
    cases h
    refine call_len_seq pins s σ H _ us Q I r ⟨p, vs, rfl, .inl (SqL.of e), ?_⟩
    rw [rr.len]; exact q _ H (Same.refl H) (.int _)
  · obtain ⟨x, rfl, ha⟩ := ar.one
    obtain ⟨p, vs, rfl, e, rr, rp⟩ := ha.tup
    cases h
    refine call_len_seq pins s σ H _ us Q I r ⟨p, vs, rfl, .inr e, ?_⟩
    rw [rr.len]; exact q _ H (Same.refl H) (.int _)
  · obtain ⟨x, rfl, ha⟩ := ar.one
    obtain ⟨p, rfl, sq⟩ := ha.scr
    cases h
    refine call_len_seq pins s σ H _ us Q I r ⟨p, _, rfl, .inl sq, ?_⟩
    rw [List.length_map]; exact q _ H (Same.refl H) (.int _)
  · obtain ⟨x, rfl, ha⟩ := ar.one
    obtain ⟨p, vs, rfl, e, rr⟩ := ha.dic
    cases h
    refine call_lenD pins s σ H _ us Q I r ⟨p, vs, rfl, e, ?_⟩
    rw [rr.len]; exact q _ H (Same.refl H) (.int _)
  · obtain ⟨x, rfl, ha⟩ := ar.one
    obtain rfl := ha.str
    split at h
    · cases h
      exact call_len_str pins s σ H _ us Q I r ⟨_, rfl, ‹_›, q _ H (Same.refl H) (.int _)⟩
    · cases h
  · cases h
theorem r_int1 : CallR X (.type "int") (rTag X.K .int1) := by
  intro pins s σ H xs us Q I r ⟨Y, ds, res, hY, ar, h, q⟩
  change prInt1 ds = some res at h
  unfold prInt1 at h
  split at h
  · obtain ⟨x, rfl, ha⟩ := ar.one
    obtain rfl := ha.int
    cases h
    exact call_int1 pins s σ H _ us Q I r (.inl ⟨_, rfl, q _ H (Same.refl H) (.int _)⟩)
  · obtain ⟨x, rfl, ha⟩ := ar.one
    obtain rfl := ha.bl
    cases h
    exact call_int1 pins s σ H _ us Q I r (.inr ⟨_, rfl, q _ H (Same.refl H) (.int _)⟩)
  · cases h
theorem r_bool1 : CallR X (.type "bool") (rTag X.K .bool1) := by
  intro pins s σ H xs us Q I r ⟨Y, ds, res, hY, ar, h, q⟩
  change prBool1 ds = some res at h
  unfold prBool1 at h
  split at h
  · obtain ⟨x, rfl, ha⟩ := ar.one
    obtain rfl := ha.int
    cases h
    exact call_bool1 pins s σ H _ us Q I r (.inl ⟨_, rfl, q _ H (Same.refl H) (.bl _)⟩)
  · obtain ⟨x, rfl, ha⟩ := ar.one
    obtain rfl := ha.bl
    cases h
    exact call_bool1 pins s σ H _ us Q I r (.inr ⟨_, rfl, q _ H (Same.refl H) (.bl _)⟩)
  · cases h
theorem r_str1 : CallR X (.type "str") (rTag X.K .str1) := by
  intro pins s σ H xs us Q I r ⟨Y, ds, res, hY, ar, h, q⟩
  change prStr1 ds = some res at h
  unfold prStr1 at h
  split at h
  · obtain ⟨x, rfl, ha⟩ := ar.one
    obtain rfl := ha.int
    split at h
    · cases h
      exact call_str_int pins s σ H _ us Q I r ⟨_, rfl, ‹_›, q _ H (Same.refl H) (.str _)⟩
    · cases h
  · cases h
theorem r_abs1 : CallR X (.builtin "abs") (rTag X.K .abs1) := by
  intro pins s σ H xs us Q I r ⟨Y, ds, res, hY, ar, h, q⟩
  change prAbs1 ds = some res at h
  unfold prAbs1 at h
  split at h
  · obtain ⟨x, rfl, ha⟩ := ar.one
    obtain rfl := ha.int
    cases h
    exact call_abs pins s σ H _ us Q I r ⟨_, rfl, q _ H (Same.refl H) (.int _)⟩
  · cases h
theorem r_min2 (hc : X.calm = true) : CallR X (.builtin "min") (rTag X.K .min2) := by
  intro pins s σ H xs us Q I r ⟨Y, ds, res, hY, ar, h, q⟩
  change prMin2 ds = some res at h
  unfold prMin2 at h
  split at h
  · obtain ⟨x, y, rfl, ha, hb⟩ := ar.two
    obtain rfl := ha.int
    obtain rfl := hb.int
    cases h
    exact call_min2 hc pins s σ H _ us Q I r ⟨_, _, rfl, q _ H (Same.refl H) (.int _)⟩
  · cases h
theorem r_max2 (hc : X.calm = true) : CallR X (.builtin "max") (rTag X.K .max2) := by
  intro pins s σ H xs us Q I r ⟨Y, ds, res, hY, ar, h, q⟩
  change prMax2 ds = some res at h
  unfold prMax2 at h
  split at h
  · obtain ⟨x, y, rfl, ha, hb⟩ := ar.two
    obtain rfl := ha.int
    obtain rfl := hb.int
    cases h
    exact call_max2 hc pins s σ H _ us Q I r ⟨_, _, rfl, q _ H (Same.refl H) (.int _)⟩
  · cases h
theorem r_sum1 (hc : X.calm = true) : CallR X (.builtin "sum") (rTag X.K .sum1) := by
  intro pins s σ H xs us Q I r ⟨Y, ds, res, hY, ar, h, q⟩
  change prSum1 ds = some res at h
  unfold prSum1 at h
  split at h
  · obtain ⟨x, rfl, ha⟩ := ar.one
    obtain ⟨p, vs, rfl, e, rr⟩ := ha.lst
    rename_i ds
    cases hn : intsD ds with
    | none => rw [hn] at h; cases h
    | some ns =>
      rw [hn] at h
      cases h
      rw [intsD_ok hn] at rr
      obtain rfl := rr.ints
      exact cr_sum hc pins s σ H _ us Q I r ⟨p, ns, rfl, SqL.of e, q _ H (Same.refl H) (.int _)⟩
  · cases h
theorem r_all1 (hc : X.calm = true) : CallR X (.builtin "all") (rTag X.K .all1) := by
  intro pins s σ H xs us Q I r ⟨Y, ds, res, hY, ar, h, q⟩
  change prAll1 ds = some res at h
  unfold prAll1 at h
  split at h
  · obtain ⟨x, rfl, ha⟩ := ar.one
    obtain ⟨p, vs, rfl, e, rr⟩ := ha.lst
    rename_i ds
    cases hn : blsD ds with
    | none => rw [hn] at h; cases h
    | some ns =>
      rw [hn] at h
      cases h
      rw [blsD_ok hn] at rr
      obtain rfl := rr.bls
      exact cr_all hc pins s σ H _ us Q I r ⟨p, ns, rfl, SqL.of e, q _ H (Same.refl H) (.bl _)⟩
  · cases h
theorem r_any1 (hc : X.calm = true) : CallR X (.builtin "any") (rTag X.K .any1) := by
  intro pins s σ H xs us Q I r ⟨Y, ds, res, hY, ar, h, q⟩
  change prAny1 ds = some res at h
  unfold prAny1 at h
  split at h
  · obtain ⟨x, rfl, ha⟩ := ar.one
    obtain ⟨p, vs, rfl, e, rr⟩ := ha.lst
    rename_i ds
    cases hn : blsD ds with
    | none => rw [hn] at h; cases h
    | some ns =>
      rw [hn] at h
      cases h
      rw [blsD_ok hn] at rr
      obtain rfl := rr.bls
      exact cr_any hc pins s σ H _ us Q I r ⟨p, ns, rfl, SqL.of e, q _ H (Same.refl H) (.bl _)⟩
  · cases h
theorem r_sorted1 : CallR X (.builtin "sorted") (rTag X.K .sorted1) := by
  intro pins s σ H xs us Q I r ⟨Y, ds, res, hY, ar, h, q⟩
  change prSorted1 ds = some res at h
  unfold prSorted1 at h
  split at h
  · obtain ⟨x, rfl, ha⟩ := ar.one
    obtain ⟨p, vs, rfl, e, rr⟩ := ha.lst
    rename_i ds
    cases hn : intsD ds with
    | none => rw [hn] at h; cases h
    | some ns =>
      rw [hn] at h
      cases h
      rw [intsD_ok hn] at rr
      obtain rfl := rr.ints
      refine cr_sortedI pins s σ H _ us Q I r ⟨p, ns, rfl, SqL.of e, fun ns' p' hp hs hn => ?_⟩
      have ee : ns' = sortI ns := sorted_unique (hp.trans (sortI_perm ns).symm) hs (sortI_sorted ns)
      rw [ee]
      exact q _ _ (same_new hn) (new_lst hn Reps.ofInts)
  · cases h
theorem r_tuple1 : CallR X (.type "tuple") (rTag X.K .tuple1) := by
  intro pins s σ H xs us Q I r ⟨Y, ds, res, hY, ar, h, q⟩
  change prTuple1 ds = some res at h
  unfold prTuple1 at h
  split at h
  · obtain ⟨x, rfl, ha⟩ := ar.one
    obtain ⟨p, vs, rfl, e, rr⟩ := ha.lst
    cases h
    exact call_tuple_of pins s σ H _ us Q I r ⟨p, vs, rfl, .inl ⟨SqL.of e, fun l hl => q _ _ (same_new hl) (new_tup hY hl rr)⟩⟩
  · obtain ⟨x, rfl, ha⟩ := ar.one
    obtain ⟨p, vs, rfl, e, rr, rp⟩ := ha.tup
    cases h
    exact call_tuple_of pins s σ H _ us Q I r ⟨p, vs, rfl, .inr ⟨e, q _ H (Same.refl H) rp⟩⟩
  · cases h
theorem r_list1 : CallR X (.type "list") (rTag X.K .list1) := by
  intro pins s σ H xs us Q I r ⟨Y, ds, res, hY, ar, h, q⟩
  change prList1 ds = some res at h
  unfold prList1 at h
  split at h
  · obtain ⟨x, rfl, ha⟩ := ar.one
    obtain ⟨p, vs, rfl, e, rr⟩ := ha.lst
    cases h
    exact call_list_of pins s σ H _ us Q I r ⟨p, vs, rfl, .inl (SqL.of e), fun l hl => q _ _ (same_new hl) (new_lst hl rr)⟩
  · obtain ⟨x, rfl, ha⟩ := ar.one
    obtain ⟨p, vs, rfl, e, rr, rp⟩ := ha.tup
    cases h
    exact call_list_of pins s σ H _ us Q I r ⟨p, vs, rfl, .inr e, fun l hl => q _ _ (same_new hl) (new_lst hl rr)⟩
  · obtain ⟨x, rfl, ha⟩ := ar.one
    obtain ⟨p, rfl, sq⟩ := ha.scr
    cases h
    exact call_list_of pins s σ H _ us Q I r ⟨p, _, rfl, .inl sq, fun l hl => q _ _ (same_new hl) (new_lst hl Reps.ofInts)⟩
  · cases h
theorem r_divmod : CallR X (.builtin "divmod") (rTag X.K .divmod2) := by
  intro pins s σ H xs us Q I r ⟨Y, ds, res, hY, ar, h, q⟩
  change prDivmod ds = some res at h
  unfold prDivmod at h
  split at h
  · obtain ⟨x, y, rfl, ha, hb⟩ := ar.two
    obtain rfl := ha.int
    obtain rfl := hb.int
    split at h
    · cases h
      exact call_divmod pins s σ H _ us Q I r ⟨_, _, rfl, ‹_›, fun p hp => q _ _ (same_new hp) (new_tup hY hp (.cons (.int _) (.cons (.int _) .nil)))⟩
    · cases h
  · cases h
theorem r_repr (hg : X.A.guards = some []) (hu : X.A.units + 64 < cLine) : CallR X (.builtin "repr") (rTag X.K .repr1) := by
  intro pins s σ H xs us Q I r ⟨Y, ds, res, hY, ar, h, q⟩
  change prRepr1 ds = some res at h
  unfold prRepr1 at h
  split at h
  · rename_i d
    obtain ⟨x, rfl, ha⟩ := ar.one
    split at h
    · rename_i hc
      obtain ⟨h1, h2, h3, h4⟩ := hc
      cases h
      rw [Bool.and_eq_true] at h1
      obtain ⟨hb, h1⟩ := h1
      have oa : okD d = true := by unfold fitD at h1; simp only [Bool.and_eq_true] at h1; exact h1.1
      cases r with
      | cons r1 rs =>
        cases rs
        rename_i u
        have dp := dp_ar ha oa
        obtain ⟨as, rd⟩ := Dp.reads I (toP d) x u dp r1
        have fin : ∀ h' t tk, (∀ b o, s.heap.get? b = some o → h'.get? b = some o) → EP X pins σ Q (.str (toP d).shown t) { s with heap := h', toks := tk } := fun h' t tk k => ⟨.str (toP d).shown, H, I.kept k, ⟨t, rfl⟩, q _ H (Same.refl H) (.str _)⟩
        have hd : (toP d).hasDict = false := PyData.hasDict_of_canLay _ (lay_toP d oa)
        have hr : ∃ a, u = .ref a := by
          cases d <;> simp only [boxD] at hb <;> try cases hb
          · obtain ⟨p, vs, rfl, _⟩ := ha.tup
            exact ⟨p, r1⟩
          · obtain ⟨p, vs, rfl, _⟩ := ha.lst
            exact ⟨p, r1⟩
        obtain ⟨a, rfl⟩ := hr
        exact repr_of_reads' rd h2 (PyData.noDict_hsm hd) hg (by rw [dep_toP]; omega) (fun _ _ e => e) fin h3
    · cases h
  · cases h
/-- the classes' names -/
def Ty.name : Ty → String
  | .bool => "bool" | .int => "int" | .str => "str" | .tuple => "tuple" | .list => "list" | .dict => "dict"
def dTy : D → String
  | .non => "NoneType" | .bl _ => "bool" | .int _ => "int" | .str _ => "str" | .tup _ => "tuple" | .lst _ => "list" | .dic _ => "dict" | .scr _ => "list"
theorem tyX_of {K : PySem.W.Frag} {H : Hp} {Y : Ys} {v : V} {d : D} (h : AR K H Y v d) : TyX K H v (.type (dTy d)) := by
  rcases h with h | ⟨a, rfl, b⟩
  · cases h with
    | non => exact .base .non
    | bl b => exact .base (.bl b)
    | int b => exact .base (.int b)
    | str b => exact .base (.str b)
    | tup h _ _ => exact .base (.tup h)
    | tupW h _ =>
      obtain ⟨o, its, n, h1, h2, _⟩ := h
      exact .kTuple h1 h2
    | lst h _ _ => exact .base (.lst h)
    | dic h _ _ => exact .base (.dK h)
    | scr h _ => exact .base (.frz h)
    | scrW h =>
      obtain ⟨o, its, n, h1, h2, _⟩ := h
      exact .kList h1 h2
  · cases d <;> first | exact b.elim | skip
    · obtain ⟨vs, h, _⟩ := b
      exact .base (.lst h)
    · obtain ⟨vs, h, _⟩ := b
      exact .base (.dK h)
theorem kit_all (T : Ty) (d : D) : kitB (dTy d) T.name = some (isiD T d) := by
  cases T <;> cases d <;> (simp only [dTy, Ty.name, isiD]; decide +kernel)
theorem r_isi {T : Ty} {x : V} {H : Hp} {Q : VK} (h : rTag X.K (.isi T) [x] H Q) : rIsi X.K [x, .ty T.name] H Q := by
  obtain ⟨Y, ds, res, hY, ar, h, q⟩ := h
  change prIsi T ds = some res at h
  unfold prIsi at h
  split at h
  · obtain ⟨x', e, ha⟩ := ar.one
    cases e
    cases h
    exact ⟨x, .ty T.name, _, _, _, rfl, .ty _, tyX_of ha, kit_ty (kit_all T _), q _ H (Same.refl H) (.bl _)⟩
  · cases h
end
end Ofw
/-! Ofw 7: a def's promise, and a call of it -/
namespace Ofw
open PySem L2
def isB (fl : List Bool) (vs : List V) (a : Addr) : Prop := ∃ j : Nat, fl[j]? = some true ∧ vs[j]? = some (V.ref a)
structure CArgs (K : PySem.W.Frag) (fl : List Bool) (Z : Ys) (H : Hp) (vs : List V) (ds : List D) : Prop where
  lv : vs.length = fl.length
  ld : ds.length = fl.length
  zdom : ∀ a, Z a → H a ≠ none
  val : ∀ (j : Nat) (v : V) (d : D), fl[j]? = some false → vs[j]? = some v → ds[j]? = some d → Rep K H (fun a => Z a ∨ isB fl vs a) v d
  bor : ∀ (j : Nat) (v : V) (d : D), fl[j]? = some true → vs[j]? = some v → ds[j]? = some d → ∃ a, v = .ref a ∧ ¬ Z a ∧ Bod K H (fun a => Z a ∨ isB fl vs a) a d
  inj : ∀ (i j : Nat) (a : Addr), fl[i]? = some true → fl[j]? = some true → vs[i]? = some (V.ref a) → vs[j]? = some (V.ref a) → i = j
/-- the borrowed ones behind the call -/
def BorOut (K : PySem.W.Frag) (fl : List Bool) (H' : Hp) (vs : List V) (outs : List (Option D)) (Y : Ys) : Prop :=
  ∀ (j : Nat) (a : Addr), fl[j]? = some true → vs[j]? = some (V.ref a) → ∃ d, outs[j]? = some (some d) ∧ Bod K H' Y a d
structure CPost (K : PySem.W.Frag) (fl : List Bool) (Z : Ys) (H : Hp) (vs : List V) (H' : Hp) (v : V) (r : Rs) (outs : List (Option D)) : Prop where
  step : ∀ a o, H a = some o → ¬ isB fl vs a → H' a = some o
  there : ∀ a, H' a = none → H a = none
  none_ : ∀ j : Nat, fl[j]? = some false → outs[j]? = some none
  len : outs.length = fl.length
  res : match r with
    | .val d => Rep K H' (fun a => Z a ∨ isB fl vs a) v d ∧ BorOut K fl H' vs outs (fun a => Z a ∨ isB fl vs a)
    | .fr d => ∃ p, v = .ref p ∧ H p = none ∧ Bod K H' (fun a => (Z a ∨ isB fl vs a) ∨ a = p) p d ∧ BorOut K fl H' vs outs (fun a => (Z a ∨ isB fl vs a) ∨ a = p)
/-- a def's promise, by what the evaluator tells of it -/
def spF (K : PySem.W.Frag) (fl : List Bool) (C : CallT) (f : Nat) : Sp := fun vs H Q _ => ∃ (Z : Ys) (ds : List D) (r : Rs) (outs : List (Option D)), CArgs K fl Z H vs ds ∧ C f ds = some (r, outs) ∧
  ∀ v H', CPost K fl Z H vs H' v r outs → Q v H'
/-! ### the caller -/
theorem borOk_len (env : En) : ∀ (fl : List Bool) (xs : List Av1) (seen : List Nat), borOk env fl xs seen = true → xs.length = fl.length
  | [], [], _, _ => rfl
  | true :: fs, .r i :: xs, seen, h => by
    simp only [borOk, Bool.and_eq_true] at h
    simp [borOk_len env fs xs _ h.2]
  | false :: fs, .v _ :: xs, seen, h => by
    simp only [borOk] at h
    simp [borOk_len env fs xs _ h]
  | [], _ :: _, _, h => by simp [borOk] at h
  | true :: _, [], _, h => by simp [borOk] at h
  | false :: _, [], _, h => by simp [borOk] at h
  | true :: _, .v _ :: _, _, h => by simp [borOk] at h
  | false :: _, .r _ :: _, _, h => by simp [borOk] at h
/-- a borrowed argument is an own slot; each other one a value -/
theorem borOk_at (env : En) : ∀ (fl : List Bool) (xs : List Av1) (seen : List Nat), borOk env fl xs seen = true → ∀ j : Nat,
    (fl[j]? = some true → ∃ i s, xs[j]? = some (.r i) ∧ env[i]? = some s ∧ s.isOwn = true ∧ i ∉ seen) ∧ (fl[j]? = some false → ∃ d, xs[j]? = some (.v d))
  | [], [], _, _, j => by simp
  | true :: fs, .r i :: xs, seen, h, j => by
    simp only [borOk, Bool.and_eq_true] at h
    cases j with
    | zero =>
      refine ⟨fun _ => ?_, fun e => by simp at e⟩
      cases hs : env[i]? with
      | none => rw [hs] at h; simp at h
      | some s =>
        rw [hs] at h
        refine ⟨i, s, by simp, hs, by simpa using h.1.1, by simpa using h.1.2⟩
    | succ j =>
      have ih := borOk_at env fs xs (i :: seen) h.2 j
      refine ⟨fun e => ?_, fun e => by simpa using ih.2 (by simpa using e)⟩
      obtain ⟨i', s, h1, h2, h3, h4⟩ := ih.1 (by simpa using e)
      exact ⟨i', s, by simpa using h1, h2, h3, fun z => h4 (List.mem_cons_of_mem _ z)⟩
  | false :: fs, .v d :: xs, seen, h, j => by
    simp only [borOk] at h
    cases j with
    | zero => exact ⟨fun e => by simp at e, fun _ => ⟨d, by simp⟩⟩
    | succ j =>
      have ih := borOk_at env fs xs seen h j
      refine ⟨fun e => ?_, fun e => by simpa using ih.2 (by simpa using e)⟩
      obtain ⟨i', s, h1, h2, h3, h4⟩ := ih.1 (by simpa using e)
      exact ⟨i', s, by simpa using h1, h2, h3, h4⟩
  | [], _ :: _, _, h, _ => by simp [borOk] at h
  | true :: _, [], _, h, _ => by simp [borOk] at h
  | false :: _, [], _, h, _ => by simp [borOk] at h
  | true :: _, .v _ :: _, _, h, _ => by simp [borOk] at h
  | false :: _, .r _ :: _, _, h, _ => by simp [borOk] at h
/-- no slot twice -/
theorem borOk_inj (env : En) : ∀ (fl : List Bool) (xs : List Av1) (seen : List Nat), borOk env fl xs seen = true → ∀ (j k i : Nat), xs[j]? = some (.r i) → xs[k]? = some (.r i) → j = k
  | [], [], _, _, _, _, _, e, _ => by simp at e
  | true :: fs, .r i :: xs, seen, h, j, k, i', e1, e2 => by
    simp only [borOk, Bool.and_eq_true] at h
    have hl := borOk_len env fs xs _ h.2
    have no : ∀ m : Nat, xs[m]? = some (.r i) → False := fun m hm => by
      have hml : m < fs.length := by rw [← hl]; exact (List.getElem?_eq_some_iff.mp hm).1
      cases hf : fs[m]? with
      | none => rw [List.getElem?_eq_none_iff] at hf; omega
      | some b =>
        cases b with
        | true =>
          obtain ⟨i2, s, h1, _, _, h4⟩ := (borOk_at env fs xs _ h.2 m).1 hf
          rw [hm] at h1; cases h1
          exact h4 List.mem_cons_self
        | false =>
          obtain ⟨d, h1⟩ := (borOk_at env fs xs _ h.2 m).2 hf
          rw [hm] at h1; cases h1
    cases j with
    | zero =>
      simp only [List.getElem?_cons_zero, Option.some.injEq, Av1.r.injEq] at e1
      subst e1
      cases k with
      | zero => rfl
      | succ k => exact (no k (by simpa using e2)).elim
    | succ j =>
      cases k with
      | zero =>
        simp only [List.getElem?_cons_zero, Option.some.injEq, Av1.r.injEq] at e2
        subst e2
        exact (no j (by simpa using e1)).elim
      | succ k => rw [borOk_inj env fs xs _ h.2 j k i' (by simpa using e1) (by simpa using e2)]
  | false :: fs, .v d :: xs, seen, h, j, k, i', e1, e2 => by
    simp only [borOk] at h
    cases j with
    | zero => simp at e1
    | succ j =>
      cases k with
      | zero => simp at e2
      | succ k => rw [borOk_inj env fs xs _ h j k i' (by simpa using e1) (by simpa using e2)]
  | [], _ :: _, _, h, _, _, _, _, _ => by simp [borOk] at h
  | true :: _, [], _, h, _, _, _, _, _ => by simp [borOk] at h
  | false :: _, [], _, h, _, _, _, _, _ => by simp [borOk] at h
  | true :: _, .v _ :: _, _, h, _, _, _, _, _ => by simp [borOk] at h
  | false :: _, .r _ :: _, _, h, _, _, _, _, _ => by simp [borOk] at h
theorem putBor_own (s : Sl) (d : D) : (putBor s d).isOwn = s.isOwn := by cases s <;> rfl
theorem putBack_len : ∀ (xs : List Av1) (outs : List (Option D)) (env : En), (putBack env xs outs).length = env.length
  | [], _, env => by simp [putBack]
  | .r i :: xs, some d :: ds, env => by simp only [putBack]; rw [putBack_len xs ds]; simp
  | .r i :: xs, none :: ds, env => by simp only [putBack]; rw [putBack_len xs ds]
  | .v _ :: xs, _ :: ds, env => by simp only [putBack]; rw [putBack_len xs ds]
  | .r _ :: _, [], env => by simp [putBack]
  | .v _ :: _, [], env => by simp [putBack]
/-- a slot that no borrowed argument names stays; one that is named has what came -/
theorem putBack_get : ∀ (xs : List Av1) (outs : List (Option D)) (env : En), (∀ (j k i : Nat), xs[j]? = some (.r i) → xs[k]? = some (.r i) → j = k) → ∀ i : Nat,
    ((∀ (j : Nat) (d : D), xs[j]? = some (.r i) → outs[j]? = some (some d) → False) → (putBack env xs outs)[i]? = env[i]?) ∧
    (∀ (j : Nat) (d : D) (s : Sl), xs[j]? = some (.r i) → outs[j]? = some (some d) → env[i]? = some s → (putBack env xs outs)[i]? = some (putBor s d))
  | [], outs, env, _, i => ⟨fun _ => by simp [putBack], fun j d s h => by simp at h⟩
  | x :: xs, [], env, _, i => ⟨fun _ => by cases x <;> simp [putBack], fun j d s _ h => by simp at h⟩
  | .v d0 :: xs, o :: outs, env, inj, i => by
    have ih := putBack_get xs outs env (fun j k i' h1 h2 => by have := inj (j + 1) (k + 1) i' (by simpa using h1) (by simpa using h2); omega) i
    simp only [putBack]
    refine ⟨fun no => ih.1 fun j d h1 h2 => no (j + 1) d (by simpa using h1) (by simpa using h2), fun j d s h1 h2 h3 => ?_⟩
    cases j with
    | zero => simp at h1
    | succ j => exact ih.2 j d s (by simpa using h1) (by simpa using h2) h3
  | .r i0 :: xs, none :: outs, env, inj, i => by
    have ih := putBack_get xs outs env (fun j k i' h1 h2 => by have := inj (j + 1) (k + 1) i' (by simpa using h1) (by simpa using h2); omega) i
    simp only [putBack]
    refine ⟨fun no => ih.1 fun j d h1 h2 => no (j + 1) d (by simpa using h1) (by simpa using h2), fun j d s h1 h2 h3 => ?_⟩
    cases j with
    | zero => simp at h2
    | succ j => exact ih.2 j d s (by simpa using h1) (by simpa using h2) h3
  | .r i0 :: xs, some d0 :: outs, env, inj, i => by
    have ih := putBack_get xs outs (env.set i0 (putBor (env.getD i0 .emp) d0)) (fun j k i' h1 h2 => by have := inj (j + 1) (k + 1) i' (by simpa using h1) (by simpa using h2); omega) i
    simp only [putBack]
    refine ⟨fun no => ?_, fun j d s h1 h2 h3 => ?_⟩
    · have ne : i0 ≠ i := fun e => no 0 d0 (by simp [e]) (by simp)
      rw [ih.1 fun j d h1 h2 => no (j + 1) d (by simpa using h1) (by simpa using h2), List.getElem?_set_ne ne]
    · cases j with
      | zero =>
        simp only [List.getElem?_cons_zero, Option.some.injEq, Av1.r.injEq] at h1 h2
        subst h1; subst h2
        rw [ih.1 fun j d h1 h2 => by have := inj 0 (j + 1) i0 (by simp) (by simpa using h1); omega]
        have hl : i0 < env.length := (List.getElem?_eq_some_iff.mp h3).1
        rw [List.getElem?_set_self hl, List.getD_eq_getElem?_getD, h3]
        rfl
      | succ j =>
        have ne : i0 ≠ i := fun e => by
          have := inj 0 (j + 1) i0 (by simp) (by rw [e]; simpa using h1); omega
        exact ih.2 j d s (by simpa using h1) (by simpa using h2) (by rw [List.getElem?_set_ne ne]; exact h3)
theorem ArgP.at {K : PySem.W.Frag} {σ : St} {H : Hp} {Y : Ys} : ∀ {vs : List V} {xs : List Av1}, ArgP K σ H Y vs xs → ∀ j : Nat,
    (∀ d, xs[j]? = some (.v d) → ∃ v, vs[j]? = some v ∧ Rep K H Y v d) ∧ (∀ i, xs[j]? = some (.r i) → ∃ v, vs[j]? = some v ∧ σ[i]? = some (some v))
  | _, _, .nil, j => ⟨fun d h => by simp at h, fun i h => by simp at h⟩
  | _, _, .v (v := w) h t, j => by
    cases j with
    | zero => exact ⟨fun d e => by simp at e; subst e; exact ⟨w, by simp, h⟩, fun i e => by simp at e⟩
    | succ j =>
      have ih := ArgP.at t j
      exact ⟨fun d e => by simpa using ih.1 d (by simpa using e), fun i e => by simpa using ih.2 i (by simpa using e)⟩
  | _, _, .r (v := w) h t, j => by
    cases j with
    | zero => exact ⟨fun d e => by simp at e, fun i e => by simp at e; subst e; exact ⟨w, by simp, h⟩⟩
    | succ j =>
      have ih := ArgP.at t j
      exact ⟨fun d e => by simpa using ih.1 d (by simpa using e), fun i e => by simpa using ih.2 i (by simpa using e)⟩
theorem ArgP.len {K : PySem.W.Frag} {σ : St} {H : Hp} {Y : Ys} : ∀ {vs : List V} {xs : List Av1}, ArgP K σ H Y vs xs → vs.length = xs.length
  | _, _, .nil => rfl
  | _, _, .v _ t => by simp [ArgP.len t]
  | _, _, .r _ t => by simp [ArgP.len t]
theorem looks_at (env : En) : ∀ {xs : List Av1} {ds : List D}, looks env xs = some ds → ds.length = xs.length ∧ ∀ (j : Nat) (x : Av1), xs[j]? = some x → ∃ d, ds[j]? = some d ∧ look env x = some d
  | [], ds, h => by simp only [looks, Option.some.injEq] at h; subst h; simp
  | x :: xs, ds, h => by
    simp only [looks] at h
    cases h1 : look env x with
    | none => rw [h1] at h; cases h
    | some d =>
      cases h2 : looks env xs with
      | none => rw [h1, h2] at h; cases h
      | some es =>
        rw [h1, h2] at h
        simp only [Option.some.injEq] at h
        subst h
        obtain ⟨hl, ih⟩ := looks_at env h2
        refine ⟨by simp [hl], fun j y hy => ?_⟩
        cases j with
        | zero => simp at hy; subst hy; exact ⟨d, by simp, h1⟩
        | succ j => simpa using ih j y (by simpa using hy)
section
variable {G : Gx} {rf : Nat → List Bool} {C : CallT}
/-- the caller's slots behind a call -/
theorem call_good {Z Zn : Ys} {σ : St} {H H' : Hp} {env : En} {fl : List Bool} {xs : List Av1} {vs : List V} {outs : List (Option D)} (g : Good G Z σ H env) (bo : borOk env fl xs [] = true) (ar : ArgP G.K σ H (Av σ env Z) vs xs)
    (ol : outs.length = fl.length) (on : ∀ j : Nat, fl[j]? = some false → outs[j]? = some none)
    (step : ∀ a o, H a = some o → ¬ isB fl vs a → H' a = some o) (hz : ∀ a, Zn a → Z a ∨ H a = none) (zd : ∀ a, Zn a → H' a ≠ none) (bout : BorOut G.K fl H' vs outs (Av σ env Zn)) :
    Good G Zn σ H' (putBack env xs outs) ∧ (∀ a, ownA σ (putBack env xs outs) a ↔ ownA σ env a) := by
  have inj := borOk_inj env fl xs [] bo
  have bat := borOk_at env fl xs [] bo
  have xl := borOk_len env fl xs [] bo
  -- a borrowed place is an own slot's
  have b2o : ∀ a, isB fl vs a → ∃ (j i : Nat) (s : Sl), fl[j]? = some true ∧ xs[j]? = some (.r i) ∧ env[i]? = some s ∧ s.isOwn = true ∧ σ[i]? = some (some (.ref a)) := fun a ⟨j, h1, h2⟩ => by
    obtain ⟨i, s, hx, hs, ho, _⟩ := (bat j).1 h1
    obtain ⟨v, hv, hσ⟩ := (ar.at j).2 i hx
    rw [h2] at hv; cases hv
    exact ⟨j, i, s, h1, hx, hs, ho, hσ⟩
  have isOwn_of : ∀ a, isB fl vs a → ownA σ env a := fun a h => by
    obtain ⟨j, i, s, _, _, h3, h4, h5⟩ := b2o a h
    exact ⟨i, s, h3, h4, h5⟩
  -- each slot: as it was, or with what came
  have cases_ : ∀ i : Nat, ((putBack env xs outs)[i]? = env[i]? ∧ ∀ j : Nat, fl[j]? = some true → xs[j]? ≠ some (.r i)) ∨
      ∃ (j : Nat) (d : D) (s : Sl), fl[j]? = some true ∧ xs[j]? = some (.r i) ∧ outs[j]? = some (some d) ∧ env[i]? = some s ∧ s.isOwn = true ∧ (putBack env xs outs)[i]? = some (putBor s d) := fun i => by
    by_cases hb : ∃ j : Nat, fl[j]? = some true ∧ xs[j]? = some (.r i)
    · obtain ⟨j, h1, h2⟩ := hb
      obtain ⟨i', s, hx, hs, ho, _⟩ := (bat j).1 h1
      rw [h2] at hx; cases hx
      obtain ⟨v, hv, hσ⟩ := (ar.at j).2 i h2
      have hr : ∃ a, v = .ref a := by
        cases s with
        | emp => cases ho
        | val d => cases ho
        | own d => obtain ⟨a, e, _⟩ := g.owns i d hs; rw [hσ] at e; cases e; exact ⟨a, rfl⟩
        | bor d => obtain ⟨a, e, _⟩ := g.bors i d hs; rw [hσ] at e; cases e; exact ⟨a, rfl⟩
      obtain ⟨a, rfl⟩ := hr
      obtain ⟨d, hd, _⟩ := bout j a h1 hv
      exact .inr ⟨j, d, s, h1, h2, hd, hs, ho, (putBack_get xs outs env inj i).2 j d s h2 hd hs⟩
    · refine .inl ⟨(putBack_get xs outs env inj i).1 fun j d h1 h2 => ?_, fun j h1 h2 => hb ⟨j, h1, h2⟩⟩
      have hjl : j < fl.length := by rw [← xl]; exact (List.getElem?_eq_some_iff.mp h1).1
      cases hf : fl[j]? with
      | none => rw [List.getElem?_eq_none_iff] at hf; omega
      | some b =>
        cases b with
        | true => exact hb ⟨j, hf, h1⟩
        | false => rw [on j hf] at h2; cases h2
  have ownEq : ∀ a, ownA σ (putBack env xs outs) a ↔ ownA σ env a := fun a => by
    constructor
    · rintro ⟨i, s, h1, h2, h3⟩
      rcases cases_ i with ⟨e, _⟩ | ⟨j, d, s', _, _, _, hs, ho, e⟩
      · exact ⟨i, s, by rw [← e]; exact h1, h2, h3⟩
      · exact ⟨i, s', hs, ho, h3⟩
    · rintro ⟨i, s, h1, h2, h3⟩
      rcases cases_ i with ⟨e, _⟩ | ⟨j, d, s', _, _, _, hs, ho, e⟩
      · exact ⟨i, s, by rw [e]; exact h1, h2, h3⟩
      · exact ⟨i, putBor s' d, e, by rw [putBor_own]; exact ho, h3⟩
  have fr : Fr1 H H' (Av σ env Z) (Av σ (putBack env xs outs) Zn) :=
    ⟨fun a o h n => step a o h fun b => n (.inl (isOwn_of a b)), fun a y => y.elim (fun z => .inl (.inl ((ownEq a).mp z))) fun z => (hz a z).elim (fun q => .inl (.inr q)) .inr⟩
  have av : ∀ {d : D} {a : Addr}, Bod G.K H' (Av σ env Zn) a d → Bod G.K H' (Av σ (putBack env xs outs) Zn) a d := fun b => b.fr (Fr1.less fun a y => y.elim (fun z => .inl ((ownEq a).mp z)) .inr) fun o h => h
  -- a slot that is not borrowed: its own place stands
  have stay : ∀ (i : Nat) (s : Sl) (a : Addr), env[i]? = some s → s.isOwn = true → σ[i]? = some (some (.ref a)) → (∀ j : Nat, fl[j]? = some true → xs[j]? ≠ some (.r i)) → ∀ o, H a = some o → H' a = some o := fun i s a h1 h2 h3 no o ho =>
    step a o ho fun hb => by
      obtain ⟨j, i', s', hf, hx, hs, ho', hσ⟩ := b2o a hb
      have := g.inj i i' s s' a h1 hs h2 ho' h3 hσ
      subst this
      exact no j hf hx
  have nz : ∀ (a : Addr) (d : D), Bod G.K H (Av σ env Z) a d → ¬ Z a → ¬ Zn a := fun a d b n z => (hz a z).elim n fun q => by
    obtain ⟨o, ho⟩ := b.there
    rw [ho] at q; cases q
  refine ⟨⟨by rw [putBack_len]; exact g.len, zd, fun i d h => ?_, fun i d h => ?_, fun i d h => ?_, fun i j s t a h1 h2 h3 h4 h5 h6 => ?_, fun i a h => ?_, fun a o h n => ?_⟩, ownEq⟩
  · rcases cases_ i with ⟨e, _⟩ | ⟨j, d', s, _, _, _, hs, ho, e⟩
    · rw [e] at h
      obtain ⟨v, hv, r⟩ := g.vals i d h
      exact ⟨v, hv, r.fr fr⟩
    · rw [e] at h
      cases s with
      | emp => cases ho
      | val _ => cases ho
      | own _ => simp [putBor] at h
      | bor _ => simp [putBor] at h
  · rcases cases_ i with ⟨e, no⟩ | ⟨j, d', s, hf, hx, hd, hs, ho, e⟩
    · rw [e] at h
      obtain ⟨a, ha, b, h0, nza⟩ := g.owns i d h
      exact ⟨a, ha, b.fr fr (stay i _ a h rfl ha no), h0, nz a d b nza⟩
    · rw [e] at h
      cases s with
      | emp => cases ho
      | val _ => cases ho
      | bor _ => simp [putBor] at h
      | own d0 =>
        simp only [putBor, Option.some.injEq, Sl.own.injEq] at h
        subst h
        obtain ⟨a, ha, b, h0, nza⟩ := g.owns i d0 hs
        obtain ⟨v, hv, hσ⟩ := (ar.at j).2 i hx
        rw [ha] at hσ; cases hσ
        obtain ⟨d2, hd2, b2⟩ := bout j a hf hv
        rw [hd] at hd2; cases hd2
        exact ⟨a, ha, av b2, h0, nz a d0 b nza⟩
  · rcases cases_ i with ⟨e, no⟩ | ⟨j, d', s, hf, hx, hd, hs, ho, e⟩
    · rw [e] at h
      obtain ⟨a, ha, b, h0, nza⟩ := g.bors i d h
      exact ⟨a, ha, b.fr fr (stay i _ a h rfl ha no), h0, nz a d b nza⟩
    · rw [e] at h
      cases s with
      | emp => cases ho
      | val _ => cases ho
      | own _ => simp [putBor] at h
      | bor d0 =>
        simp only [putBor, Option.some.injEq, Sl.bor.injEq] at h
        subst h
        obtain ⟨a, ha, b, h0, nza⟩ := g.bors i d0 hs
        obtain ⟨v, hv, hσ⟩ := (ar.at j).2 i hx
        rw [ha] at hσ; cases hσ
        obtain ⟨d2, hd2, b2⟩ := bout j a hf hv
        rw [hd] at hd2; cases hd2
        exact ⟨a, ha, av b2, h0, nz a d0 b nza⟩
  · have up : ∀ (i : Nat) (s : Sl), (putBack env xs outs)[i]? = some s → s.isOwn = true → ∃ s', env[i]? = some s' ∧ s'.isOwn = true := fun i s h ho => by
      rcases cases_ i with ⟨e, _⟩ | ⟨_, _, s', _, _, _, hs, ho', _⟩
      · exact ⟨s, by rw [← e]; exact h, ho⟩
      · exact ⟨s', hs, ho'⟩
    obtain ⟨s', e1, o1⟩ := up i s h1 h3
    obtain ⟨t', e2, o2⟩ := up j t h2 h4
    exact g.inj i j s' t' a e1 e2 o1 o2 h5 h6
  · obtain ⟨d, hd⟩ := g.held i a h
    rcases cases_ i with ⟨e, _⟩ | ⟨j, d', s, _, _, _, hs, ho, e⟩
    · exact ⟨d, by rw [e]; exact hd⟩
    · rw [hd] at hs; cases hs
      exact ⟨d', e⟩
  · refine step a o (g.frame a o h n) fun hb => ?_
    obtain ⟨j, i, s, _, _, hs, ho, hσ⟩ := b2o a hb
    cases s with
    | emp => cases ho
    | val _ => cases ho
    | own d =>
      obtain ⟨b, hb', _, h0, _⟩ := g.owns i d hs
      rw [hσ] at hb'; cases hb'
      rw [h0] at h; cases h
    | bor d =>
      obtain ⟨b, hb', _, h0, _⟩ := g.bors i d hs
      rw [hσ] at hb'; cases hb'
      exact n i h0
theorem call_red {f : Nat} {as : List Ex} {σ : St} {H : Hp} {Q : VK} (h : tE G rf C (.op (.call f) as) σ H Q) : tArgs G rf C as σ H (fun vs H1 => spF G.K (rf f) C f vs H1 Q E0) := by
  obtain ⟨Z, env, r, env', g, h, q⟩ := h
  simp only [evalE] at h
  cases h1 : evalAs rf C as env with
  | none => rw [h1] at h; cases h
  | some p =>
    obtain ⟨xs, env1⟩ := p
    rw [h1] at h
    simp only [applyT] at h
    split at h
    · rename_i bo
      cases h2 : looks env1 xs with
      | none => rw [h2] at h; cases h
      | some ds =>
        rw [h2] at h
        cases h3 : C f ds with
        | none => simp only [h3] at h; cases h
        | some p3 =>
          obtain ⟨r', outs⟩ := p3
          simp only [h3, Option.some.injEq, Prod.mk.injEq] at h
          obtain ⟨rfl, rfl⟩ := h
          refine args_ok as g h1 fun vs H1 p1 ar => ?_
          have g1 := p1.good
          have inj := borOk_inj env1 (rf f) xs [] bo
          have bat := borOk_at env1 (rf f) xs [] bo
          have xl := borOk_len env1 (rf f) xs [] bo
          obtain ⟨dl, lat⟩ := looks_at env1 h2
          have b2o : ∀ a, isB (rf f) vs a → ownA σ env1 a := fun a ⟨j, e1, e2⟩ => by
            obtain ⟨i, s, hx, hs, ho, _⟩ := (bat j).1 e1
            obtain ⟨v, hv, hσ⟩ := (ar.at j).2 i hx
            rw [e2] at hv; cases hv
            exact ⟨i, s, hs, ho, hσ⟩
          have zb : ∀ a, (Av σ env1 Z a ∧ ¬ isB (rf f) vs a) ∨ isB (rf f) vs a ↔ Av σ env1 Z a := fun a => by
            constructor
            · rintro (z | z)
              · exact z.1
              · exact .inl (b2o a z)
            · intro z
              by_cases hb : isB (rf f) vs a
              · exact .inr hb
              · exact .inl ⟨z, hb⟩
          refine ⟨fun a => Av σ env1 Z a ∧ ¬ isB (rf f) vs a, ds, r', outs, ⟨ar.len.trans xl, dl.trans xl, fun a z => g1.avdom z.1, fun j v d hf hv hd => ?_, fun j v d hf hv hd => ?_, fun i j a hi hj hvi hvj => ?_⟩, h3, fun v H' cp => ?_⟩
          · obtain ⟨d', hx⟩ := (bat j).2 hf
            obtain ⟨v', hv', rp⟩ := (ar.at j).1 d' hx
            obtain ⟨d2, hd2, hl⟩ := lat j _ hx
            rw [hv] at hv'; cases hv'
            rw [hd] at hd2; cases hd2
            simp only [look, Option.some.injEq] at hl
            subst hl
            exact rp.fr (Fr1.less fun a y => (zb a).mp y)
          · obtain ⟨i, s, hx, hs, ho, _⟩ := (bat j).1 hf
            obtain ⟨v', hv', hσ⟩ := (ar.at j).2 i hx
            obtain ⟨d2, hd2, hl⟩ := lat j _ hx
            rw [hv] at hv'; cases hv'
            rw [hd] at hd2; cases hd2
            simp only [look, hs, Option.bind_some] at hl
            cases s with
            | emp => cases ho
            | val _ => cases ho
            | own d0 =>
              cases hl
              obtain ⟨a, ha, b, _⟩ := g1.owns i d hs
              rw [hσ] at ha; cases ha
              exact ⟨a, rfl, fun z => z.2 ⟨j, hf, hv⟩, b.fr (Fr1.less fun a y => (zb a).mp y) fun o h => h⟩
            | bor d0 =>
              cases hl
              obtain ⟨a, ha, b, _⟩ := g1.bors i d hs
              rw [hσ] at ha; cases ha
              exact ⟨a, rfl, fun z => z.2 ⟨j, hf, hv⟩, b.fr (Fr1.less fun a y => (zb a).mp y) fun o h => h⟩
          · obtain ⟨i', s, hx, hs, ho, _⟩ := (bat i).1 hi
            obtain ⟨j', t, hy, ht, hp, _⟩ := (bat j).1 hj
            obtain ⟨v1, e1, σ1⟩ := (ar.at i).2 i' hx
            obtain ⟨v2, e2, σ2⟩ := (ar.at j).2 j' hy
            rw [hvi] at e1; cases e1
            rw [hvj] at e2; cases e2
            have := g1.inj i' j' s t a hs ht ho hp σ1 σ2
            subst this
            exact inj i j i' hx hy
          · -- behind the call
            have ownStep : ∀ a o, H1 a = some o → ¬ ownA σ env1 a → H' a = some o := fun a o e n => cp.step a o e fun b => n (b2o a b)
            have hres := cp.res
            cases r' with
            | val d =>
              obtain ⟨rp, bout⟩ := hres
              have bout' : BorOut G.K (rf f) H' vs outs (Av σ env1 Z) := fun j a e1 e2 => by
                obtain ⟨d2, hd2, b⟩ := bout j a e1 e2
                exact ⟨d2, hd2, b.fr (Fr1.less fun a y => (zb a).mpr y) fun o h => h⟩
              have zd : ∀ a, Z a → H' a ≠ none := fun a z e => g1.zdom a z (cp.there a e)
              obtain ⟨g2, oe⟩ := call_good (Zn := Z) g1 bo ar cp.len cp.none_ cp.step (fun a z => .inl z) zd bout'
              have p2 : Post G Z σ H1 env1 σ H' (putBack env1 xs outs) := ⟨g2, ownStep, fun a z => .inl ((oe a).mp z), cp.there⟩
              exact q v H' (p1.trans p2) (rp.fr (Fr1.less fun a y => (zb a).mpr (y.elim (fun z => .inl ((oe a).mp z)) .inr)))
            | fr d =>
              obtain ⟨p, rfl, hp, bd, bout⟩ := hres
              obtain ⟨o, ho⟩ := bd.there
              have bout' : BorOut G.K (rf f) H' vs outs (Av σ env1 (zad Z p)) := fun j a e1 e2 => by
                obtain ⟨d2, hd2, b⟩ := bout j a e1 e2
                refine ⟨d2, hd2, b.fr (Fr1.less fun a y => ?_) fun o h => h⟩
                rcases y with y | y | y
                · exact .inl ((zb a).mpr (.inl y))
                · exact .inl ((zb a).mpr (.inr y))
                · exact .inr y
              have zd : ∀ a, zad Z p a → H' a ≠ none := fun a z e => by
                rcases z with z | z
                · exact g1.zdom a z (cp.there a e)
                · rw [z, ho] at e; cases e
              obtain ⟨g2, oe⟩ := call_good (Zn := zad Z p) g1 bo ar cp.len cp.none_ cp.step (fun a z => z.elim .inl fun e => .inr (by rw [e]; exact hp)) zd bout'
              have p2 : Post G Z σ H1 env1 σ H' (putBack env1 xs outs) := ⟨g2.less fun a z => .inl z, ownStep, fun a z => .inl ((oe a).mp z), cp.there⟩
              refine q _ H' (p1.trans p2) ⟨p, rfl, p1.there p hp, g2, bd.fr (Fr1.less fun a y => ?_) fun o h => h⟩
              rcases y with y | y | y
              · exact .inl ((zb a).mpr (.inl ((oe a).mp y)))
              · exact .inl ((zb a).mpr (.inr y))
              · exact .inr y
    · cases h
end
end Ofw
/-! Ofw 8: control within expressions -/
namespace Ofw
open PySem L2
section
variable (G : Gx)
def tEv (ev : En → Option (Rs × En)) : TE := fun σ H Q => ∃ Z env r env', Good G Z σ H env ∧ ev env = some (r, env') ∧
  ∀ v H', Post G Z σ H env σ H' env' → ResOk G Z σ H H' env' v r → Q v H'
def tTv (ev : En → Option (Rs × En)) : TT := fun σ H Q => ∃ Z env r env' b, Good G Z σ H env ∧ ev env = some (r, env') ∧ truD r.d = some b ∧
  ∀ H', Post G Z σ H env σ H' env' → Q b H'
end
section
variable {G : Gx} {rf : Nat → List Bool} {C : CallT} {X : Cx}
theorem tru_ar {K : PySem.W.Frag} {H : Hp} {Y : Ys} {v : V} {d : D} {b : Bool} (h : AR K H Y v d) (hb : truD d = some b) : TruV K v H b := by
  cases d with
  | non => obtain rfl := h.non; cases hb; rfl
  | bl _ => obtain rfl := h.bl; cases hb; rfl
  | int _ => obtain rfl := h.int; cases hb; rfl
  | str _ =>
    obtain rfl := h.str
    simp only [truD] at hb
    split at hb
    · cases hb; exact ⟨‹_›, rfl⟩
    · cases hb
  | tup ds =>
    obtain ⟨a, vs, rfl, st, r, _⟩ := h.tup
    cases hb
    have : ds.isEmpty = vs.isEmpty := by have := r.len; cases ds <;> cases vs <;> simp_all
    exact .inr (.inl ⟨vs, st, by rw [this]⟩)
  | lst ds =>
    obtain ⟨a, vs, rfl, st, r⟩ := h.lst
    cases hb
    have : ds.isEmpty = vs.isEmpty := by have := r.len; cases ds <;> cases vs <;> simp_all
    exact .inl ⟨vs, SqL.of st, by rw [this]⟩
  | dic ds =>
    obtain ⟨a, vs, rfl, st, r⟩ := h.dic
    cases hb
    have : ds.isEmpty = vs.isEmpty := by have := r.len; cases ds <;> cases vs <;> simp_all
    exact .inr (.inr ⟨vs, st, by rw [this]⟩)
  | scr ns =>
    obtain ⟨a, rfl, r⟩ := h.scr
    cases hb
    have : ns.isEmpty = (ns.map V.int).isEmpty := by cases ns <;> rfl
    exact .inl ⟨_, r, by rw [this]⟩
/-- a value's truth, where the test is the value's -/
theorem pt_of_pe {e : Expr} {ev : En → Option (Rs × En)} (hK : X.K = G.K) (h : PE X e (tEv G ev)) (he : ∀ whole, isTrue e X.env whole = (do let v ← whole; standAt e.pos; holding [v] (truthy v))) : PT X e (tTv G ev) := by
  refine (pt_truth h he).imp fun σ H Q ⟨Z, env, r, env', b, g, h, hb, q⟩ => ?_
  refine ⟨Z, env, r, env', g, h, fun v H' p ro => ⟨b, ?_, q H' p⟩⟩
  rw [hK]
  exact tru_ar (.inl (ro.rep g)) hb
/-- a comparison's -/
theorem pt_of_test {e : Expr} {t : TE} {ev : En → Option (Rs × En)} (h : PT X e (tTest t)) (ht : ∀ σ H Q, tEv G ev σ H Q → t σ H Q) (hb : ∀ env r env', ev env = some (r, env') → ∃ b, r = .val (.bl b)) : PT X e (tTv G ev) := by
  refine h.imp fun σ H Q ⟨Z, env, r, env', b, g, h, hb', q⟩ => ht σ H _ ⟨Z, env, r, env', g, h, fun v H' p ro => ?_⟩
  obtain ⟨c, rfl⟩ := hb env r env' h
  have e : c = b := by simpa [truD, Rs.d] using hb'
  subst e
  cases (show Rep G.K H' (Av σ env' Z) v (.bl c) from ro)
  exact ⟨c, rfl, q H' p⟩
def evNot (ev : En → Option (Rs × En)) : En → Option (Rs × En) := fun env => match ev env with
  | some (r, env1) => (truD r.d).map fun b => (.val (.bl (!b)), env1)
  | none => none
theorem evNot_inv {ev : En → Option (Rs × En)} {env env' : En} {r : Rs} (h : evNot ev env = some (r, env')) : ∃ r1 b, ev env = some (r1, env') ∧ truD r1.d = some b ∧ r = .val (.bl (!b)) := by
  unfold evNot at h
  cases h1 : ev env with
  | none => rw [h1] at h; cases h
  | some p =>
    obtain ⟨r1, env1⟩ := p
    rw [h1] at h
    cases h2 : truD r1.d with
    | none => simp only [h2, Option.map_none] at h; cases h
    | some b =>
      simp only [h2, Option.map_some, Option.some.injEq, Prod.mk.injEq] at h
      obtain ⟨rfl, rfl⟩ := h
      exact ⟨r1, b, rfl, h2, rfl⟩
theorem pe_not' {a : Expr} {pos : Pos} {ev : En → Option (Rs × En)} (hK : X.K = G.K) (h : PE X a (tEv G ev)) : PE X (.UnaryOp .Not a pos) (tEv G (evNot ev)) := by
  refine (pe_notT h).imp fun σ H Q ⟨Z, env, r, env', g, h, q⟩ => ?_
  obtain ⟨r1, b, h1, h2, rfl⟩ := evNot_inv h
  refine ⟨Z, env, r1, env', g, h1, fun v H' p ro => ⟨b, ?_, q _ H' p (.bl _)⟩⟩
  rw [hK]
  exact tru_ar (.inl (ro.rep g)) h2
theorem pt_not' {a : Expr} {pos : Pos} {ev : En → Option (Rs × En)} (h : PT X a (tTv G ev)) : PT X (.UnaryOp .Not a pos) (tTv G (evNot ev)) := by
  refine (pt_not h).imp fun σ H Q ⟨Z, env, r, env', b, g, h, hb, q⟩ => ?_
  obtain ⟨r1, c, h1, h2, rfl⟩ := evNot_inv h
  have e : (!c) = b := by simpa [truD, Rs.d] using hb
  refine ⟨Z, env, r1, env', c, g, h1, h2, fun H' p => ?_⟩
  show Q (!c) H'
  rw [e]; exact q H' p
def evAnd (ev ev' : En → Option (Rs × En)) : En → Option (Rs × En) := fun env => match ev env with
  | some (r, env1) => match truD r.d with
    | some true => ev' env1
    | some false => some (.val r.d, env1)
    | none => none
  | none => none
def evOr (ev ev' : En → Option (Rs × En)) : En → Option (Rs × En) := fun env => match ev env with
  | some (r, env1) => match truD r.d with
    | some true => some (.val r.d, env1)
    | some false => ev' env1
    | none => none
  | none => none
theorem evAnd_inv {ev ev' : En → Option (Rs × En)} {env env' : En} {r : Rs} (h : evAnd ev ev' env = some (r, env')) :
    ∃ r1 env1, ev env = some (r1, env1) ∧ ((truD r1.d = some true ∧ ev' env1 = some (r, env')) ∨ (truD r1.d = some false ∧ r = .val r1.d ∧ env' = env1)) := by
  unfold evAnd at h
  cases h1 : ev env with
  | none => rw [h1] at h; cases h
  | some p =>
    obtain ⟨r1, env1⟩ := p
    rw [h1] at h
    refine ⟨r1, env1, rfl, ?_⟩
    cases h2 : truD r1.d with
    | none => simp only [h2] at h; cases h
    | some b =>
      cases b with
      | true => simp only [h2] at h; exact .inl ⟨rfl, h⟩
      | false =>
        simp only [h2, Option.some.injEq, Prod.mk.injEq] at h
        exact .inr ⟨rfl, h.1.symm, h.2.symm⟩
theorem evOr_inv {ev ev' : En → Option (Rs × En)} {env env' : En} {r : Rs} (h : evOr ev ev' env = some (r, env')) :
    ∃ r1 env1, ev env = some (r1, env1) ∧ ((truD r1.d = some false ∧ ev' env1 = some (r, env')) ∨ (truD r1.d = some true ∧ r = .val r1.d ∧ env' = env1)) := by
  unfold evOr at h
  cases h1 : ev env with
  | none => rw [h1] at h; cases h
  | some p =>
    obtain ⟨r1, env1⟩ := p
    rw [h1] at h
    refine ⟨r1, env1, rfl, ?_⟩
    cases h2 : truD r1.d with
    | none => simp only [h2] at h; cases h
    | some b =>
      cases b with
      | false => simp only [h2] at h; exact .inl ⟨rfl, h⟩
      | true =>
        simp only [h2, Option.some.injEq, Prod.mk.injEq] at h
        exact .inr ⟨rfl, h.1.symm, h.2.symm⟩
/-- a result that came ahead of more -/
theorem ResOk.after {Z : Ys} {σ : L2.St} {H H1 H2 : Hp} {env env1 env2 : En} {v : V} {r : Rs} (p1 : Post G Z σ H env σ H1 env1) (h : ResOk G Z σ H1 H2 env2 v r) : ResOk G Z σ H H2 env2 v r := by
  cases r with
  | val d => exact h
  | fr d =>
    obtain ⟨p, e, hp, g, b⟩ := h
    exact ⟨p, e, p1.there p hp, g, b⟩
theorem pe_and' {a b : Expr} {rest : List Expr} {pos : Pos} {ev ev' : En → Option (Rs × En)} (hK : X.K = G.K) (ha : PE X a (tEv G ev)) (hb : PE X (.BoolOp .And (b :: rest) pos) (tEv G ev')) : PE X (.BoolOp .And (a :: b :: rest) pos) (tEv G (evAnd ev ev')) := by
  refine (pe_andT ha hb).imp fun σ H Q ⟨Z, env, r, env', g, h, q⟩ => ?_
  obtain ⟨r1, env1, h1, h2⟩ := evAnd_inv h
  refine ⟨Z, env, r1, env1, g, h1, fun v H' p ro => ?_⟩
  rcases h2 with ⟨ht, h2⟩ | ⟨ht, rfl, rfl⟩
  · refine ⟨true, by rw [hK]; exact tru_ar (.inl (ro.rep g)) ht, ?_⟩
    exact iteT ⟨Z, env1, r, env', p.good, h2, fun w H2 p2 ro2 => q w H2 (p.trans p2) (ro2.after p)⟩
  · refine ⟨false, by rw [hK]; exact tru_ar (.inl (ro.rep g)) ht, ?_⟩
    exact iteF (q v H' p (ro.rep g))
theorem pe_or' {a b : Expr} {rest : List Expr} {pos : Pos} {ev ev' : En → Option (Rs × En)} (hK : X.K = G.K) (ha : PE X a (tEv G ev)) (hb : PE X (.BoolOp .Or (b :: rest) pos) (tEv G ev')) : PE X (.BoolOp .Or (a :: b :: rest) pos) (tEv G (evOr ev ev')) := by
  refine (pe_orT ha hb).imp fun σ H Q ⟨Z, env, r, env', g, h, q⟩ => ?_
  obtain ⟨r1, env1, h1, h2⟩ := evOr_inv h
  refine ⟨Z, env, r1, env1, g, h1, fun v H' p ro => ?_⟩
  rcases h2 with ⟨ht, h2⟩ | ⟨ht, rfl, rfl⟩
  · refine ⟨false, by rw [hK]; exact tru_ar (.inl (ro.rep g)) ht, ?_⟩
    exact iteF ⟨Z, env1, r, env', p.good, h2, fun w H2 p2 ro2 => q w H2 (p.trans p2) (ro2.after p)⟩
  · refine ⟨true, by rw [hK]; exact tru_ar (.inl (ro.rep g)) ht, ?_⟩
    exact iteT (q v H' p (ro.rep g))
theorem pw_and' {a b : Expr} {rest : List Expr} {pos : Pos} {ev ev' : En → Option (Rs × En)} (ha : PT X a (tTv G ev)) (hb : PW X (.BoolOp .And (b :: rest) pos) (tTv G ev')) : PW X (.BoolOp .And (a :: b :: rest) pos) (tTv G (evAnd ev ev')) := by
  refine (pw_and ha hb).imp fun σ H Q ⟨Z, env, r, env', k, g, h, hk, q⟩ => ?_
  obtain ⟨r1, env1, h1, h2⟩ := evAnd_inv h
  rcases h2 with ⟨ht, h2⟩ | ⟨ht, rfl, rfl⟩
  · exact ⟨Z, env, r1, env1, true, g, h1, ht, fun H' p => iteT ⟨Z, env1, r, env', k, p.good, h2, hk, fun H2 p2 => q H2 (p.trans p2)⟩⟩
  · refine ⟨Z, env, r1, _, false, g, h1, ht, fun H' p => iteF ?_⟩
    have e : some false = some k := ht.symm.trans hk
    cases e
    exact q H' p
theorem pw_or' {a b : Expr} {rest : List Expr} {pos : Pos} {ev ev' : En → Option (Rs × En)} (ha : PT X a (tTv G ev)) (hb : PW X (.BoolOp .Or (b :: rest) pos) (tTv G ev')) : PW X (.BoolOp .Or (a :: b :: rest) pos) (tTv G (evOr ev ev')) := by
  refine (pw_or ha hb).imp fun σ H Q ⟨Z, env, r, env', k, g, h, hk, q⟩ => ?_
  obtain ⟨r1, env1, h1, h2⟩ := evOr_inv h
  rcases h2 with ⟨ht, h2⟩ | ⟨ht, rfl, rfl⟩
  · exact ⟨Z, env, r1, env1, false, g, h1, ht, fun H' p => iteF ⟨Z, env1, r, env', k, p.good, h2, hk, fun H2 p2 => q H2 (p.trans p2)⟩⟩
  · refine ⟨Z, env, r1, _, true, g, h1, ht, fun H' p => iteT ?_⟩
    have e : some true = some k := ht.symm.trans hk
    cases e
    exact q H' p
def evIf (ec ea eb : En → Option (Rs × En)) : En → Option (Rs × En) := fun env => match ec env with
  | some (r, env1) => match truD r.d with
    | some true => ea env1
    | some false => eb env1
    | none => none
  | none => none
theorem evIf_inv {ec ea eb : En → Option (Rs × En)} {env env' : En} {r : Rs} (h : evIf ec ea eb env = some (r, env')) :
    ∃ r1 env1 b, ec env = some (r1, env1) ∧ truD r1.d = some b ∧ (if b then ea env1 else eb env1) = some (r, env') := by
  unfold evIf at h
  cases h1 : ec env with
  | none => rw [h1] at h; cases h
  | some p =>
    obtain ⟨r1, env1⟩ := p
    rw [h1] at h
    cases h2 : truD r1.d with
    | none => simp only [h2] at h; cases h
    | some b =>
      refine ⟨r1, env1, b, rfl, h2, ?_⟩
      cases b <;> simp only [h2] at h <;> simpa using h
theorem pe_if' {c a b : Expr} {pos : Pos} {ec ea eb : En → Option (Rs × En)} (hc : PT X c (tTv G ec)) (ha : PE X a (tEv G ea)) (hb : PE X b (tEv G eb)) : PE X (.IfExp c a b pos) (tEv G (evIf ec ea eb)) := by
  refine (pe_ifExp hc ha hb).imp fun σ H Q ⟨Z, env, r, env', g, h, q⟩ => ?_
  obtain ⟨r1, env1, b, h1, h2, h3⟩ := evIf_inv h
  refine ⟨Z, env, r1, env1, b, g, h1, h2, fun H' p => ?_⟩
  cases b with
  | true => exact iteT ⟨Z, env1, r, env', p.good, by simpa using h3, fun w H2 p2 ro2 => q w H2 (p.trans p2) (ro2.after p)⟩
  | false => exact iteF ⟨Z, env1, r, env', p.good, by simpa using h3, fun w H2 p2 ro2 => q w H2 (p.trans p2) (ro2.after p)⟩
def evChain (p q : CmpOp) (ea eb ec : En → Option (Rs × En)) : En → Option (Rs × En) := fun env => match ea env with
    | some (ra, env1) => match eb env1 with
      | some (rb, env2) => match cmpD p ra.d rb.d with
        | some true => match ec env2 with
          | some (rc, env3) => (cmpD q rb.d rc.d).map fun k => (.val (.bl k), env3)
          | none => none
        | some false => some (.val (.bl false), env2)
        | none => none
      | none => none
    | none => none
theorem evChain_inv {p q : CmpOp} {ea eb ec : En → Option (Rs × En)} {env env' : En} {r : Rs} (h : evChain p q ea eb ec env = some (r, env')) :
    ∃ ra env1 rb env2, ea env = some (ra, env1) ∧ eb env1 = some (rb, env2) ∧
      ((cmpD p ra.d rb.d = some true ∧ ∃ rc k, ec env2 = some (rc, env') ∧ cmpD q rb.d rc.d = some k ∧ r = .val (.bl k)) ∨ (cmpD p ra.d rb.d = some false ∧ r = .val (.bl false) ∧ env' = env2)) := by
  unfold evChain at h
  cases h1 : ea env with
  | none => rw [h1] at h; cases h
  | some x =>
    obtain ⟨ra, env1⟩ := x
    rw [h1] at h
    cases h2 : eb env1 with
    | none => simp only [h2] at h; cases h
    | some y =>
      obtain ⟨rb, env2⟩ := y
      simp only [h2] at h
      refine ⟨ra, env1, rb, env2, rfl, h2, ?_⟩
      cases h3 : cmpD p ra.d rb.d with
      | none => simp only [h3] at h; cases h
      | some b =>
        cases b with
        | false =>
          simp only [h3, Option.some.injEq, Prod.mk.injEq] at h
          exact .inr ⟨rfl, h.1.symm, h.2.symm⟩
        | true =>
          simp only [h3] at h
          cases h4 : ec env2 with
          | none => simp only [h4] at h; cases h
          | some z =>
            obtain ⟨rc, env3⟩ := z
            simp only [h4] at h
            cases h5 : cmpD q rb.d rc.d with
            | none => simp only [h5, Option.map_none] at h; cases h
            | some k =>
              simp only [h5, Option.map_some, Option.some.injEq, Prod.mk.injEq] at h
              obtain ⟨rfl, rfl⟩ := h
              exact .inl ⟨rfl, rc, k, rfl, h5, rfl⟩
theorem chain_red {p q : CmpOp} {ea eb ec : En → Option (Rs × En)} (hK : X.K = G.K) (σ : L2.St) (H : Hp) (Q : VK) (h : tEv G (evChain p q ea eb ec) σ H Q) :
    tChain (fun x y => rTag X.K (.cmp p) [x, y]) (fun x y => rTag X.K (.cmp q) [x, y]) (tEv G ea) (tEv G eb) (tEv G ec) σ H Q := by
  obtain ⟨Z, env, r, env', g, h, k⟩ := h
  obtain ⟨ra, env1, rb, env2, h1, h2, h3⟩ := evChain_inv h
  refine ⟨Z, env, ra, env1, g, h1, fun x H1 p1 r1 => ⟨Z, env1, rb, env2, p1.good, h2, fun y H2 p2 r2 => ?_⟩⟩
  have rx : Rep G.K H2 (Av σ env2 Z) x ra.d := p2.rep (r1.rep g)
  have ry : Rep G.K H2 (Av σ env2 Z) y rb.d := r2.rep p1.good
  rw [hK]
  rcases h3 with ⟨hc, rc, j, h4, h5, rfl⟩ | ⟨hc, rfl, rfl⟩
  · refine ⟨Av σ env2 Z, [ra.d, rb.d], .val (.bl true), fun a y => p2.good.avdom y, .cons (.inl rx) (.cons (.inl ry) .nil), by simp [primD, prCmp, hc], fun v H3 s pr => ?_⟩
    cases (show Rep G.K H3 (Av σ env2 Z) v (.bl true) from pr)
    have p3 : Post G Z σ H2 env2 σ H3 env2 := Post.same p2.good s
    refine ⟨true, rfl, iteT ⟨Z, env2, rc, env', p3.good, h4, fun w H4 p4 r4 => ?_⟩⟩
    have ry' : Rep G.K H4 (Av σ env' Z) y rb.d := p4.rep (p3.rep ry)
    refine ⟨Av σ env' Z, [rb.d, rc.d], .val (.bl j), fun a y => p4.good.avdom y, .cons (.inl ry') (.cons (.inl (r4.rep p3.good)) .nil), by simp [primD, prCmp, h5], fun v H5 s pr => ?_⟩
    exact k v H5 ((((p1.trans p2).trans p3).trans p4).trans (Post.same p4.good s)) pr
  · refine ⟨Av σ _ Z, [ra.d, rb.d], .val (.bl false), fun a y => p2.good.avdom y, .cons (.inl rx) (.cons (.inl ry) .nil), by simp [primD, prCmp, hc], fun v H3 s pr => ?_⟩
    cases (show Rep G.K H3 (Av σ _ Z) v (.bl false) from pr)
    exact ⟨false, rfl, iteF (k _ H3 ((p1.trans p2).trans (Post.same p2.good s)) (.bl false))⟩
theorem evChain_bl {p q : CmpOp} {ea eb ec : En → Option (Rs × En)} (env : En) (r : Rs) (env' : En) (h : evChain p q ea eb ec env = some (r, env')) : ∃ b, r = .val (.bl b) := by
  obtain ⟨_, _, _, _, _, _, h3⟩ := evChain_inv h
  rcases h3 with ⟨_, _, k, _, _, e⟩ | ⟨_, e, _⟩
  · exact ⟨k, e⟩
  · exact ⟨false, e⟩
end
end Ofw
/-! Ofw 9: what is walked; comprehensions -/
namespace Ofw
open PySem L2
/-- an iterator's turns are the items -/
structure Walk (K : PySem.W.Frag) (J : It) (vs : List V) (ds its : List D) : Prop where
  go : ∀ (i : Nat) (H : Hp) (Y : Ys), Reps K H Y vs ds → i < its.length → J.go i H
  yld : ∀ (i : Nat) (H : Hp) (Y : Ys) (x : V) (H' : Hp), Reps K H Y vs ds → (∀ a, Y a → H a ≠ none) → i < its.length → J.yld i H x H' → ∃ d, its[i]? = some d ∧ Same H H' ∧ Rep K H' Y x d
  stop : ∀ (H : Hp) (Y : Ys), Reps K H Y vs ds → J.stop its.length H
section
variable {K : PySem.W.Frag}
theorem Rep.lstA {H : Hp} {Y : Ys} {v : V} {ds : List D} (h : Rep K H Y v (.lst ds)) : ∃ a vs, v = .ref a ∧ H a = some (.lst vs) ∧ Reps K H Y vs ds := AR.lst (.inl h)
theorem lst_at {H : Hp} {Y : Ys} {a : Addr} {ds : List D} (h : Rep K H Y (.ref a) (.lst ds)) : ∃ vs, SqL K H a vs ∧ Reps K H Y vs ds := by
  obtain ⟨b, vs, e, h, r⟩ := h.lstA
  cases e
  exact ⟨vs, SqL.of h, r⟩
theorem scr_at {H : Hp} {Y : Ys} {a : Addr} {ns : List Int} (h : Rep K H Y (.ref a) (.scr ns)) : SqL K H a (ns.map V.int) := by
  obtain ⟨b, e, r⟩ := AR.scr (.inl h)
  cases e
  exact r
theorem reps1 {H : Hp} {Y : Ys} {v : V} {d : D} (h : Reps K H Y [v] [d]) : Rep K H Y v d := by
  cases h with
  | cons h _ => exact h
theorem reps2 {H : Hp} {Y : Ys} {v w : V} {d e : D} (h : Reps K H Y [v, w] [d, e]) : Rep K H Y v d ∧ Rep K H Y w e := by
  cases h with
  | cons h r => exact ⟨h, reps1 r⟩
theorem walk_lst {a : Addr} {ds : List D} : Walk K (Itl K a) [.ref a] [.lst ds] ds where
  go := fun i H Y r h => by
    obtain ⟨vs, sq, rr⟩ := lst_at (reps1 r)
    obtain ⟨v, hv, _⟩ := rr.get (List.getElem?_eq_getElem h)
    exact ⟨vs, v, sq, hv⟩
  yld := fun i H Y x H' r hY h ⟨e, hx⟩ => by
    obtain ⟨vs, sq, rr⟩ := lst_at (reps1 r)
    obtain ⟨d, hd, rp⟩ := rr.get' (hx vs sq)
    exact ⟨d, hd, by rw [e]; exact Same.refl H, by rw [e]; exact rp⟩
  stop := fun H Y r => by
    obtain ⟨vs, sq, rr⟩ := lst_at (reps1 r)
    exact ⟨vs, sq, Nat.le_of_eq rr.len⟩
theorem walk_scr {a : Addr} {ns : List Int} : Walk K (Itl K a) [.ref a] [.scr ns] (ns.map D.int) where
  go := fun i H Y r h => by
    have sq := scr_at (reps1 r)
    rw [List.length_map] at h
    exact ⟨_, _, sq, List.getElem?_eq_getElem (by rw [List.length_map]; exact h)⟩
  yld := fun i H Y x H' r hY h ⟨e, hx⟩ => by
    have sq := scr_at (reps1 r)
    have hx := hx _ sq
    rw [List.getElem?_map] at hx
    cases hn : ns[i]? with
    | none => rw [hn] at hx; cases hx
    | some n =>
      rw [hn] at hx
      simp only [Option.map_some, Option.some.injEq] at hx
      subst hx
      exact ⟨.int n, by rw [List.getElem?_map, hn]; rfl, by rw [e]; exact Same.refl H, .int n⟩
  stop := fun H Y r => ⟨_, scr_at (reps1 r), by simp⟩
theorem walk_tup {a : Addr} {ds : List D} : Walk K (Itt K a) [.ref a] [.tup ds] ds where
  go := fun i H Y r h => by
    obtain ⟨vs, sq, rr⟩ := sqT_of (reps1 r)
    obtain ⟨v, hv, _⟩ := rr.get (List.getElem?_eq_getElem h)
    exact ⟨vs, v, sq, hv⟩
  yld := fun i H Y x H' r hY h ⟨e, hx⟩ => by
    obtain ⟨vs, sq, rr⟩ := sqT_of (reps1 r)
    obtain ⟨d, hd, rp⟩ := rr.get' (hx vs sq)
    exact ⟨d, hd, by rw [e]; exact Same.refl H, by rw [e]; exact rp⟩
  stop := fun H Y r => by
    obtain ⟨vs, sq, rr⟩ := sqT_of (reps1 r)
    exact ⟨vs, sq, Nat.le_of_eq rr.len⟩
theorem rngD_len (lo hi : Int) : (rngD lo hi).length = (hi - lo).toNat := by simp [rngD]
theorem walk_rng {vs : List V} {ds : List D} (lo hi : Int) : Walk K (Itr lo (hi - lo).toNat) vs ds (rngD lo hi) where
  go := fun i H Y r h => by rw [rngD_len] at h; exact h
  yld := fun i H Y x H' r hY h ⟨e, hx⟩ => by
    rw [rngD_len] at h
    refine ⟨.int (lo + i), by simp [rngD, h], by rw [e]; exact Same.refl H, by rw [hx]; exact .int _⟩
  stop := fun H Y r => by show (hi - lo).toNat ≤ (rngD lo hi).length; rw [rngD_len]; exact Nat.le_refl _
theorem enumD_len (ds : List D) : (enumD ds).length = ds.length := by simp [enumD]
theorem pair_new {H : Hp} {Y : Ys} {T : Addr} {x y : V} {d e : D} (hY : ∀ a, Y a → H a ≠ none) (hT : H T = none) (hx : Rep K H Y x d) (hy : Rep K H Y y e) : Rep K (upd H T (.tup [x, y])) Y (.ref T) (.tup [d, e]) :=
  .tup upd_same (fun z => hY T z hT) (.cons (hx.fr (Fr1.same (same_new hT))) (.cons (hy.fr (Fr1.same (same_new hT))) .nil))
theorem walk_enum {a : Addr} {ds : List D} : Walk K (Ite K a) [.ref a] [.lst ds] (enumD ds) where
  go := fun i H Y r h => by
    rw [enumD_len] at h
    obtain ⟨vs, sq, rr⟩ := lst_at (reps1 r)
    obtain ⟨v, hv, _⟩ := rr.get (List.getElem?_eq_getElem h)
    exact ⟨vs, v, sq, hv⟩
  yld := fun i H Y x H' r hY h ⟨T, z, e, hT, e', hx⟩ => by
    rw [enumD_len] at h
    obtain ⟨vs, sq, rr⟩ := lst_at (reps1 r)
    obtain ⟨d, hd, rp⟩ := rr.get' (hx vs sq)
    refine ⟨.tup [.int (i : Int), d], ?_, by rw [e']; exact same_new hT, ?_⟩
    · unfold enumD
      rw [List.getElem?_map, List.getElem?_range h, Option.map_some, List.getD_eq_getElem?_getD, hd]
      rfl
    · rw [e, e']
      exact pair_new hY hT (.int _) rp
  stop := fun H Y r => by
    obtain ⟨vs, sq, rr⟩ := lst_at (reps1 r)
    exact ⟨vs, sq, by rw [enumD_len]; exact Nat.le_of_eq rr.len⟩
theorem zipD_len (xs ys : List D) : (zipD xs ys).length = min xs.length ys.length := by simp [zipD]
theorem walk_zipL {a b : Addr} {xs ys : List D} : Walk K (Itz K a b) [.ref a, .ref b] [.lst xs, .lst ys] (zipD xs ys) where
  go := fun i H Y r h => by
    rw [zipD_len] at h
    obtain ⟨r1, r2⟩ := reps2 r
    obtain ⟨vs, sq, rr⟩ := lst_at r1
    obtain ⟨ws, sq', rr'⟩ := lst_at r2
    obtain ⟨v, hv, _⟩ := rr.get (List.getElem?_eq_getElem (show i < xs.length by omega))
    obtain ⟨w, hw, _⟩ := rr'.get (List.getElem?_eq_getElem (show i < ys.length by omega))
    exact ⟨vs, ws, v, w, sq, sq', hv, hw⟩
  yld := fun i H Y x H' r hY h ⟨T, z, z', e, hT, e', hx, hy⟩ => by
    rw [zipD_len] at h
    obtain ⟨r1, r2⟩ := reps2 r
    obtain ⟨vs, sq, rr⟩ := lst_at r1
    obtain ⟨ws, sq', rr'⟩ := lst_at r2
    obtain ⟨d, hd, rp⟩ := rr.get' (hx vs sq)
    obtain ⟨d', hd', rp'⟩ := rr'.get' (hy ws sq')
    refine ⟨.tup [d, d'], ?_, by rw [e']; exact same_new hT, ?_⟩
    · unfold zipD
      rw [List.getElem?_map, List.getElem?_range h, Option.map_some, List.getD_eq_getElem?_getD, List.getD_eq_getElem?_getD, hd, hd']
      rfl
    · rw [e, e']
      exact pair_new hY hT rp rp'
  stop := fun H Y r => by
    obtain ⟨r1, r2⟩ := reps2 r
    obtain ⟨vs, sq, rr⟩ := lst_at r1
    obtain ⟨ws, sq', rr'⟩ := lst_at r2
    have := rr.len
    have := rr'.len
    exact ⟨vs, ws, sq, sq', by rw [zipD_len]; omega⟩
theorem walk_zipT {a b : Addr} {xs ys : List D} : Walk K (RZ.ItzT K a b) [.ref a, .ref b] [.tup xs, .tup ys] (zipD xs ys) where
  go := fun i H Y r h => by
    rw [zipD_len] at h
    obtain ⟨r1, r2⟩ := reps2 r
    obtain ⟨vs, sq, rr⟩ := sqT_of r1
    obtain ⟨ws, sq', rr'⟩ := sqT_of r2
    obtain ⟨v, hv, _⟩ := rr.get (List.getElem?_eq_getElem (show i < xs.length by omega))
    obtain ⟨w, hw, _⟩ := rr'.get (List.getElem?_eq_getElem (show i < ys.length by omega))
    exact ⟨vs, ws, v, w, sq, sq', hv, hw⟩
  yld := fun i H Y x H' r hY h ⟨T, z, z', e, hT, e', hx, hy⟩ => by
    rw [zipD_len] at h
    obtain ⟨r1, r2⟩ := reps2 r
    obtain ⟨vs, sq, rr⟩ := sqT_of r1
    obtain ⟨ws, sq', rr'⟩ := sqT_of r2
    obtain ⟨d, hd, rp⟩ := rr.get' (hx vs sq)
    obtain ⟨d', hd', rp'⟩ := rr'.get' (hy ws sq')
    refine ⟨.tup [d, d'], ?_, by rw [e']; exact same_new hT, ?_⟩
    · unfold zipD
      rw [List.getElem?_map, List.getElem?_range h, Option.map_some, List.getD_eq_getElem?_getD, List.getD_eq_getElem?_getD, hd, hd']
      rfl
    · rw [e, e']
      exact pair_new hY hT rp rp'
  stop := fun H Y r => by
    obtain ⟨r1, r2⟩ := reps2 r
    obtain ⟨vs, sq, rr⟩ := sqT_of r1
    obtain ⟨ws, sq', rr'⟩ := sqT_of r2
    have := rr.len
    have := rr'.len
    exact ⟨vs, ws, sq, sq', by rw [zipD_len]; omega⟩
end
section
variable (G : Gx) (rf : Nat → List Bool) (C : CallT)
/-- a walk's begin -/
def tIt (k : ItK) (src : List Ex) : TI := fun σ H R => ∃ Z env xs env1 ds its, Good G Z σ H env ∧ evalAs rf C src env = some (xs, env1) ∧ valsOf xs = some ds ∧ itemsD k ds = some its ∧
  ∀ J vs H1, Post G Z σ H env σ H1 env1 → Reps G.K H1 (Av σ env1 Z) vs ds → Walk G.K J vs ds its → R J H1
end
section
variable {G : Gx} {rf : Nat → List Bool} {C : CallT} {X : Cx} {tg : Expr}
theorem it_args {k : ItK} {src : List Ex} {σ : L2.St} {H : Hp} {R : It → Hp → Prop} (h : tIt G rf C k src σ H R) :
    ∃ (ds its : List D), itemsD k ds = some its ∧ tArgs G rf C src σ H (fun vs H1 => ∃ Y : Ys, (∀ a, Y a → H1 a ≠ none) ∧ Reps G.K H1 Y vs ds ∧ ∀ J, Walk G.K J vs ds its → R J H1) := by
  obtain ⟨Z, env, xs, env1, ds, its, g, h1, h2, h3, q⟩ := h
  exact ⟨ds, its, h3, args_ok src g h1 fun vs H1 p ar => ⟨Av σ env1 Z, fun a y => p.good.avdom y, vals_ok ar h2, fun J w => q J vs H1 p (vals_ok ar h2) w⟩⟩
theorem pi_seq' {e : Expr} {ex : Ex} (hp : ∀ i, ex ≠ .peek i) (hK : X.K = G.K) (h : PE X e (tE G rf C ex)) : PI X tg e (tIt G rf C .seq [ex]) := by
  refine ((pi_list h).or (pi_tup h)).imp fun σ H R q => ?_
  obtain ⟨ds, its, hi, ta⟩ := it_args q
  have ta' : tE G rf C ex σ H fun x H1 => ∃ Y : Ys, (∀ a, Y a → H1 a ≠ none) ∧ Reps G.K H1 Y [x] ds ∧ ∀ J, Walk G.K J [x] ds its → R J H1 := by
    have := ta
    unfold tArgs tCons at this
    rw [tArg_of hp] at this
    exact this
  rw [hK]
  change itSeq ds = some its at hi
  unfold itSeq at hi
  split at hi <;> try cases hi
  · left
    obtain ⟨Z, env, r, env', g, h1, q1⟩ := ta'
    refine ⟨Z, env, r, env', g, h1, fun x H1 p ro => ?_⟩
    obtain ⟨Y, hY, rs, w⟩ := q1 x H1 p ro
    obtain ⟨a, vs, rfl, e1, r1⟩ := (reps1 rs).lstA
    exact ⟨a, rfl, ⟨vs, SqL.of e1⟩, w _ walk_lst⟩
  · right
    obtain ⟨Z, env, r, env', g, h1, q1⟩ := ta'
    refine ⟨Z, env, r, env', g, h1, fun x H1 p ro => ?_⟩
    obtain ⟨Y, hY, rs, w⟩ := q1 x H1 p ro
    obtain ⟨a, vs, rfl, e1, r1, _⟩ := AR.tup (.inl (reps1 rs))
    exact ⟨a, rfl, ⟨vs, e1⟩, w _ walk_tup⟩
  · left
    obtain ⟨Z, env, r, env', g, h1, q1⟩ := ta'
    refine ⟨Z, env, r, env', g, h1, fun x H1 p ro => ?_⟩
    obtain ⟨Y, hY, rs, w⟩ := q1 x H1 p ro
    obtain ⟨a, rfl, r1⟩ := AR.scr (.inl (reps1 rs))
    exact ⟨a, rfl, ⟨_, r1⟩, w _ walk_scr⟩
theorem small_of {i : Int} (h : smallI i = true) : -(2 ^ 62) ≤ i ∧ i < 2 ^ 62 := by
  unfold smallI at h
  simpa using h
theorem tArgs_mono {src : List Ex} : ∀ {σ : L2.St} {H : Hp} {Q Q' : List V → Hp → Prop}, (∀ vs H1, Q vs H1 → Q' vs H1) → tArgs G rf C src σ H Q → tArgs G rf C src σ H Q' := by
  induction src with
  | nil => intro σ H Q Q' f h; exact f _ _ h
  | cons a as ih =>
    intro σ H Q Q' f h
    show tArg G rf C a σ H fun x H1 => tArgs G rf C as σ H1 fun xs H2 => Q' (x :: xs) H2
    have h : tArg G rf C a σ H fun x H1 => tArgs G rf C as σ H1 fun xs H2 => Q (x :: xs) H2 := h
    by_cases hp : ∃ i, a = .peek i
    · obtain ⟨i, rfl⟩ := hp
      obtain ⟨v, hv, q⟩ := h
      exact ⟨v, hv, ih (fun vs H1 => f _ _) q⟩
    · rw [tArg_of fun i e => hp ⟨i, e⟩] at h ⊢
      obtain ⟨Z, env, r, env', g, h1, q⟩ := h
      exact ⟨Z, env, r, env', g, h1, fun v H' p ro => ih (fun vs H1 => f _ _) (q v H' p ro)⟩
theorem pi_rng1' {a : Expr} {p pos : Pos} {src : List Ex} (hg : Gl X "range") (hm : X.mg "range" = none) (ha : PA X [a] (tArgs G rf C src)) (hs : starEach [a] X.env = [(false, eval a X.env)]) : PI X tg (.Call (.Name "range" p) [a] [] pos) (tIt G rf C .rng1 src) := by
  refine (pi_range1 hg hm ha hs).imp fun σ H R q => ?_
  obtain ⟨ds, its, hi, ta⟩ := it_args q
  change itRng1 ds = some its at hi
  unfold itRng1 at hi
  split at hi <;> try cases hi
  split at hi <;> try cases hi
  rename_i j hj
  refine tArgs_mono (fun vs H1 ⟨Y, hY, rs, w⟩ => ?_) ta
  cases rs with
  | cons r1 r2 =>
    cases r2
    cases r1
    have hj := small_of hj
    refine ⟨j, rfl, hj.1, hj.2, ?_⟩
    have := w (Itr 0 (j - 0).toNat) (walk_rng 0 j)
    rw [Int.sub_zero] at this
    exact this
theorem pi_rng2' {a b : Expr} {p pos : Pos} {src : List Ex} (hg : Gl X "range") (hm : X.mg "range" = none) (ha : PA X [a, b] (tArgs G rf C src)) (hs : starEach [a, b] X.env = [(false, eval a X.env), (false, eval b X.env)]) (hs2 : starEach [b] X.env = [(false, eval b X.env)]) :
    PI X tg (.Call (.Name "range" p) [a, b] [] pos) (tIt G rf C .rng2 src) := by
  refine (pi_range2 hg hm ha hs hs2).imp fun σ H R q => ?_
  obtain ⟨ds, its, hi, ta⟩ := it_args q
  change itRng2 ds = some its at hi
  unfold itRng2 at hi
  split at hi <;> try cases hi
  split at hi <;> try cases hi
  rename_i i j hj
  simp only [Bool.and_eq_true] at hj
  refine tArgs_mono (fun vs H1 ⟨Y, hY, rs, w⟩ => ?_) ta
  cases rs with
  | cons r1 r2 =>
    cases r2 with
    | cons r2 r3 =>
      cases r3
      cases r1
      cases r2
      have h1 := small_of hj.1
      have h2 := small_of hj.2
      exact ⟨i, j, rfl, ⟨h1.1, h1.2, h2.1, h2.2⟩, w _ (walk_rng i j)⟩
theorem pi_enum' {a : Expr} {p pos tpos : Pos} {elts : List Expr} {kk : Nat} {src : List Ex} (hK : X.K = G.K) (hg : Gl X "enumerate") (hm : X.mg "enumerate" = none) (ha : PA X [a] (tArgs G rf C src)) (hs : starEach [a] X.env = [(false, eval a X.env)]) :
    PI X (.Tuple elts kk tpos) (.Call (.Name "enumerate" p) [a] [] pos) (tIt G rf C .enum src) := by
  refine (pi_enum hg hm ha hs).imp fun σ H R q => ?_
  obtain ⟨ds, its, hi, ta⟩ := it_args q
  change itEnum ds = some its at hi
  unfold itEnum at hi
  split at hi <;> try cases hi
  rw [hK]
  refine tArgs_mono (fun vs H1 ⟨Y, hY, rs, w⟩ => ?_) ta
  cases rs with
  | cons r1 r2 =>
    cases r2
    obtain ⟨a, vs, rfl, e1, _⟩ := r1.lstA
    exact ⟨a, vs, rfl, SqL.of e1, w _ walk_enum⟩
theorem pi_zip' {a b : Expr} {p pos tpos : Pos} {elts : List Expr} {kk : Nat} {src : List Ex} (hK : X.K = G.K) (hg : Gl X "zip") (hm : X.mg "zip" = none) (ha : PA X [a, b] (tArgs G rf C src)) (hs : starEach [a, b] X.env = (false, eval a X.env) :: starEach [b] X.env)
    (hpl : (backTo pos (starEach [b] X.env)).any (·.1) = false) : PI X (.Tuple elts kk tpos) (.Call (.Name "zip" p) [a, b] [] pos) (tIt G rf C .zip2 src) := by
  refine (RZ.pi_zipA hg hm ha hs hpl).imp fun σ H R q => ?_
  obtain ⟨ds, its, hi, ta⟩ := it_args q
  rw [hK]
  change itZip2 ds = some its at hi
  unfold itZip2 at hi
  split at hi <;> try cases hi
  · refine tArgs_mono (fun vs H1 ⟨Y, hY, rs, w⟩ => ?_) ta
    cases rs with
    | cons r1 r2 => cases r2 with
      | cons r2 r3 =>
        cases r3
        obtain ⟨a, vs, rfl, e1, _⟩ := r1.lstA
        obtain ⟨b, ws, rfl, e2, _⟩ := r2.lstA
        exact ⟨a, b, vs, ws, rfl, .inl ⟨SqL.of e1, SqL.of e2, w _ walk_zipL⟩⟩
  · refine tArgs_mono (fun vs H1 ⟨Y, hY, rs, w⟩ => ?_) ta
    cases rs with
    | cons r1 r2 => cases r2 with
      | cons r2 r3 =>
        cases r3
        obtain ⟨a, vs, rfl, e1, _⟩ := AR.tup (.inl r1)
        obtain ⟨b, ws, rfl, e2, _⟩ := AR.tup (.inl r2)
        exact ⟨a, b, vs, ws, rfl, .inr ⟨e1, e2, w _ walk_zipT⟩⟩
end
end Ofw
/-! Ofw 10: names stored -/
namespace Ofw
open PySem L2
section
variable {G : Gx} {Z : Ys} {σ : L2.St} {H H' : Hp} {env : En} {i : Nat} {v : V} {d : D}
theorem Good.fresh0 (g : Good G Z σ H env) {p : Addr} (hp : H p = none) : G.H_0 p = none := by
  cases h : G.H_0 p with
  | none => rfl
  | some o =>
    by_cases hb : ∃ i, G.ba i = some p
    · obtain ⟨i, hi⟩ := hb
      obtain ⟨d, hd⟩ := g.held i p hi
      obtain ⟨a, _, b, hba, _⟩ := g.bors i d hd
      rw [hi] at hba; cases hba
      obtain ⟨o', ho⟩ := b.there
      rw [hp] at ho; cases ho
    · rw [g.frame p o h fun i e => hb ⟨i, e⟩] at hp; cases hp
/-- slots but one as they were -/
theorem own_set {s : Sl} {x : Option V} (hs : s.isOwn = false) {a : Addr} (h : ownA (σ.set i x) (env.set i s) a) : ownA σ env a := by
  obtain ⟨j, t, h1, h2, h3⟩ := h
  by_cases e : i = j
  · subst e
    by_cases hl : i < env.length
    · rw [List.getElem?_set_self hl] at h1
      cases h1
      rw [hs] at h2; cases h2
    · rw [List.getElem?_eq_none_iff.mpr (by simp; omega)] at h1; cases h1
  · rw [List.getElem?_set_ne e] at h1 h3
    exact ⟨j, t, h1, h2, h3⟩
theorem Good.setVal (g : Good G Z σ H env) (hi : ∃ s, env[i]? = some s ∧ ∀ d, s ≠ .bor d) (r : Rep G.K H (Av σ env Z) v d) : Post G Z σ H env (σ.set i (some v)) H (env.set i (.val d)) := by
  obtain ⟨s, hs, nb⟩ := hi
  have hl : i < env.length := (List.getElem?_eq_some_iff.mp hs).1
  have hlσ : i < σ.length := by rw [← g.len]; exact hl
  have less : ∀ a, Av (σ.set i (some v)) (env.set i (.val d)) Z a → Av σ env Z a := fun a y => y.elim (fun z => .inl (own_set rfl z)) .inr
  refine ⟨⟨by simp [g.len], g.zdom, fun j e h => ?_, fun j e h => ?_, fun j e h => ?_, fun j k s t a h1 h2 h3 h4 h5 h6 => ?_, fun j a h => ?_, g.frame⟩, fun a o h _ => h, fun a z => .inl (own_set rfl z), fun _ h => h⟩
  · by_cases ej : i = j
    · subst ej
      rw [List.getElem?_set_self hl] at h
      cases h
      exact ⟨v, by rw [List.getElem?_set_self hlσ], r.fr (Fr1.less less)⟩
    · rw [List.getElem?_set_ne ej] at h ⊢
      obtain ⟨w, hw, rw'⟩ := g.vals j e h
      exact ⟨w, hw, rw'.fr (Fr1.less less)⟩
  · by_cases ej : i = j
    · subst ej
      rw [List.getElem?_set_self hl] at h
      cases h
    · rw [List.getElem?_set_ne ej] at h ⊢
      obtain ⟨w, hw, rw', h0⟩ := g.owns j e h
      exact ⟨w, hw, rw'.fr (Fr1.less less) fun o h => h, h0⟩
  · by_cases ej : i = j
    · subst ej
      rw [List.getElem?_set_self hl] at h
      cases h
    · rw [List.getElem?_set_ne ej] at h ⊢
      obtain ⟨w, hw, rw', h0⟩ := g.bors j e h
      exact ⟨w, hw, rw'.fr (Fr1.less less) fun o h => h, h0⟩
  · have nj : i ≠ j := fun e => by subst e; rw [List.getElem?_set_self hl] at h1; cases h1; cases h3
    have nk : i ≠ k := fun e => by subst e; rw [List.getElem?_set_self hl] at h2; cases h2; cases h4
    rw [List.getElem?_set_ne nj] at h1 h5
    rw [List.getElem?_set_ne nk] at h2 h6
    exact g.inj j k s t a h1 h2 h3 h4 h5 h6
  · obtain ⟨e, he⟩ := g.held j a h
    have nj : i ≠ j := fun q => by subst q; rw [hs] at he; cases he; exact nb _ rfl
    exact ⟨e, by rw [List.getElem?_set_ne nj]; exact he⟩
/-- a new thing becomes a slot's own -/
theorem Good.setOwn {p : Addr} (g : Good G (zad Z p) σ H env) (hi : ∃ s, env[i]? = some s ∧ ∀ d, s ≠ .bor d) (b : Bod G.K H (Av σ env (zad Z p)) p d) (h0 : G.H_0 p = none) (nz : ¬ Z p) : Good G Z (σ.set i (some (.ref p))) H (env.set i (.own d)) ∧
    ∀ a, ownA (σ.set i (some (.ref p))) (env.set i (.own d)) a → ownA σ env a ∨ a = p := by
  obtain ⟨s, hs, nb⟩ := hi
  have hl : i < env.length := (List.getElem?_eq_some_iff.mp hs).1
  have hlσ : i < σ.length := by rw [← g.len]; exact hl
  have ow : ∀ a, ownA (σ.set i (some (.ref p))) (env.set i (.own d)) a → ownA σ env a ∨ a = p := fun a ⟨j, t, h1, h2, h3⟩ => by
    by_cases e : i = j
    · subst e
      rw [List.getElem?_set_self hlσ] at h3
      cases h3
      exact .inr rfl
    · rw [List.getElem?_set_ne e] at h1 h3
      exact .inl ⟨j, t, h1, h2, h3⟩
  have less : ∀ a, Av (σ.set i (some (.ref p))) (env.set i (.own d)) Z a → Av σ env (zad Z p) a := fun a y => y.elim (fun z => (ow a z).elim .inl fun e => .inr (.inr e)) fun z => .inr (.inl z)
  refine ⟨⟨by simp [g.len], fun a z => g.zdom a (.inl z), fun j e h => ?_, fun j e h => ?_, fun j e h => ?_, fun j k s t a h1 h2 h3 h4 h5 h6 => ?_, fun j a h => ?_, g.frame⟩, ow⟩
  · by_cases ej : i = j
    · subst ej
      rw [List.getElem?_set_self hl] at h
      cases h
    · rw [List.getElem?_set_ne ej] at h ⊢
      obtain ⟨w, hw, rw'⟩ := g.vals j e h
      exact ⟨w, hw, rw'.fr (Fr1.less less)⟩
  · by_cases ej : i = j
    · subst ej
      rw [List.getElem?_set_self hl] at h
      cases h
      exact ⟨p, by rw [List.getElem?_set_self hlσ], b.fr (Fr1.less less) fun o h => h, h0, nz⟩
    · rw [List.getElem?_set_ne ej] at h ⊢
      obtain ⟨w, hw, rw', h0', nz'⟩ := g.owns j e h
      exact ⟨w, hw, rw'.fr (Fr1.less less) fun o h => h, h0', fun z => nz' (.inl z)⟩
  · by_cases ej : i = j
    · subst ej
      rw [List.getElem?_set_self hl] at h
      cases h
    · rw [List.getElem?_set_ne ej] at h ⊢
      obtain ⟨w, hw, rw', h0', nz'⟩ := g.bors j e h
      exact ⟨w, hw, rw'.fr (Fr1.less less) fun o h => h, h0', fun z => nz' (.inl z)⟩
  · have np : ∀ (j : Nat) (s : Sl), i ≠ j → env[j]? = some s → s.isOwn = true → σ[j]? = some (some (.ref p)) → False := fun j s _ e1 e2 e3 => g.ownZ ⟨j, s, e1, e2, e3⟩ (.inr rfl)
    by_cases ej : i = j
    · by_cases ek : i = k
      · exact ej.symm.trans ek
      · subst ej
        rw [List.getElem?_set_self hlσ] at h5
        cases h5
        rw [List.getElem?_set_ne ek] at h2 h6
        exact (np k t ek h2 h4 h6).elim
    · by_cases ek : i = k
      · subst ek
        rw [List.getElem?_set_self hlσ] at h6
        cases h6
        rw [List.getElem?_set_ne ej] at h1 h5
        exact (np j s ej h1 h3 h5).elim
      · rw [List.getElem?_set_ne ej] at h1 h5
        rw [List.getElem?_set_ne ek] at h2 h6
        exact g.inj j k s t a h1 h2 h3 h4 h5 h6
  · obtain ⟨e, he⟩ := g.held j a h
    have nj : i ≠ j := fun q => by subst q; rw [hs] at he; cases he; exact nb _ rfl
    exact ⟨e, by rw [List.getElem?_set_ne nj]; exact he⟩
end
def tgI : Tg → List Nat
  | .one i => [i]
  | .tup is => is
/-- a target is bound -/
def gBind (G : Gx) (tg : Tg) : TG := fun v σ H Q => ∃ Z env d env', Good G Z σ H env ∧ Rep G.K H (Av σ env Z) v d ∧ bindT tg d env = some env' ∧
  ∀ σ', Post G Z σ H env σ' H env' → σ'.length = σ.length → (∀ j, j ∉ tgI tg → σ'[j]? = σ[j]?) → Q σ' H
def gBinds (G : Gx) (is : List Nat) : TGs := fun vs σ H Q => ∃ Z env ds env', Good G Z σ H env ∧ Reps G.K H (Av σ env Z) vs ds ∧ bindT.bindTs is ds env = some env' ∧
  ∀ σ', Post G Z σ H env σ' H env' → σ'.length = σ.length → (∀ j, j ∉ is → σ'[j]? = σ[j]?) → Q σ' H
section
variable {G : Gx} {X : Cx}
theorem notBor_of {env : En} {i : Nat} {s : Sl} (h : env[i]? = some s) (nb : ∀ d, s ≠ .bor d) : ∃ s, env[i]? = some s ∧ ∀ d, s ≠ .bor d := ⟨s, h, nb⟩
theorem bind1 {env env' : En} {i : Nat} {d : D} (h : bindT (.one i) d env = some env') : (∃ s, env[i]? = some s ∧ ∀ d, s ≠ .bor d) ∧ env' = env.set i (.val d) := by
  simp only [bindT] at h
  cases hs : env[i]? with
  | none => rw [hs] at h; cases h
  | some s =>
    rw [hs] at h
    cases s <;> simp only [Option.some.injEq, reduceCtorEq] at h <;> exact ⟨⟨_, rfl, fun d e => nomatch e⟩, h.symm⟩
theorem bindTs_cons {env env' : En} {i : Nat} {is : List Nat} {d : D} {ds : List D} (h : bindT.bindTs (i :: is) (d :: ds) env = some env') : (∃ s, env[i]? = some s ∧ ∀ d, s ≠ .bor d) ∧ bindT.bindTs is ds (env.set i (.val d)) = some env' := by
  simp only [bindT.bindTs] at h
  cases hs : env[i]? with
  | none => rw [hs] at h; cases h
  | some s =>
    rw [hs] at h
    cases s <;> simp only [reduceCtorEq] at h <;> exact ⟨⟨_, rfl, fun d e => nomatch e⟩, h⟩
theorem pg_one {i : Nat} {x : Str} {pos : Pos} (hN : X.N.Nodup) (hi : X.N[i]? = some x) (hx : Loc X.env.scope x) (hf : X.fn x = true ∨ X.env.scope.names.lookup x = some .local) : PG X (.Name x pos) (gBind G (.one i)) := by
  have h := pg_name (pos := pos) hN hi hx hf
  refine ⟨fun pins s σ H v u Q I r ⟨Z, env, d, env', g, rp, hb, q⟩ => h.run pins s σ H v u Q I r ?_⟩
  obtain ⟨hs, rfl⟩ := bind1 hb
  exact q _ (g.setVal hs rp) (by simp) fun j hj => by
    rw [List.getElem?_set_ne]
    intro e; exact hj (by simp [tgI, e])
theorem pgs_names : ∀ {es : List Expr} {is : List Nat}, X.N.Nodup → (es.length = is.length) → (∀ (j : Nat) (i : Nat) (e : Expr), es[j]? = some e → is[j]? = some i → ∃ x pos, e = .Name x pos ∧ X.N[i]? = some x ∧ Loc X.env.scope x ∧ (X.fn x = true ∨ X.env.scope.names.lookup x = some .local)) →
    PGs X es (gBinds G is)
  | [], [], _, _, _ => ⟨fun pins s σ H vs us Q I r ⟨Z, env, ds, env', g, rp, hb, q⟩ => pgs_nil.run pins s σ H vs us Q I r (by
      cases rp with
      | nil =>
        simp only [bindT.bindTs, Option.some.injEq] at hb
        subst hb
        exact ⟨rfl, q σ (Post.refl g) rfl fun _ _ => rfl⟩
      | cons _ _ => simp [bindT.bindTs] at hb)⟩
  | e :: es, i :: is, hN, hl, hx => by
    obtain ⟨x, pos, rfl, hi, hloc, hf⟩ := hx 0 i e (by simp) (by simp)
    have h1 := pg_name (pos := pos) hN hi hloc hf
    have h2 := pgs_names (es := es) (is := is) hN (by simpa using hl) fun j i e h1 h2 => hx (j + 1) i e (by simpa using h1) (by simpa using h2)
    have h := pgs_cons h1 h2 rfl
    refine ⟨fun pins s σ H vs us Q I r ⟨Z, env, ds, env', g, rp, hb, q⟩ => h.run pins s σ H vs us Q I r ?_⟩
    cases rp with
    | nil => simp [bindT.bindTs] at hb
    | cons rv rs =>
      obtain ⟨hs, hb'⟩ := bindTs_cons hb
      have p1 := g.setVal hs rv
      refine ⟨_, _, rfl, Z, _, _, env', p1.good, p1.reps rs, hb', fun σ' p2 hl2 hσ => q σ' (p1.trans p2) (by rw [hl2]; simp) fun j hj => ?_⟩
      rw [hσ j fun z => hj (List.mem_cons_of_mem _ z), List.getElem?_set_ne fun e => hj (by simp [e])]
  | [], _ :: _, _, hl, _ => by simp at hl
  | _ :: _, [], _, hl, _ => by simp at hl
theorem assign_names {env : Env} : ∀ {es : List Expr}, (∀ e ∈ es, ∃ x pos, e = .Name x pos) → (assignEach es env).length = es.length ∧ (assignEach es env).findIdx? (·.1) = none
  | [], _ => ⟨rfl, rfl⟩
  | e :: es, h => by
    obtain ⟨x, pos, rfl⟩ := h e List.mem_cons_self
    obtain ⟨h1, h2⟩ := assign_names (es := es) (env := env) fun e he => h e (List.mem_cons_of_mem _ he)
    have e : assignEach (.Name x pos :: es) env = (false, assign (.Name x pos) env) :: assignEach es env := by rfl
    rw [e]
    refine ⟨by simp [h1], ?_⟩
    rw [List.findIdx?_cons, h2]
    rfl
theorem pg_tups {es : List Expr} {k : Nat} {pos : Pos} {is : List Nat} (hK : X.K = G.K) (hc : X.calm = true) (hN : X.N.Nodup) (hl : es.length = is.length) (hx : ∀ (j : Nat) (i : Nat) (e : Expr), es[j]? = some e → is[j]? = some i → ∃ x pos, e = .Name x pos ∧ X.N[i]? = some x ∧ Loc X.env.scope x ∧ (X.fn x = true ∨ X.env.scope.names.lookup x = some .local)) :
    PG X (.Tuple es k pos) (gBind G (.tup is)) := by
  have nm : ∀ e ∈ es, ∃ x pos, e = .Name x pos := fun e he => by
    obtain ⟨j, hj⟩ := List.getElem?_of_mem he
    have hjl : j < is.length := by rw [← hl]; exact (List.getElem?_eq_some_iff.mp hj).1
    obtain ⟨x, pos, e', _⟩ := hx j is[j] e hj (List.getElem?_eq_getElem hjl)
    exact ⟨x, pos, e'⟩
  obtain ⟨a1, a2⟩ := assign_names (env := X.env) nm
  have h := pg_tup (k := k) (pos := pos) hc (pgs_names (G := G) hN hl hx) a1 a2
  refine ⟨fun pins s σ H v u Q I r ⟨Z, env, d, env', g, rp, hb, q⟩ => h.run pins s σ H v u Q I r ?_⟩
  cases d with
  | tup ds =>
    obtain ⟨a, vs, rfl, st, rs, _⟩ := AR.tup (.inl rp)
    simp only [bindT] at hb
    split at hb
    · rename_i hlen
      refine ⟨a, vs, rfl, by rw [hK]; exact st, by rw [rs.len, ← hlen, hl], Z, env, ds, env', g, rs, hb, q⟩
    · cases hb
  | _ => simp [bindT] at hb
end
end Ofw
/-! Ofw 11: comprehensions -/
namespace Ofw
open PySem L2
section
theorem wipeE_len (env : En) : ∀ vs : List Nat, (wipeE env vs).length = env.length
  | [] => rfl
  | v :: vs => by simp [wipeE, wipeE_len env vs]
theorem wipeE_out (env : En) {i : Nat} : ∀ {vs : List Nat}, i ∉ vs → (wipeE env vs)[i]? = env[i]?
  | [], _ => rfl
  | v :: vs, h => by
    simp only [List.mem_cons, not_or] at h
    simp only [wipeE]
    rw [List.getElem?_set_ne (Ne.symm h.1), wipeE_out env h.2]
theorem wipeE_in (env : En) {i : Nat} : ∀ {vs : List Nat}, i ∈ vs → (wipeE env vs)[i]? = none ∨ (wipeE env vs)[i]? = some .emp
  | [], h => by simp at h
  | v :: vs, h => by
    simp only [wipeE]
    by_cases e : v = i
    · subst e
      by_cases hl : v < (wipeE env vs).length
      · right; rw [List.getElem?_set_self hl]
      · left; rw [List.getElem?_eq_none_iff]; simp; omega
    · rw [List.getElem?_set_ne e]
      exact wipeE_in env ((List.mem_cons.mp h).resolve_left fun q => e q.symm)
theorem backE_len (old env : En) : ∀ vs : List Nat, (backE old env vs).length = env.length
  | [] => rfl
  | v :: vs => by simp [backE, backE_len old env vs]
theorem backE_out (old env : En) {i : Nat} : ∀ {vs : List Nat}, i ∉ vs → (backE old env vs)[i]? = env[i]?
  | [], _ => rfl
  | v :: vs, h => by
    simp only [List.mem_cons, not_or] at h
    simp only [backE]
    rw [List.getElem?_set_ne (Ne.symm h.1), backE_out old env h.2]
theorem backE_in (old env : En) (hl : env.length = old.length) {i : Nat} : ∀ {vs : List Nat}, i ∈ vs → (backE old env vs)[i]? = old[i]?
  | [], h => by simp at h
  | v :: vs, h => by
    simp only [backE]
    by_cases e : v = i
    · subst e
      by_cases hv : v < old.length
      · rw [List.getElem?_set_self (by rw [backE_len, hl]; exact hv), List.getD_eq_getElem?_getD, List.getElem?_eq_getElem hv]; rfl
      · rw [List.getElem?_eq_none_iff.mpr (by simp [backE_len]; omega), List.getElem?_eq_none_iff.mpr (by omega)]
    · rw [List.getElem?_set_ne e]
      exact backE_in old env hl ((List.mem_cons.mp h).resolve_left fun q => e q.symm)
theorem plain_of {env : En} {vs : List Nat} (h : plainSlots env vs = true) {i : Nat} (hi : i ∈ vs) : ∃ s, env[i]? = some s ∧ s.isOwn = false := by
  unfold plainSlots at h
  rw [List.all_eq_true] at h
  have := h i hi
  cases e : env[i]? with
  | none => rw [e] at this; simp at this
  | some s => rw [e] at this; exact ⟨s, rfl, by simpa using this⟩
end
section
variable {G : Gx} {Z : Ys} {σ : L2.St} {H H' : Hp} {env : En} {vs : List Nat}
theorem own_wipe {a : Addr} (h : ownA (wipe σ vs) (wipeE env vs) a) : ownA σ env a := by
  obtain ⟨i, s, h1, h2, h3⟩ := h
  obtain ⟨e, n⟩ := wipe_some h3
  exact ⟨i, s, by rw [← wipeE_out env n]; exact h1, h2, e⟩
/-- the block's slots forgotten -/
theorem Good.wiped (g : Good G Z σ H env) (hp : plainSlots env vs = true) : Good G Z (wipe σ vs) H (wipeE env vs) := by
  have less : ∀ a, Av (wipe σ vs) (wipeE env vs) Z a → Av σ env Z a := fun a y => y.elim (fun z => .inl (own_wipe z)) .inr
  have back : ∀ (i : Nat) (s : Sl), s ≠ .emp → (wipeE env vs)[i]? = some s → i ∉ vs ∧ env[i]? = some s := fun i s ne h => by
    by_cases hi : i ∈ vs
    · rcases wipeE_in env hi with e | e
      · rw [e] at h; cases h
      · rw [e] at h; cases h; exact absurd rfl ne
    · exact ⟨hi, by rw [← wipeE_out env hi]; exact h⟩
  refine ⟨by rw [wipeE_len, wipe_length]; exact g.len, g.zdom, fun i d h => ?_, fun i d h => ?_, fun i d h => ?_, fun i j s t a h1 h2 h3 h4 h5 h6 => ?_, fun i a h => ?_, g.frame⟩
  · obtain ⟨hi, h⟩ := back i (.val d) (fun e => nomatch e) h
    obtain ⟨v, hv, r⟩ := g.vals i d h
    exact ⟨v, by rw [wipe_out hi]; exact hv, r.fr (Fr1.less less)⟩
  · obtain ⟨hi, h⟩ := back i (.own d) (fun e => nomatch e) h
    obtain ⟨v, hv, r, h0⟩ := g.owns i d h
    exact ⟨v, by rw [wipe_out hi]; exact hv, r.fr (Fr1.less less) fun o h => h, h0⟩
  · obtain ⟨hi, h⟩ := back i (.bor d) (fun e => nomatch e) h
    obtain ⟨v, hv, r, h0⟩ := g.bors i d h
    exact ⟨v, by rw [wipe_out hi]; exact hv, r.fr (Fr1.less less) fun o h => h, h0⟩
  · have ns : s ≠ .emp := fun e => by rw [e] at h3; cases h3
    have nt : t ≠ .emp := fun e => by rw [e] at h4; cases h4
    obtain ⟨hi, h1⟩ := back i s ns h1
    obtain ⟨hj, h2⟩ := back j t nt h2
    rw [wipe_out hi] at h5
    rw [wipe_out hj] at h6
    exact g.inj i j s t a h1 h2 h3 h4 h5 h6
  · obtain ⟨d, hd⟩ := g.held i a h
    have hi : i ∉ vs := fun hi => by
      obtain ⟨s, hs, ho⟩ := plain_of hp hi
      rw [hd] at hs; cases hs; cases ho
    exact ⟨d, by rw [wipeE_out env hi]; exact hd⟩
/-- what no one has is changed: a place that is forbidden and no slot's -/
theorem Good.mutZ {D : Addr} {o : HO} (g : Good G (zad Z D) σ H env) (h0 : G.H_0 D = none) (hD : H D ≠ none) : Good G (zad Z D) σ (upd H D o) env := by
  have nD : ∀ a, ¬ zad Z D a → a ≠ D := fun a n e => n (.inr e)
  have fr : Fr1 H (upd H D o) (Av σ env (zad Z D)) (Av σ env (zad Z D)) := ⟨fun a u h n => by rw [upd_ne (nD a fun z => n (.inr z))]; exact h, fun _ y => .inl y⟩
  refine ⟨g.len, fun a z => ?_, fun i d h => ?_, fun i d h => ?_, fun i d h => ?_, g.inj, g.held, fun a u h n => ?_⟩
  · by_cases e : a = D
    · rw [e, upd_same]; exact fun q => nomatch q
    · rw [upd_ne e]; exact g.zdom a z
  · obtain ⟨v, hv, r⟩ := g.vals i d h
    exact ⟨v, hv, r.fr fr⟩
  · obtain ⟨v, hv, r, h1, nz⟩ := g.owns i d h
    exact ⟨v, hv, r.fr fr fun u h => by rw [upd_ne (nD v nz)]; exact h, h1, nz⟩
  · obtain ⟨v, hv, r, h1, nz⟩ := g.bors i d h
    exact ⟨v, hv, r.fr fr fun u h => by rw [upd_ne (nD v nz)]; exact h, h1, nz⟩
  · have e : a ≠ D := fun e => by rw [e, h0] at h; cases h
    rw [upd_ne e]; exact g.frame a u h n
theorem wipe_eq {σ σ' : L2.St} (hl : σ'.length = σ.length) (h : ∀ j, j ∉ vs → σ'[j]? = σ[j]?) : wipe σ' vs = wipe σ vs := by
  refine List.ext_getElem? fun j => ?_
  by_cases hj : j ∈ vs
  · have in_ : ∀ (τ : L2.St) {ws : List Nat}, j ∈ ws → (wipe τ ws)[j]? = if j < τ.length then some none else none := fun τ ws => by
      induction ws with
      | nil => intro h; simp at h
      | cons w ws ih =>
        intro h
        simp only [wipe]
        by_cases e : w = j
        · subst e
          by_cases hl : w < τ.length
          · rw [List.getElem?_set_self (by rw [wipe_length]; exact hl), if_pos hl]
          · rw [List.getElem?_eq_none_iff.mpr (by simp [wipe_length]; omega), if_neg hl]
        · rw [List.getElem?_set_ne e]
          exact ih ((List.mem_cons.mp h).resolve_left fun q => e q.symm)
    rw [in_ σ' hj, in_ σ hj, hl]
  · rw [wipe_out hj, wipe_out hj, h j hj]
theorem wipe_wipe (σ : L2.St) : wipe (wipe σ vs) vs = wipe σ vs := wipe_eq (wipe_length σ vs) fun j hj => wipe_out hj
end
/-! ### the loop -/
section
variable (G : Gx) (rf : Nat → List Bool) (C : CallT)
def tIfs : List Ex → TT
  | [] => tYes
  | a :: _ => tTv G (evalE rf C a)
end
def evTurn (rf : Nat → List Bool) (C : CallT) (elt : Ex) (tg : Tg) (ifs : List Ex) (vs : List Nat) (d : D) (en : En) : Option (Option D × En) := match bindT tg d en with
  | some en1 => match evalIfs rf C ifs en1 with
    | some (true, en2) => match evalE rf C elt en2 with
      | some (r, en3) => if plainSlots en3 vs then some (some r.d, wipeE en3 vs) else none
      | none => none
    | some (false, en2) => if plainSlots en2 vs then some (none, wipeE en2 vs) else none
    | none => none
  | none => none
def evLc (rf : Nat → List Bool) (C : CallT) (elt : Ex) (tg : Tg) (k : ItK) (src ifs : List Ex) (vs : List Nat) : En → Option (Rs × En) := fun env => match evalAs rf C src env with
    | some (xs, env1) => match valsOf xs with
      | some ds => match itemsD k ds with
        | some its => if plainSlots env1 vs && decide (its.length < sizeLine) then
            match lcLoop (evTurn rf C elt tg ifs vs) its (wipeE env1 vs) with
            | some (out, env2) => some (.fr (.lst out), backE env1 env2 vs)
            | none => none
          else none
        | none => none
      | none => none
    | none => none
theorem evalE_lc (rf : Nat → List Bool) (C : CallT) (elt : Ex) (tg : Tg) (k : ItK) (src ifs : List Ex) (vs : List Nat) (env : En) : evalE rf C (.lc elt tg k src ifs vs) env = evLc rf C elt tg k src ifs vs env := by
  simp only [evalE]; rfl
section
variable {G : Gx} {rf : Nat → List Bool} {C : CallT}
theorem evLc_inv {elt : Ex} {tg : Tg} {k : ItK} {src ifs : List Ex} {vs : List Nat} {env env' : En} {r : Rs} (h : evLc rf C elt tg k src ifs vs env = some (r, env')) :
    ∃ xs env1 ds its out env2, evalAs rf C src env = some (xs, env1) ∧ valsOf xs = some ds ∧ itemsD k ds = some its ∧ plainSlots env1 vs = true ∧ its.length < sizeLine ∧
      lcLoop (evTurn rf C elt tg ifs vs) its (wipeE env1 vs) = some (out, env2) ∧ r = .fr (.lst out) ∧ env' = backE env1 env2 vs := by
  unfold evLc at h
  cases h1 : evalAs rf C src env with
  | none => rw [h1] at h; cases h
  | some p =>
    obtain ⟨xs, env1⟩ := p
    rw [h1] at h
    cases h2 : valsOf xs with
    | none => simp only [h2] at h; cases h
    | some ds =>
      simp only [h2] at h
      cases h3 : itemsD k ds with
      | none => simp only [h3] at h; cases h
      | some its =>
        simp only [h3] at h
        split at h
        · rename_i hc
          simp only [Bool.and_eq_true, decide_eq_true_eq] at hc
          cases h4 : lcLoop (evTurn rf C elt tg ifs vs) its (wipeE env1 vs) with
          | none => rw [h4] at h; cases h
          | some p =>
            obtain ⟨out, env2⟩ := p
            rw [h4] at h
            simp only [Option.some.injEq, Prod.mk.injEq] at h
            exact ⟨xs, env1, ds, its, out, env2, rfl, h2, h3, hc.1, hc.2, h4, h.1.symm, h.2.symm⟩
        · cases h
theorem evTurn_inv {elt : Ex} {tg : Tg} {ifs : List Ex} {vs : List Nat} {d : D} {en en' : En} {o : Option D} (h : evTurn rf C elt tg ifs vs d en = some (o, en')) :
    ∃ en1 b en2, bindT tg d en = some en1 ∧ evalIfs rf C ifs en1 = some (b, en2) ∧
      ((b = true ∧ ∃ r en3, evalE rf C elt en2 = some (r, en3) ∧ plainSlots en3 vs = true ∧ o = some r.d ∧ en' = wipeE en3 vs) ∨ (b = false ∧ plainSlots en2 vs = true ∧ o = none ∧ en' = wipeE en2 vs)) := by
  unfold evTurn at h
  cases h1 : bindT tg d en with
  | none => rw [h1] at h; cases h
  | some en1 =>
    rw [h1] at h
    cases h2 : evalIfs rf C ifs en1 with
    | none => simp only [h2] at h; cases h
    | some p =>
      obtain ⟨b, en2⟩ := p
      refine ⟨en1, b, en2, rfl, h2, ?_⟩
      cases b with
      | true =>
        simp only [h2] at h
        cases h3 : evalE rf C elt en2 with
        | none => simp only [h3] at h; cases h
        | some q =>
          obtain ⟨r, en3⟩ := q
          simp only [h3] at h
          split at h
          · simp only [Option.some.injEq, Prod.mk.injEq] at h
            exact .inl ⟨rfl, r, en3, rfl, ‹_›, h.1.symm, h.2.symm⟩
          · cases h
      | false =>
        simp only [h2] at h
        split at h
        · simp only [Option.some.injEq, Prod.mk.injEq] at h
          exact .inr ⟨rfl, ‹_›, h.1.symm, h.2.symm⟩
        · cases h
theorem lcLoop_cons {f : D → En → Option (Option D × En)} {d : D} {ds : List D} {env env' : En} {out : List D} (h : lcLoop f (d :: ds) env = some (out, env')) : ∃ o env1 r, f d env = some (o, env1) ∧ lcLoop f ds env1 = some (r, env') ∧ out = o.toList ++ r := by
  simp only [lcLoop] at h
  cases h1 : f d env with
  | none => rw [h1] at h; cases h
  | some p =>
    obtain ⟨o, env1⟩ := p
    rw [h1] at h
    cases h2 : lcLoop f ds env1 with
    | none => simp only [h2] at h; cases h
    | some q =>
      obtain ⟨r, env2⟩ := q
      simp only [h2, Option.some.injEq, Prod.mk.injEq] at h
      obtain ⟨rfl, rfl⟩ := h
      exact ⟨o, env1, r, rfl, h2, rfl⟩
theorem ifs_ok {ifs : List Ex} {Z : Ys} {σ : L2.St} {H : Hp} {en en' : En} {b : Bool} {Q : Bool → Hp → Prop} (g : Good G Z σ H en) (h : evalIfs rf C ifs en = some (b, en')) (q : ∀ H', Post G Z σ H en σ H' en' → Q b H') : tIfs G rf C ifs σ H Q := by
  cases ifs with
  | nil =>
    simp only [evalIfs, Option.some.injEq, Prod.mk.injEq] at h
    obtain ⟨rfl, rfl⟩ := h
    exact q H (Post.refl g)
  | cons a as =>
    simp only [evalIfs] at h
    cases h1 : evalE rf C a en with
    | none => rw [h1] at h; cases h
    | some p =>
      obtain ⟨r, en1⟩ := p
      rw [h1] at h
      cases h2 : truD r.d with
      | none => simp only [h2, Option.map_none] at h; cases h
      | some c =>
        simp only [h2, Option.map_some, Option.some.injEq, Prod.mk.injEq] at h
        obtain ⟨rfl, rfl⟩ := h
        exact ⟨Z, en, r, en1, c, g, h1, h2, q⟩
theorem lc_red {elt : Ex} {tg : Tg} {k : ItK} {src ifs : List Ex} {vs : List Nat} (hv : ∀ i ∈ tgI tg, i ∈ vs) (σ : L2.St) (H : Hp) (Q : VK) (h : tEv G (evLc rf C elt tg k src ifs vs) σ H Q) :
    tLc (tIt G rf C k src) (gBind G tg) (tIfs G rf C ifs) (tE G rf C elt) vs σ H Q := by
  obtain ⟨Z, env, r, env', g, h, q⟩ := h
  obtain ⟨xs, env1, ds, its, out, env2, h1, h2, h3, hp, hsz, h4, rfl, rfl⟩ := evLc_inv h
  refine ⟨Z, env, xs, env1, ds, its, g, h1, h2, h3, fun J svs H1 p1 rs wk D hD => ?_⟩
  have g1 := p1.good
  have h0 : G.H_0 D = none := g1.fresh0 hD
  have gD : Good G (zad Z D) σ (upd H1 D (.lst [])) env1 := g1.ext (same_new hD) (fun a z => z.elim .inl fun e => .inr (by rw [e]; exact hD)) fun a z => by
    by_cases e : a = D
    · rw [e, upd_same]; exact fun q => nomatch q
    · rw [upd_ne e]; exact z.elim (g1.zdom a) fun q => absurd q e
  have gW := gD.wiped hp
  refine ⟨fun i m H => m = its.length - i ∧ i ≤ its.length ∧ ∃ (en : En) (acc : List V) (done rest : List Ofw.D), Good G (zad Z D) (wipe σ vs) H en ∧ lcLoop (evTurn rf C elt tg ifs vs) (its.drop i) en = some (rest, env2) ∧ H D = some (.lst acc) ∧
      Reps G.K H (Av (wipe σ vs) en (zad Z D)) acc done ∧ out = done ++ rest ∧ acc.length ≤ i ∧ Reps G.K H (Av (wipe σ vs) en (zad Z D)) svs ds ∧ (∀ a o, H1 a = some o → ¬ ownA σ env1 a → H a = some o) ∧ (∀ a, H a = none → H1 a = none) ∧
      (∀ a, ownA (wipe σ vs) en a → ownA σ env1 a ∨ H1 a = none), ⟨its.length, rfl, Nat.zero_le _, _, [], [], out, gW, h4, upd_same, .nil, rfl, Nat.le_refl _, ?_, ?_, ?_, ?_⟩, ?_⟩
  · exact rs.fr ⟨fun a o h _ => same_new hD a o h, fun a y => by
      rcases y with y | y | y
      · exact .inl (.inl (own_wipe y))
      · exact .inl (.inr y)
      · exact .inr (by rw [y]; exact hD)⟩
  · exact fun a o h _ => same_new hD a o h
  · exact fun a h => (same_new hD).free h
  · exact fun a z => .inl (own_wipe z)
  · rintro i m H ⟨rfl, hi, en, acc, done, rest, ge, hl, hacc, racc, hout, hal, rsv, st, th, ow⟩
    have nD : ¬ ownA (wipe σ vs) en D := fun z => ge.ownZ z (.inr rfl)
    rcases Nat.lt_or_ge i its.length with hlt | hge
    · right
      refine ⟨wk.go i H _ rsv hlt, fun H' => _, fun H' hN => ⟨its.length - (i + 1), by omega, hN⟩, fun x H2 hy => ?_⟩
      obtain ⟨d, hd, s2, rx⟩ := wk.yld i H _ x H2 rsv (fun a y => ge.avdom y) hlt hy
      have hdrop : its.drop i = d :: its.drop (i + 1) := by
        rw [List.drop_eq_getElem_cons hlt]
        rw [List.getElem?_eq_getElem hlt] at hd
        cases hd
        rfl
      rw [hdrop] at hl
      obtain ⟨o, en1', r', ht, hl', rfl⟩ := lcLoop_cons hl
      obtain ⟨en1, b, en2, hb, hif, hcase⟩ := evTurn_inv ht
      have ps := Post.same ge s2
      refine ⟨zad Z D, en, d, en1, ps.good, rx, hb, fun σ2 p2 hl2 hσ => ⟨?_, ?_⟩⟩
      · rw [wipe_eq hl2 fun j hj => hσ j fun z => hj (hv j z), wipe_wipe]
      · have eW : wipe σ2 vs = wipe σ vs := by rw [wipe_eq hl2 fun j hj => hσ j fun z => hj (hv j z), wipe_wipe]
        refine ifs_ok p2.good hif fun H3 p3 => ?_
        -- one more turn done, at a heap H4, its slots en4
        have fin : ∀ (H4 : Hp) (en4 : En) (acc' : List V) (o' : Option Ofw.D), Post G (zad Z D) (wipe σ vs) H en σ2 H4 en4 → plainSlots en4 vs = true → en1' = wipeE en4 vs →
            (∀ y ∈ acc'.drop acc.length, True) → acc'.length ≤ acc.length + 1 → Reps G.K H4 (Av σ2 en4 (zad Z D)) acc' (done ++ o.toList) →
            (i + 1 ≤ its.length ∧ ∃ (en : En) (acc : List V) (done rest : List Ofw.D), Good G (zad Z D) (wipe σ vs) (upd H4 D (.lst acc')) en ∧ lcLoop (evTurn rf C elt tg ifs vs) (its.drop (i + 1)) en = some (rest, env2) ∧ (upd H4 D (.lst acc')) D = some (.lst acc) ∧
              Reps G.K (upd H4 D (.lst acc')) (Av (wipe σ vs) en (zad Z D)) acc done ∧ out = done ++ rest ∧ acc.length ≤ i + 1 ∧ Reps G.K (upd H4 D (.lst acc')) (Av (wipe σ vs) en (zad Z D)) svs ds ∧ (∀ a o, H1 a = some o → ¬ ownA σ env1 a → (upd H4 D (.lst acc')) a = some o) ∧
              (∀ a, (upd H4 D (.lst acc')) a = none → H1 a = none) ∧ (∀ a, ownA (wipe σ vs) en a → ownA σ env1 a ∨ H1 a = none)) := by
          intro H4 en4 acc' o' P hpl e1 _ hlen rp
          subst e1
          have hD4 : H4 D ≠ none := fun e => by rw [P.step D _ hacc nD] at e; cases e
          have g4 := (P.good.mutZ (o := .lst acc') h0 hD4).wiped hpl
          rw [eW] at g4
          have less : ∀ a, Av (wipe σ vs) (wipeE en4 vs) (zad Z D) a → Av σ2 en4 (zad Z D) a := fun a y => y.elim (fun z => by rw [← eW] at z; exact .inl (own_wipe z)) .inr
          have fr4 : Fr1 H4 (upd H4 D (.lst acc')) (Av σ2 en4 (zad Z D)) (Av (wipe σ vs) (wipeE en4 vs) (zad Z D)) :=
            ⟨fun a u h n => by rw [upd_ne fun e => n (.inr (.inr e))]; exact h, fun a y => .inl (less a y)⟩
          refine ⟨by omega, _, acc', done ++ o.toList, r', g4, hl', upd_same, rp.fr fr4, by rw [hout, List.append_assoc], by omega, (P.reps rsv).fr fr4, fun a u h n => ?_, fun a h => ?_, fun a z => ?_⟩
          · have ne : a ≠ D := fun e => by rw [e, hD] at h; cases h
            rw [upd_ne ne]
            exact P.step a u (st a u h n) fun z => (ow a z).elim n fun q => by rw [h] at q; cases q
          · have ne : a ≠ D := fun e => by rw [e, upd_same] at h; cases h
            rw [upd_ne ne] at h
            exact th a (P.there a h)
          · rw [← eW] at z
            rcases P.own a (own_wipe z) with z | z
            · exact ow a z
            · exact .inr (th a z)
        rcases hcase with ⟨rfl, r, en3, he, hpl, rfl, e1⟩ | ⟨rfl, hpl, rfl, e1⟩
        · refine iteT ⟨zad Z D, en2, r, en3, p3.good, he, fun y H4 p4 ro => ?_⟩
          have P : Post G (zad Z D) (wipe σ vs) H en σ2 H4 en3 := ((ps.trans p2).trans p3).trans p4
          refine ⟨acc, P.step D _ hacc nD, by omega, rfl, ?_⟩
          refine fin H4 en3 (acc ++ [y]) (some r.d) P hpl e1 (fun _ _ => trivial) (by simp) ?_
          exact (P.reps racc).app (.cons (ro.rep p3.good) .nil)
        · refine iteF ?_
          have P : Post G (zad Z D) (wipe σ vs) H en σ2 H3 en2 := (ps.trans p2).trans p3
          have hD3 := P.step D _ hacc nD
          have eU : upd H3 D (.lst acc) = H3 := by
            funext a
            by_cases e : a = D
            · rw [e, upd_same, hD3]
            · rw [upd_ne e]
          have := fin H3 en2 acc none P hpl e1 (fun _ _ => trivial) (by omega) (by simpa using P.reps racc)
          rw [eU] at this
          exact ⟨rfl, this⟩
    · left
      have ei : i = its.length := by omega
      subst ei
      refine ⟨wk.stop H _ rsv, ?_⟩
      rw [List.drop_length] at hl
      simp only [lcLoop, Option.some.injEq, Prod.mk.injEq] at hl
      obtain ⟨rfl, rfl⟩ := hl
      rw [List.append_nil] at hout
      subst hout
      have hlen : en.length = env1.length := by rw [ge.len, wipe_length, ← g1.len]
      have notv : ∀ (i : Nat) (s : Sl), (backE env1 en vs)[i]? = some s → s.isOwn = true → i ∉ vs ∧ en[i]? = some s := fun i s h ho => by
        by_cases hi : i ∈ vs
        · rw [backE_in env1 en hlen hi] at h
          obtain ⟨s', hs, hn⟩ := plain_of hp hi
          rw [h] at hs; cases hs
          rw [ho] at hn; cases hn
        · exact ⟨hi, by rw [← backE_out env1 en hi]; exact h⟩
      have ob : ∀ a, ownA σ (backE env1 en vs) a → ownA (wipe σ vs) en a := fun a ⟨i, s, h1, h2, h3⟩ => by
        obtain ⟨hi, he⟩ := notv i s h1 h2
        exact ⟨i, s, he, h2, by rw [wipe_out hi]; exact h3⟩
      have less : ∀ a, Av σ (backE env1 en vs) (zad Z D) a → Av (wipe σ vs) en (zad Z D) a := fun a y => y.elim (fun z => .inl (ob a z)) .inr
      have gb : Good G (zad Z D) σ H (backE env1 en vs) := by
        refine ⟨by rw [backE_len, hlen]; exact g1.len, ge.zdom, fun i d h => ?_, fun i d h => ?_, fun i d h => ?_, fun i j s t a h1 h2 h3 h4 h5 h6 => ?_, fun i a h => ?_, ge.frame⟩
        · by_cases hi : i ∈ vs
          · rw [backE_in env1 en hlen hi] at h
            obtain ⟨v, hv', rp⟩ := g1.vals i d h
            refine ⟨v, hv', rp.fr ⟨fun a o h n => st a o h fun z => n (.inl z), fun a y => ?_⟩⟩
            rcases y with y | y | y
            · exact (ow a (ob a y)).elim (fun z => .inl (.inl z)) .inr
            · exact .inl (.inr y)
            · exact .inr (by rw [y]; exact hD)
          · rw [backE_out env1 en hi] at h
            obtain ⟨v, hv', rp⟩ := ge.vals i d h
            exact ⟨v, by rw [← wipe_out hi]; exact hv', rp.fr (Fr1.less less)⟩
        · obtain ⟨hi, he⟩ := notv i _ h rfl
          obtain ⟨v, hv', rp, h0⟩ := ge.owns i d he
          exact ⟨v, by rw [← wipe_out hi]; exact hv', rp.fr (Fr1.less less) fun o h => h, h0⟩
        · obtain ⟨hi, he⟩ := notv i _ h rfl
          obtain ⟨v, hv', rp, h0⟩ := ge.bors i d he
          exact ⟨v, by rw [← wipe_out hi]; exact hv', rp.fr (Fr1.less less) fun o h => h, h0⟩
        · obtain ⟨hi, e1⟩ := notv i s h1 h3
          obtain ⟨hj, e2⟩ := notv j t h2 h4
          exact ge.inj i j s t a e1 e2 h3 h4 (by rw [wipe_out hi]; exact h5) (by rw [wipe_out hj]; exact h6)
        · obtain ⟨d, hd⟩ := ge.held i a h
          obtain ⟨v, hv', _⟩ := ge.bors i d hd
          have hi : i ∉ vs := (wipe_some hv').2
          exact ⟨d, by rw [backE_out env1 en hi]; exact hd⟩
      have P : Post G Z σ H1 env1 σ H (backE env1 en vs) := ⟨gb.less fun a z => .inl z, st, fun a z => ow a (ob a z), th⟩
      exact q _ H (p1.trans P) ⟨D, rfl, p1.there D hD, gb, acc, hacc, racc.fr (Fr1.less less)⟩
end
end Ofw
/-! Ofw 12: the text against the small language: operations -/
namespace Ofw
open PySem L2
/-- what the text's module has: its defs, the builtins that no name of it hides, its constants -/
structure Tab where
  fn : Str → Option Nat
  blt : List Str
  cst : Str → Option Const
def noStar : Expr → Bool
  | .Starred _ _ => false
  | _ => true
def isSl : Expr → Bool
  | .Slice _ _ _ _ => true
  | _ => false
def glb (sc : Scope) (x : Str) : Bool := decide (sc.names.lookup x = some .globalImplicit)
def bltOk (T : Tab) (sc : Scope) (x : Str) : Bool := glb sc x && T.blt.contains x
/-- builtins called by their names, with so many arguments -/
def bName : Tag → Option (Str × Nat)
  | .len => some ("len", 1) | .abs1 => some ("abs", 1) | .min2 => some ("min", 2) | .max2 => some ("max", 2)
  | .sum1 => some ("sum", 1) | .all1 => some ("all", 1) | .any1 => some ("any", 1) | .sorted1 => some ("sorted", 1)
  | .int1 => some ("int", 1) | .bool1 => some ("bool", 1) | .str1 => some ("str", 1) | .tuple1 => some ("tuple", 1) | .list1 => some ("list", 1)
  | .repr1 => some ("repr", 1) | .divmod2 => some ("divmod", 2)
  | _ => none
def shape (T : Tab) (sc : Scope) (t : Tag) (e : Expr) : Option (List Expr) := match t with
  | .bin op => match e with
    | .BinOp a op' b _ => if op = op' then some [a, b] else none
    | _ => none
  | .cmp op => match e with
    | .Compare a [op'] [b] _ => if op = op' ∧ behindInMarks op b = false then some [a, b] else none
    | _ => none
  | .neg => match e with
    | .UnaryOp .USub a _ => some [a]
    | _ => none
  | .tup => match e with
    | .Tuple es _ _ => some es
    | _ => none
  | .lst => match e with
    | .List es _ => some es
    | _ => none
  | .idx => match e with
    | .Subscript a i _ => if isSl i = false then some [a, i] else none
    | _ => none
  | .isi U => match e with
    | .Call (.Name f _) [a, .Name tn _] [] _ => if f = "isinstance" ∧ tn = Str.ofString U.name ∧ bltOk T sc f = true ∧ bltOk T sc tn = true then some [a] else none
    | _ => none
  | .call f => match e with
    | .Call (.Name x _) (a :: es) [] _ => if T.fn x = some f ∧ glb sc x = true ∧ (x == ("__debug__" : Str)) = false then some (a :: es) else none
    | _ => none
  | .upper => match e with
    | .Call (.Attribute (.Name y py) x apos) [] [] pos => if x = "upper" ∧ (apos.endLine == pos.line) = true then some [.Name y py] else none
    | _ => none
  | .join sep => match e with
    | .Call (.Attribute (.Constant (.str z) _ _) x apos) [a] [] pos => if x = "join" ∧ z = sep ∧ (apos.endLine == pos.line) = true then some [a] else none
    | _ => none
  | .dic 0 => match e with
    | .Dict [] [] _ => some []
    | _ => none
  | t => match e with
    | .Call (.Name x _) (a :: es) [] _ => match bName t with
      | some (n, k) => if x = n ∧ bltOk T sc x = true ∧ (a :: es).length = k then some (a :: es) else none
      | none => none
    | _ => none
section
variable (G : Gx) (rf : Nat → List Bool) (C : CallT)
inductive PEs (X : Cx) : List Expr → List Ex → Prop where
  | nil : PEs X [] []
  | cons {e : Expr} {a : Ex} {es : List Expr} {as : List Ex} : PE X e (tArg G rf C a) → noStar e = true → PEs X es as → PEs X (e :: es) (a :: as)
end
/-- what is known of the module around, where X runs -/
structure CtxOk (T : Tab) (rf : Nat → List Bool) (C : CallT) (N : List Str) (sc : Scope) (X : Cx) : Prop where
  names : X.N = N
  nd : N.Nodup
  scope : X.env.scope = sc
  calm : X.calm = true
  units : X.A.units + 64 < cLine
  guards : X.A.guards = some []
  fns : ∀ x f, T.fn x = some f → ∃ k a fd ps, Room k X.A ∧ X.mg x = some (.ref a) ∧ PySem.W.keepIn X.K (.ref a) = true ∧ Binds X.K fd ps [] ∧ FnG X.prog X.w X.K X.mg X.base k a fd ps (spF X.K (rf f) C f)
  blts : ∀ x, T.blt.contains x = true → X.mg x = none
  csts : ∀ x c, T.cst x = some c → ∃ u, X.mg x = some u ∧ match c with
    | .int i => ∃ t, u = .int i t
    | .str s => ∃ t, u = .str s t
    | .bool b => u = .bool b
    | _ => False
section
variable {G : Gx} {rf : Nat → List Bool} {C : CallT} {X : Cx} {T : Tab} {N : List Str} {sc : Scope}
theorem star_one {e : Expr} (h : noStar e = true) (es : List Expr) (env : Env) : starEach (e :: es) env = (false, eval e env) :: starEach es env := by
  cases e <;> first | rfl | cases h
theorem PEs.pa : ∀ {es : List Expr} {as : List Ex}, PEs G rf C X es as → PA X es (tArgs G rf C as)
  | _, _, .nil => pa_nil
  | _, _, .cons h n r => pa_cons h (PEs.pa r) (star_one n _ _)
theorem PEs.plain {pos : Pos} : ∀ {es : List Expr} {as : List Ex}, PEs G rf C X es as → (backTo pos (starEach es X.env)).any (·.1) = false
  | _, _, .nil => rfl
  | _, _, .cons (es := es) h n r => by
    have ih := PEs.plain (pos := pos) r
    rw [star_one n]
    unfold backTo at ih ⊢
    rw [List.map_cons, List.any_cons, ih]
    rfl
theorem Gl_of (ok : CtxOk T rf C N sc X) {x : Str} (h : glb sc x = true) : Gl X x := by
  unfold Gl
  show X.env.scope.names.lookup x = _
  rw [ok.scope]
  exact of_decide_eq_true h
theorem blt_of (ok : CtxOk T rf C N sc X) {x : Str} (h : bltOk T sc x = true) : Gl X x ∧ X.mg x = none := by
  unfold bltOk at h
  simp only [Bool.and_eq_true] at h
  exact ⟨Gl_of ok h.1, ok.blts x h.2⟩
theorem pe_blt {id : String} {t : Tag} {x : Str} {p pos : Pos} {e : Expr} {es : List Expr} {as : List Ex} (hK : G.K = X.K) (hr : CallR X (.builtin id) (rTag X.K t)) (ht : ∀ f, t ≠ .call f) (hs : storing t = false) (hg : Gl X x) (hm : X.mg x = none) (hv : bootBuiltins x = some (.builtin id))
    (hn : x ≠ "__name__") (hd : (x == ("__debug__" : Str)) = false) (ps : PEs G rf C X (e :: es) as) : PE X (.Call (.Name x p) (e :: es) [] pos) (tE G rf C (.op t as)) := by
  have pl : (backTo pos (starEach es X.env)).any (·.1) = false := by cases ps with | cons _ _ r => exact r.plain
  have st : starEach (e :: es) X.env = (false, eval e X.env) :: starEach es X.env := by cases ps with | cons _ n r => exact star_one n _ _
  refine (pe_callB hr hg hm hv ps.pa hn hd st pl).imp fun σ H Q q => ?_
  have h := op_red ht hs q
  rw [hK] at h
  exact h
theorem pe_bty {id : String} {t : Tag} {x : Str} {p pos : Pos} {e : Expr} {es : List Expr} {as : List Ex} (hK : G.K = X.K) (hr : CallR X (.type id) (rTag X.K t)) (ht : ∀ f, t ≠ .call f) (hs : storing t = false) (hg : Gl X x) (hm : X.mg x = none) (hv : bootBuiltins x = some (.type id))
    (hn : x ≠ "__name__") (hd : (x == ("__debug__" : Str)) = false) (ps : PEs G rf C X (e :: es) as) : PE X (.Call (.Name x p) (e :: es) [] pos) (tE G rf C (.op t as)) := by
  have pl : (backTo pos (starEach es X.env)).any (·.1) = false := by cases ps with | cons _ _ r => exact r.plain
  have st : starEach (e :: es) X.env = (false, eval e X.env) :: starEach es X.env := by cases ps with | cons _ n r => exact star_one n _ _
  refine (pe_callTy hr hg hm hv ps.pa hn hd st pl).imp fun σ H Q q => ?_
  have h := op_red ht hs q
  rw [hK] at h
  exact h
theorem noSl_plain {i : Expr} (h : isSl i = false) : PlainIx i := by
  intro o k
  cases i <;> first | rfl | cases h
theorem two_of {es : List Expr} {as : List Ex} {a b : Expr} (h : PEs G rf C X [a, b] as) : ∃ x y, as = [x, y] ∧ PE X a (tArg G rf C x) ∧ PE X b (tArg G rf C y) := by
  cases h with
  | cons h1 _ r => cases r with
    | cons h2 _ r => cases r; exact ⟨_, _, rfl, h1, h2⟩
theorem one_of {as : List Ex} {a : Expr} (h : PEs G rf C X [a] as) : ∃ x, as = [x] ∧ PE X a (tArg G rf C x) := by
  cases h with
  | cons h1 _ r => cases r; exact ⟨_, rfl, h1⟩
theorem cmp_bl {op : CmpOp} {as : List Ex} (env : En) (r : Rs) (env' : En) (h : evalE rf C (.op (.cmp op) as) env = some (r, env')) : ∃ b, r = .val (.bl b) := by
  simp only [evalE] at h
  cases h1 : evalAs rf C as env with
  | none => rw [h1] at h; cases h
  | some p =>
    obtain ⟨xs, env1⟩ := p
    rw [h1] at h
    simp only [applyT] at h
    cases h2 : (if storing (.cmp op) = true then valsOf xs else looks env1 xs) with
    | none => rw [h2] at h; cases h
    | some ds =>
      rw [h2] at h
      cases h3 : primD (.cmp op) ds with
      | none => simp only [h3, Option.map_none] at h; cases h
      | some res =>
        simp only [h3, Option.map_some, Option.some.injEq, Prod.mk.injEq] at h
        obtain ⟨rfl, rfl⟩ := h
        change prCmp op ds = some res at h3
        unfold prCmp at h3
        split at h3
        · rename_i a b
          cases h4 : cmpD op a b with
          | none => rw [h4] at h3; cases h3
          | some k => rw [h4] at h3; cases h3; exact ⟨k, rfl⟩
        · cases h3
theorem ty_boot (U : Ty) : bootBuiltins (Str.ofString U.name) = some (.type U.name) := by cases U <;> decide +kernel
theorem ty_nm (U : Ty) : Str.ofString U.name ≠ "__name__" := by cases U <;> decide +kernel
theorem ty_db (U : Ty) : (Str.ofString U.name == ("__debug__" : Str)) = false := by cases U <;> decide +kernel
theorem r_upper {x : V} {H : Hp} {Q : VK} (h : rTag X.K .upper [x] H Q) : (∃ a, x = .str a) ∧ ∃ a, x = .str a ∧ ([] : List V) = [] ∧ a.length ≤ 5592405 ∧ Q (.str (Txt.upper a)) H := by
  obtain ⟨Y, ds, res, hY, ar, h, q⟩ := h
  change prUpper ds = some res at h
  unfold prUpper at h
  split at h
  · obtain ⟨x', e, ha⟩ := ar.one
    cases e
    obtain rfl := ha.str
    split at h
    · cases h
      exact ⟨⟨_, rfl⟩, _, rfl, rfl, ‹_›, q _ H (Same.refl H) (.str _)⟩
    · cases h
  · cases h
theorem r_join {sep : Str} {x : V} {H : Hp} {Q : VK} (h : rTag X.K (.join sep) [x] H Q) : ∃ a p, ∃ ys : List Str, V.str sep = .str a ∧ [x] = [.ref p] ∧ (SqL X.K H p (ys.map V.str) ∨ SqT X.K H p (ys.map V.str)) ∧
      (ys.map (·.length)).sum + ys.length * a.length ≤ 16777216 ∧ Q (.str (Txt.join a ys)) H := by
  obtain ⟨Y, ds, res, hY, ar, h, q⟩ := h
  change prJoin sep ds = some res at h
  unfold prJoin at h
  split at h
  · obtain ⟨x', e, ha⟩ := ar.one
    cases e
    obtain ⟨p, vs, rfl, e, rr⟩ := ha.lst
    rename_i ds
    cases hn : strsD ds with
    | none => rw [hn] at h; cases h
    | some ns =>
      rw [hn] at h
      simp only [Option.bind_some] at h
      split at h
      · cases h
        rw [strsD_ok hn] at rr
        obtain rfl := rr.strs
        exact ⟨sep, p, ns, rfl, rfl, .inl (SqL.of e), ‹_›, q _ H (Same.refl H) (.str _)⟩
      · cases h
  · obtain ⟨x', e, ha⟩ := ar.one
    cases e
    obtain ⟨p, vs, rfl, e, rr, rp⟩ := ha.tup
    rename_i ds
    cases hn : strsD ds with
    | none => rw [hn] at h; cases h
    | some ns =>
      rw [hn] at h
      simp only [Option.bind_some] at h
      split at h
      · cases h
        rw [strsD_ok hn] at rr
        obtain rfl := rr.strs
        exact ⟨sep, p, ns, rfl, rfl, .inr e, ‹_›, q _ H (Same.refl H) (.str _)⟩
      · cases h
  · cases h
theorem r_dic0 {K : PySem.W.Frag} {H : Hp} {Q : VK} (h : rTagV K (.dic 0) [] H Q) : ∀ p, H p = none → Q (.ref p) (upd H p (.dK [])) := by
  obtain ⟨Y, ds, res, hY, ar, h, q⟩ := h
  cases ar
  cases h
  intro p hp
  exact q _ _ (same_new hp) ⟨p, rfl, hp, [], upd_same, .nil⟩
theorem tArg_mono {a : Ex} {σ : L2.St} {H : Hp} {Q Q' : VK} (m : ∀ v H, Q v H → Q' v H) (h : tArg G rf C a σ H Q) : tArg G rf C a σ H Q' := by
  by_cases hp : ∃ i, a = .peek i
  · obtain ⟨i, rfl⟩ := hp
    obtain ⟨v, hv, q⟩ := h
    exact ⟨v, hv, m _ _ q⟩
  · rw [tArg_of fun i e => hp ⟨i, e⟩] at h ⊢
    obtain ⟨Z, env, r, env', g, h1, q⟩ := h
    exact ⟨Z, env, r, env', g, h1, fun v H' p ro => m _ _ (q v H' p ro)⟩
/-- an operation of the text is what the evaluator reckons -/
theorem sound_op (ok : CtxOk T rf C N sc X) (hK : G.K = X.K) {t : Tag} {e : Expr} {es : List Expr} {as : List Ex} (hsh : shape T sc t e = some es) (ps : PEs G rf C X es as) : PE X e (tE G rf C (.op t as)) ∧ PT X e (tTv G (evalE rf C (.op t as))) := by
  have viaPE : (PE X e (tE G rf C (.op t as))) → (∀ whole, isTrue e X.env whole = (do let v ← whole; standAt e.pos; holding [v] (truthy v))) → PE X e (tE G rf C (.op t as)) ∧ PT X e (tTv G (evalE rf C (.op t as))) := fun h he => ⟨h, pt_of_pe hK.symm h he⟩
  have hu1 : X.A.units + 1 < cLine := by have := ok.units; omega
  unfold shape at hsh
  split at hsh
  · split at hsh <;> try cases hsh
    split at hsh <;> try cases hsh
    rename_i op _ _ _ _ _ heq
    subst heq
    obtain ⟨x, y, rfl, ha, hb⟩ := two_of (es := []) ps
    refine viaPE ((pe_op r_bin ha hb).imp fun σ H Q q => ?_) (fun _ => rfl)
    have h := op_red (by intro f e; cases e) rfl q
    rw [hK] at h
    exact h
  · split at hsh <;> try cases hsh
    split at hsh <;> try cases hsh
    rename_i op _ _ _ _ _ heq
    obtain ⟨heq, hm⟩ := heq
    subst heq
    obtain ⟨x, y, rfl, ha, hb⟩ := two_of (es := []) ps
    have red : ∀ σ H Q, tE G rf C (.op (.cmp op) [x, y]) σ H Q → tOp (fun x y => rTag X.K (.cmp op) [x, y]) (tArg G rf C x) (tArg G rf C y) σ H Q := fun σ H Q q => by
      have h := op_red (by intro f e; cases e) rfl q
      rw [hK] at h
      exact h
    exact ⟨(pe_cmpR (r_cmp ok.units) ha hb hm).imp red, pt_of_test (pt_cmpR (r_cmp ok.units) ha hb hm) red cmp_bl⟩
  · split at hsh <;> try cases hsh
    obtain ⟨x, rfl, ha⟩ := one_of ps
    refine viaPE ((pe_un r_neg ha).imp fun σ H Q q => ?_) (fun _ => rfl)
    have h := op_red (by intro f e; cases e) rfl q
    rw [hK] at h
    exact h
  · split at hsh <;> try cases hsh
    refine viaPE ((pe_tup ps.pa).imp fun σ H Q q => ?_) (fun _ => rfl)
    exact tArgs_mono (fun vs H1 h => r_tup h) (op_redV (by intro f e; cases e) rfl q)
  · split at hsh <;> try cases hsh
    refine viaPE ((pe_lst ps.pa).imp fun σ H Q q => ?_) (fun _ => rfl)
    exact tArgs_mono (fun vs H1 h => r_lst h) (op_redV (by intro f e; cases e) rfl q)
  · split at hsh <;> try cases hsh
    split at hsh <;> try cases hsh
    rename_i hs
    obtain ⟨x, y, rfl, ha, hb⟩ := two_of (es := []) ps
    refine viaPE ((pe_ix (r_idx hu1) ha hb (noSl_plain hs)).imp fun σ H Q q => ?_) (fun _ => rfl)
    have h := op_red (by intro f e; cases e) rfl q
    rw [hK] at h
    exact h
  · split at hsh <;> try cases hsh
    split at hsh <;> try cases hsh
    rename_i U _ f _ a tn _ _ hc
    obtain ⟨rfl, rfl, b1, b2⟩ := hc
    obtain ⟨g1, m1⟩ := blt_of ok b1
    obtain ⟨g2, m2⟩ := blt_of ok b2
    obtain ⟨x, rfl, ha⟩ := one_of ps
    have hn : noStar a = true := by cases ps with | cons _ n _ => exact n
    have hv := ty_boot U
    have hn1 := ty_nm U
    have hn2 := ty_db U
    have hty : ∀ pos, PE X (.Name (Str.ofString U.name) pos) (tC (.ty U.name)) := fun pos => pe_bltn g2 m2 hv rfl hn1 hn2
    refine viaPE ((pe_callB call_isi g1 m1 (by decide +kernel) (pa_cons ha (pa_cons (hty _) pa_nil rfl) (star_one hn _ _)) (by decide) (by decide) (star_one hn _ _) rfl).imp fun σ H Q q => ?_) (fun _ => rfl)
    have h := op_red (by intro f e; cases e) rfl q
    rw [hK] at h
    have h' : tArgs G rf C [x] σ H (fun vs H1 => ∃ v, vs = [v] ∧ rIsi X.K [v, .ty U.name] H1 Q) := tArgs_mono (fun vs H1 h => by
      obtain ⟨Y, ds, res, hY, ar, hp, q⟩ := id h
      change prIsi U ds = some res at hp
      unfold prIsi at hp
      split at hp
      · obtain ⟨v, rfl, _⟩ := ar.one
        exact ⟨v, rfl, r_isi h⟩
      · cases hp) h
    show tArg G rf C x σ H fun v H1 => rIsi X.K [v, .ty U.name] H1 Q
    by_cases hp : ∃ i, x = .peek i
    · obtain ⟨i, rfl⟩ := hp
      obtain ⟨v, hv, w, e, q⟩ := (show tVar i σ H fun v H1 => ∃ w, [v] = [w] ∧ rIsi X.K [w, .ty U.name] H1 Q from h')
      cases e
      exact ⟨v, hv, q⟩
    · have hp' : ∀ i, x ≠ .peek i := fun i e => hp ⟨i, e⟩
      have h'' : tArg G rf C x σ H fun v H1 => ∃ w, [v] = [w] ∧ rIsi X.K [w, .ty U.name] H1 Q := h'
      rw [tArg_of hp'] at h'' ⊢
      obtain ⟨Z, env, r, env', g, he, q⟩ := h''
      refine ⟨Z, env, r, env', g, he, fun v H' p ro => ?_⟩
      obtain ⟨w, e, q⟩ := q v H' p ro
      cases e
      exact q
  · split at hsh <;> try cases hsh
    split at hsh <;> try cases hsh
    rename_i f _ x _ a es' _ hc
    obtain ⟨hf, hg, hd⟩ := hc
    obtain ⟨k, ad, fd, prs, room, mg, kp, bi, fo⟩ := ok.fns x f hf
    have pl : ∀ pos, (backTo pos (starEach es' X.env)).any (·.1) = false := fun pos => by cases ps with | cons _ _ r => exact r.plain
    have st : starEach (a :: es') X.env = (false, eval a X.env) :: starEach es' X.env := by cases ps with | cons _ n r => exact star_one n _ _
    refine viaPE ((peG_call fo ok.guards room (Gl_of ok hg) mg kp bi ps.pa hd st (pl _)).imp fun σ H Q q => ?_) (fun _ => rfl)
    have h := call_red q
    rw [hK] at h
    exact h
  · split at hsh <;> try cases hsh
    split at hsh <;> try cases hsh
    rename_i hc
    obtain ⟨rfl, hl⟩ := hc
    obtain ⟨x, rfl, ha⟩ := one_of ps
    refine viaPE ((pe_upper ha rfl hl).imp fun σ H Q q => ?_) (fun _ => rfl)
    have h := op_red (by intro f e; cases e) rfl q
    rw [hK] at h
    exact tArg_mono (fun v H1 h => r_upper h) h
  · split at hsh <;> try cases hsh
    split at hsh <;> try cases hsh
    rename_i hc
    obtain ⟨rfl, rfl, hl⟩ := hc
    obtain ⟨x, rfl, ha⟩ := one_of ps
    have hn := by cases ps with | cons _ n _ => exact n
    refine viaPE ((pe_join pe_str ha (star_one hn _ _) rfl hl).imp fun σ H Q q => ?_) (fun _ => rfl)
    have h := op_red (by intro f e; cases e) rfl q
    rw [hK] at h
    exact ⟨⟨_, rfl⟩, tArg_mono (fun v H1 h => r_join h) h⟩
  · split at hsh <;> try cases hsh
    cases ps
    refine viaPE (pe_dnewK.imp fun σ H Q q => ?_) (fun _ => rfl)
    have h := op_redV (by intro f e; cases e) rfl q
    exact r_dic0 h
  · split at hsh <;> try cases hsh
    rename_i x _ a es' _
    split at hsh <;> try cases hsh
    rename_i n k hbn
    split at hsh <;> try cases hsh
    rename_i hc
    obtain ⟨rfl, b1, _⟩ := hc
    obtain ⟨g1, m1⟩ := blt_of ok b1
    refine viaPE ?_ (fun _ => rfl)
    cases t <;> simp only [bName, Option.some.injEq, Prod.mk.injEq, reduceCtorEq] at hbn
    all_goals (obtain ⟨rfl, rfl⟩ := hbn)
    · exact pe_blt hK r_len (fun f e => nomatch e) rfl g1 m1 (by decide +kernel) (by decide) (by decide) ps
    · exact pe_bty hK r_int1 (fun f e => nomatch e) rfl g1 m1 (by decide +kernel) (by decide) (by decide) ps
    · exact pe_bty hK r_bool1 (fun f e => nomatch e) rfl g1 m1 (by decide +kernel) (by decide) (by decide) ps
    · exact pe_bty hK r_str1 (fun f e => nomatch e) rfl g1 m1 (by decide +kernel) (by decide) (by decide) ps
    · exact pe_blt hK (r_repr ok.guards ok.units) (fun f e => nomatch e) rfl g1 m1 (by decide +kernel) (by decide) (by decide) ps
    · exact pe_blt hK r_abs1 (fun f e => nomatch e) rfl g1 m1 (by decide +kernel) (by decide) (by decide) ps
    · exact pe_blt hK (r_min2 ok.calm) (fun f e => nomatch e) rfl g1 m1 (by decide +kernel) (by decide) (by decide) ps
    · exact pe_blt hK (r_max2 ok.calm) (fun f e => nomatch e) rfl g1 m1 (by decide +kernel) (by decide) (by decide) ps
    · exact pe_blt hK (r_sum1 ok.calm) (fun f e => nomatch e) rfl g1 m1 (by decide +kernel) (by decide) (by decide) ps
    · exact pe_blt hK (r_all1 ok.calm) (fun f e => nomatch e) rfl g1 m1 (by decide +kernel) (by decide) (by decide) ps
    · exact pe_blt hK (r_any1 ok.calm) (fun f e => nomatch e) rfl g1 m1 (by decide +kernel) (by decide) (by decide) ps
    · exact pe_blt hK r_sorted1 (fun f e => nomatch e) rfl g1 m1 (by decide +kernel) (by decide) (by decide) ps
    · exact pe_bty hK r_tuple1 (fun f e => nomatch e) rfl g1 m1 (by decide +kernel) (by decide) (by decide) ps
    · exact pe_bty hK r_list1 (fun f e => nomatch e) rfl g1 m1 (by decide +kernel) (by decide) (by decide) ps
    · exact pe_blt hK r_divmod (fun f e => nomatch e) rfl g1 m1 (by decide +kernel) (by decide) (by decide) ps
end
end Ofw
/-! Ofw 13: the text against the small language: expressions -/
namespace Ofw
open PySem L2
section
variable {G : Gx} {rf : Nat → List Bool} {C : CallT} {X : Cx} {T : Tab} {N : List Str} {sc : Scope}
theorem pt_if' {c a b : Expr} {pos : Pos} {ec ea eb : En → Option (Rs × En)} (hc : PT X c (tTv G ec)) (ha : PT X a (tTv G ea)) (hb : PT X b (tTv G eb)) : PT X (.IfExp c a b pos) (tTv G (evIf ec ea eb)) := by
  refine ⟨fun pins s σ H Q I ⟨Z, env, r, env', k, g, h, hk, q⟩ => ?_⟩
  obtain ⟨r1, env1, b', h1, h2, h3⟩ := evIf_inv h
  show wpAny _ _ (do if ← isTrue c X.env (eval c X.env) then isTrue a X.env (eval a X.env) else isTrue b X.env (eval b X.env)) _ _ s
  refine wpAny_bind (thn (hc.run pins s σ H (fun c H1 => c = b' ∧ Post G Z σ H env σ H1 env1) I ⟨Z, env, r1, env1, b', g, h1, h2, fun H' p => ⟨rfl, p⟩⟩) fun d s1 ⟨H1, I1, e, p⟩ => ?_)
  subst e
  cases d with
  | true => exact ha.run pins s1 σ H1 Q I1 ⟨Z, env1, r, env', k, p.good, by simpa using h3, hk, fun H2 p2 => q H2 (p.trans p2)⟩
  | false => exact hb.run pins s1 σ H1 Q I1 ⟨Z, env1, r, env', k, p.good, by simpa using h3, hk, fun H2 p2 => q H2 (p.trans p2)⟩
/-- the first of some arguments -/
theorem first_ok {a : Ex} {rest : List Ex} {env env1 : En} {xs : List Av1} {Z : Ys} {σ : L2.St} {H : Hp} (g : Good G Z σ H env) (h : evalAs rf C (a :: rest) env = some (xs, env1)) :
    ∃ x0 xs' enva, xs = x0 :: xs' ∧ evalAs rf C rest enva = some (xs', env1) ∧ ∀ Q : VK, (∀ v H1, Post G Z σ H env σ H1 enva → (∀ H2, Post G Z σ H1 enva σ H2 env1 → ∀ d, look env1 x0 = some d → AR G.K H2 (Av σ env1 Z) v d) → Q v H1) → tArg G rf C a σ H Q := by
  by_cases hp : ∃ i, a = .peek i
  · obtain ⟨i, rfl⟩ := hp
    simp only [evalAs] at h
    cases hs : env[i]? with
    | none => rw [hs] at h; cases h
    | some s =>
      rw [hs] at h
      have hd : ∃ d, slotD s = some d := by cases s <;> first | exact ⟨_, rfl⟩ | cases h
      obtain ⟨d, hd⟩ := hd
      obtain ⟨v, hv⟩ := g.slot hs hd
      have h' : (match evalAs rf C rest env with
        | some (xs, env2) => some (Av1.r i :: xs, env2)
        | none => none) = some (xs, env1) := by cases s <;> first | exact h | cases hd
      cases h1 : evalAs rf C rest env with
      | none => rw [h1] at h'; cases h'
      | some p =>
        obtain ⟨ys, env2⟩ := p
        rw [h1] at h'
        simp only [Option.some.injEq, Prod.mk.injEq] at h'
        obtain ⟨rfl, rfl⟩ := h'
        refine ⟨.r i, ys, env, rfl, h1, fun Q q => ⟨v, hv, q v H (Post.refl g) fun H2 p2 d' hl => ?_⟩⟩
        have hl' : looks env2 [.r i] = some [d'] := by simp only [looks, hl]
        have := looks_ok p2.good (.r hv .nil) hl'
        obtain ⟨w, e, ar⟩ := this.one
        cases e
        exact ar
  · have hp' : ∀ i, a ≠ .peek i := fun i e => hp ⟨i, e⟩
    rw [evalAs_cons hp'] at h
    cases h1 : evalE rf C a env with
    | none => rw [h1] at h; cases h
    | some p =>
      obtain ⟨r, enva⟩ := p
      rw [h1] at h
      cases h2 : evalAs rf C rest enva with
      | none => simp only [h2] at h; cases h
      | some p2 =>
        obtain ⟨ys, env2⟩ := p2
        simp only [h2, Option.some.injEq, Prod.mk.injEq] at h
        obtain ⟨rfl, rfl⟩ := h
        refine ⟨.v r.d, ys, enva, rfl, h2, fun Q q => ?_⟩
        rw [tArg_of hp']
        refine ⟨Z, env, r, enva, g, h1, fun v H1 p1 ro => q v H1 p1 fun H2 p2 d hl => ?_⟩
        simp only [look, Option.some.injEq] at hl
        subst hl
        exact .inl (p2.rep (ro.rep g))
/-- an int among them -/
theorem next_int {x : Ex} {rest : List Ex} {env env1 : En} {xs : List Av1} {Z : Ys} {σ : L2.St} {H : Hp} (hp : ∀ i, x ≠ .peek i) (g : Good G Z σ H env) (h : evalAs rf C (x :: rest) env = some (xs, env1)) :
    ∃ r enva xs', evalE rf C x env = some (r, enva) ∧ xs = .v r.d :: xs' ∧ evalAs rf C rest enva = some (xs', env1) := by
  rw [evalAs_cons hp] at h
  cases h1 : evalE rf C x env with
  | none => rw [h1] at h; cases h
  | some p =>
    obtain ⟨r, enva⟩ := p
    rw [h1] at h
    cases h2 : evalAs rf C rest enva with
    | none => simp only [h2] at h; cases h
    | some p2 =>
      obtain ⟨ys, env2⟩ := p2
      simp only [h2, Option.some.injEq, Prod.mk.injEq] at h
      obtain ⟨rfl, rfl⟩ := h
      exact ⟨r, enva, ys, rfl, rfl, h2⟩
theorem looks_cons {env : En} {x : Av1} {xs : List Av1} {ds : List D} (h : looks env (x :: xs) = some ds) : ∃ d ds', look env x = some d ∧ looks env xs = some ds' ∧ ds = d :: ds' := by
  simp only [looks] at h
  cases h1 : look env x with
  | none => rw [h1] at h; cases h
  | some d =>
    cases h2 : looks env xs with
    | none => rw [h1, h2] at h; cases h
    | some es =>
      rw [h1, h2] at h
      simp only [Option.some.injEq] at h
      exact ⟨d, es, rfl, rfl, h.symm⟩
theorem post_refl_of {Z : Ys} {σ : L2.St} {H : Hp} {env env1 : En} (g : Good G Z σ H env) (h : evalAs rf C [] env = some ([], env1)) : env1 = env := by
  simp only [evalAs, Option.some.injEq, Prod.mk.injEq] at h
  exact h.2.symm
theorem sl_ff {a : Ex} (σ : L2.St) (H : Hp) (Q : VK) (h : tE G rf C (.op (.slc false false) [a]) σ H Q) : tSl (rSlcD G.K) (tArg G rf C a) tNoPart tNoPart σ H Q := by
  obtain ⟨Z, env, xs, env1, ds, res, g, h1, h2, h3, q⟩ := op_red0 (by intro f e; cases e) h
  obtain ⟨x0, xs', enva, rfl, hr, first⟩ := first_ok g h1
  simp only [evalAs, Option.some.injEq, Prod.mk.injEq] at hr
  obtain ⟨rfl, rfl⟩ := hr
  obtain ⟨d, ds', hl, hls, rfl⟩ := looks_cons h2
  simp only [looks, Option.some.injEq] at hls
  subst hls
  refine first _ fun v H1 p1 ar => ?_
  exact ⟨Av σ enva Z, d, res, fun a y => p1.good.avdom y, ar H1 (Post.refl p1.good) d hl, h3, q H1 p1⟩
theorem sl_tf {a x : Ex} (hx : ∀ i, x ≠ .peek i) (σ : L2.St) (H : Hp) (Q : VK) (h : tE G rf C (.op (.slc true false) [a, x]) σ H Q) : tSl (rSlcD G.K) (tArg G rf C a) (tPart (tE G rf C x)) tNoPart σ H Q := by
  obtain ⟨Z, env, xs, env1, ds, res, g, h1, h2, h3, q⟩ := op_red0 (by intro f e; cases e) h
  obtain ⟨x0, xs', enva, rfl, hr, first⟩ := first_ok g h1
  refine first _ fun v H1 p1 ar => ?_
  obtain ⟨r, envx, xs2, he, rfl, hr2⟩ := next_int hx p1.good hr
  simp only [evalAs, Option.some.injEq, Prod.mk.injEq] at hr2
  obtain ⟨rfl, rfl⟩ := hr2
  obtain ⟨d, ds', hl, hls, rfl⟩ := looks_cons h2
  simp only [looks, look, Option.some.injEq] at hls
  subst hls
  change prSlcTF [d, r.d] = some res at h3
  unfold prSlcTF at h3
  split at h3
  · rename_i d' i heq
    simp only [List.cons.injEq, and_true] at heq
    obtain ⟨rfl, hri⟩ := heq
    exact part_of p1.good he hri fun H2 p2 => ⟨Av σ envx Z, d, res, fun a y => p2.good.avdom y, ar H2 p2 d hl, h3, q H2 (p1.trans p2)⟩
  · cases h3
theorem sl_ft {a x : Ex} (hx : ∀ i, x ≠ .peek i) (σ : L2.St) (H : Hp) (Q : VK) (h : tE G rf C (.op (.slc false true) [a, x]) σ H Q) : tSl (rSlcD G.K) (tArg G rf C a) tNoPart (tPart (tE G rf C x)) σ H Q := by
  obtain ⟨Z, env, xs, env1, ds, res, g, h1, h2, h3, q⟩ := op_red0 (by intro f e; cases e) h
  obtain ⟨x0, xs', enva, rfl, hr, first⟩ := first_ok g h1
  refine first _ fun v H1 p1 ar => ?_
  obtain ⟨r, envx, xs2, he, rfl, hr2⟩ := next_int hx p1.good hr
  simp only [evalAs, Option.some.injEq, Prod.mk.injEq] at hr2
  obtain ⟨rfl, rfl⟩ := hr2
  obtain ⟨d, ds', hl, hls, rfl⟩ := looks_cons h2
  simp only [looks, look, Option.some.injEq] at hls
  subst hls
  change prSlcFT [d, r.d] = some res at h3
  unfold prSlcFT at h3
  split at h3
  · rename_i d' i heq
    simp only [List.cons.injEq, and_true] at heq
    obtain ⟨rfl, hri⟩ := heq
    show tPart (tE G rf C x) σ H1 fun u H3 => rSlcD G.K v none u H3 Q
    exact part_of p1.good he hri fun H2 p2 => ⟨Av σ envx Z, d, res, fun a y => p2.good.avdom y, ar H2 p2 d hl, h3, q H2 (p1.trans p2)⟩
  · cases h3
theorem sl_tt {a x y : Ex} (hx : ∀ i, x ≠ .peek i) (hy : ∀ i, y ≠ .peek i) (σ : L2.St) (H : Hp) (Q : VK) (h : tE G rf C (.op (.slc true true) [a, x, y]) σ H Q) : tSl (rSlcD G.K) (tArg G rf C a) (tPart (tE G rf C x)) (tPart (tE G rf C y)) σ H Q := by
  obtain ⟨Z, env, xs, env1, ds, res, g, h1, h2, h3, q⟩ := op_red0 (by intro f e; cases e) h
  obtain ⟨x0, xs', enva, rfl, hr, first⟩ := first_ok g h1
  refine first _ fun v H1 p1 ar => ?_
  obtain ⟨r, envx, xs2, he, rfl, hr2⟩ := next_int hx p1.good hr
  obtain ⟨d, ds', hl, hls, rfl⟩ := looks_cons h2
  have key : ∀ H2, Post G Z σ H1 enva σ H2 envx → ∃ r2 env2, evalE rf C y envx = some (r2, env2) ∧ env2 = env1 ∧ xs2 = [.v r2.d] := fun H2 p2 => by
    obtain ⟨r2, env2, xs3, he2, e, hr3⟩ := next_int hy p2.good hr2
    simp only [evalAs, Option.some.injEq, Prod.mk.injEq] at hr3
    obtain ⟨rfl, rfl⟩ := hr3
    exact ⟨r2, env2, he2, rfl, e⟩
  obtain ⟨d1, ds1, hl1, hls1, rfl⟩ := looks_cons hls
  simp only [look, Option.some.injEq] at hl1
  subst hl1
  have hi : ∃ i j, r.d = .int i ∧ ds1 = [.int j] ∧ slcD d (some i) (some j) = some res := by
    change prSlcTT (d :: r.d :: ds1) = some res at h3
    unfold prSlcTT at h3
    split at h3
    · rename_i d' i j heq
      simp only [List.cons.injEq] at heq
      obtain ⟨rfl, hri, hds⟩ := heq
      exact ⟨i, j, hri, hds, h3⟩
    · cases h3
  obtain ⟨i, j, hri, rfl, h4⟩ := hi
  refine part_of p1.good he hri fun H2 p2 => ?_
  obtain ⟨r2, env2, he2, rfl, rfl⟩ := key H2 p2
  simp only [looks, look, Option.some.injEq, List.cons.injEq, and_true] at hls1
  exact part_of p2.good he2 hls1 fun H3 p3 => ⟨Av σ env2 Z, d, res, fun a y => p3.good.avdom y, ar H3 (p2.trans p3) d hl, h4, q H3 ((p1.trans p2).trans p3)⟩
end
/-! ### the check -/
def visB (sc : Scope) (x : Str) : Bool := decide (sc.names.lookup x = some .local) || decide (sc.names.lookup x = some .cell) || decide (sc.names.lookup x = some .free)
def slotOk (N : List Str) (sc : Scope) (i : Nat) (x : Str) : Bool := decide (N[i]? = some x) && visB sc x && !(x == ("__debug__" : Str)) && !(x == ("__classdict__" : Str))
def notPeek : Ex → Bool
  | .peek _ => false
  | _ => true
def cstD : Const → D → Bool
  | .int i, .int j => decide (i = j)
  | .str x, .str y => decide (x = y)
  | .bool a, .bl b => decide (a = b)
  | _, _ => false
def litOk (c c' : Const) : Bool := match c, c' with
  | .none, .none => true
  | .bool a, .bool b => a == b
  | .int a, .int b => decide (a = b)
  | .str a, .str b => decide (a = b)
  | _, _ => false
/-- a name stored: its slot; kind says whether the block may store it -/
def storeOk (N : List Str) (sc : Scope) (fnc : Str → Bool) (i : Nat) (x : Str) : Bool := decide (N[i]? = some x) && (decide (sc.names.lookup x = some .local) || (decide (sc.names.lookup x = some .cell) && fnc x))
def storesOk (N : List Str) (sc : Scope) (fnc : Str → Bool) : List Nat → List Expr → Bool
  | [], [] => true
  | i :: is, .Name x _ :: es => storeOk N sc fnc i x && storesOk N sc fnc is es
  | _, _ => false
def tgOk (N : List Str) (sc : Scope) (fnc : Str → Bool) : Tg → Expr → Bool
  | .one i, .Name x _ => storeOk N sc fnc i x
  | .tup is, .Tuple es _ _ => storesOk N sc fnc is es
  | _, _ => false
def isTupE : Expr → Bool
  | .Tuple _ _ _ => true
  | _ => false
def isSetE : Expr → Bool
  | .Set _ _ _ => true
  | _ => false
/-- what is walked: its arguments -/
def itShape (T : Tab) (sc : Scope) (tg : Expr) (k : ItK) (e : Expr) : Option (List Expr) := match k with
  | .seq => if isSetE e = false then some [e] else none
  | .rng1 => match e with
    | .Call (.Name f _) [a] [] _ => if f = "range" ∧ bltOk T sc f = true then some [a] else none
    | _ => none
  | .rng2 => match e with
    | .Call (.Name f _) [a, b] [] _ => if f = "range" ∧ bltOk T sc f = true then some [a, b] else none
    | _ => none
  | .enum => match e with
    | .Call (.Name f _) [a] [] _ => if f = "enumerate" ∧ bltOk T sc f = true ∧ isTupE tg = true then some [a] else none
    | _ => none
  | .zip2 => match e with
    | .Call (.Name f _) [a, b] [] _ => if f = "zip" ∧ bltOk T sc f = true ∧ isTupE tg = true then some [a, b] else none
    | _ => none
  | .items => none
def ownOf (N : List Str) (vs : List Nat) : List (Str × Nat) := vs.map fun i => (N.getD i Str.empty, i)
mutual
def chkE (T : Tab) (N : List Str) : Ex → Scope → Expr → Bool
  | .var i, sc, e => match e with
    | .Name x _ => slotOk N sc i x
    | _ => false
  | .peek _, _, _ => false
  | .lit c, _, e => match e with
    | .Constant c' _ _ => litOk c c'
    | _ => false
  | .glob x d, sc, e => match e with
    | .Name y _ => decide (x = y) && glb sc x && !(x == ("__debug__" : Str)) && (match T.cst x with | some c => cstD c d | none => false)
    | _ => false
  | .op t as, sc, e => match t with
    | .slc lo hi => match e with
      | .Subscript a (.Slice l u none _) _ => (l.isSome == lo) && (u.isSome == hi) && (as.drop 1).all notPeek && chkAs T N as sc (a :: (l.toList ++ u.toList))
      | _ => false
    | t => match shape T sc t e with
      | some es => chkAs T N as sc es
      | none => false
  | .not a, sc, e => match e with
    | .UnaryOp .Not e1 _ => chkE T N a sc e1
    | _ => false
  | .and as, sc, e => match e with
    | .BoolOp .And es _ => !as.isEmpty && chkEs T N as sc es
    | _ => false
  | .or as, sc, e => match e with
    | .BoolOp .Or es _ => !as.isEmpty && chkEs T N as sc es
    | _ => false
  | .ife c a b, sc, e => match e with
    | .IfExp e1 e2 e3 _ => chkE T N c sc e1 && chkE T N a sc e2 && chkE T N b sc e3
    | _ => false
  | .chain p q a b c, sc, e => match e with
    | .Compare e1 [p', q'] [e2, e3] _ => decide (p = p') && decide (q = q') && !(lastMarks [p, q] [e2, e3]) && chkE T N a sc e1 && chkE T N b sc e2 && chkE T N c sc e3
    | _ => false
  | .lc elt tg k src ifs vs, sc, e => match e with
    | .ListComp eelt [⟨etg, eit, eifs, 0⟩] scope _ => tgOk N (relS scope sc) (fun x => scope.names.lookup x == some .cell) tg etg && (tgI tg).all (fun i => vs.contains i) && blkC N sc scope (ownOf N vs) &&
        !isSetE eit && decide (eifs.length ≤ 1) && src.all notPeek &&
        (match itShape T sc etg k eit with
          | some es => chkAs T N src sc es
          | none => false) && chkEs T N ifs (relS scope sc) eifs && chkE T N elt (relS scope sc) eelt
    | _ => false
def chkAs (T : Tab) (N : List Str) : List Ex → Scope → List Expr → Bool
  | [], _, es => es.isEmpty
  | .peek i :: as, sc, es => match es with
    | .Name x _ :: es => slotOk N sc i x && chkAs T N as sc es
    | _ => false
  | a :: as, sc, es => match es with
    | e :: es => noStar e && chkE T N a sc e && chkAs T N as sc es
    | _ => false
def chkEs (T : Tab) (N : List Str) : List Ex → Scope → List Expr → Bool
  | [], _, es => es.isEmpty
  | a :: as, sc, es => match es with
    | e :: es => chkE T N a sc e && chkEs T N as sc es
    | _ => false
end
end Ofw
/-! Ofw 14: expressions are what the evaluator reckons -/
namespace Ofw
open PySem L2
section
variable {G : Gx} {rf : Nat → List Bool} {C : CallT} {X : Cx} {T : Tab} {N : List Str} {sc : Scope}
theorem slot_vis (ok : CtxOk T rf C N sc X) {i : Nat} {x : Str} (h : slotOk N sc i x = true) : X.N[i]? = some x ∧ Vis X.env.scope x ∧ (x == ("__debug__" : Str)) = false ∧ (x == ("__classdict__" : Str)) = false := by
  unfold slotOk visB at h
  simp only [Bool.and_eq_true, Bool.or_eq_true, decide_eq_true_eq, Bool.not_eq_true'] at h
  obtain ⟨⟨⟨h1, h2⟩, h3⟩, h4⟩ := h
  refine ⟨by rw [ok.names]; exact h1, ?_, h3, h4⟩
  unfold Vis
  rw [ok.scope]
  rcases h2 with (h2 | h2) | h2
  · exact .inl h2
  · exact .inr (.inl h2)
  · exact .inr (.inr h2)
theorem e_var (ok : CtxOk T rf C N sc X) {i : Nat} {x : Str} {pos : Pos} (h : slotOk N sc i x = true) : PE X (.Name x pos) (tE G rf C (.var i)) := by
  obtain ⟨h1, h2, h3, h4⟩ := slot_vis ok h
  refine (pe_var h1 h2 h3 h4).imp fun σ H Q ⟨Z, env, r, env', g, he, q⟩ => ?_
  simp only [evalE] at he
  cases hs : env[i]? with
  | none => rw [hs] at he; cases he
  | some s =>
    rw [hs] at he
    cases s with
    | emp => cases he
    | bor d => cases he
    | val d =>
      simp only [Option.some.injEq, Prod.mk.injEq] at he
      obtain ⟨rfl, rfl⟩ := he
      obtain ⟨v, hv, rp⟩ := g.vals i d hs
      exact ⟨v, hv, q v H (Post.refl g) rp⟩
    | own d =>
      simp only [Option.some.injEq, Prod.mk.injEq] at he
      obtain ⟨rfl, rfl⟩ := he
      obtain ⟨a, ha, b, h0, nz⟩ := g.owns i d hs
      -- the place is no slot's own any more
      have hl : i < env.length := (List.getElem?_eq_some_iff.mp hs).1
      have eσ : σ.set i (some (.ref a)) = σ := by
        refine List.ext_getElem? fun j => ?_
        by_cases e : i = j
        · subst e; rw [List.getElem?_set_self (by rw [← g.len]; exact hl), ha]
        · rw [List.getElem?_set_ne e]
      have ow : ∀ c, ownA σ (env.set i (.val d)) c → ownA σ env c ∧ c ≠ a := fun c ⟨j, s, h1, h2, h3⟩ => by
        have ne : i ≠ j := fun e => by subst e; rw [List.getElem?_set_self hl] at h1; cases h1; cases h2
        rw [List.getElem?_set_ne ne] at h1
        refine ⟨⟨j, s, h1, h2, h3⟩, fun e => ne (g.inj i j _ s a hs h1 rfl h2 ha (by rw [← e]; exact h3))⟩
      have less : ∀ c, Av σ (env.set i (.val d)) Z c → Av σ env Z c := fun c y => y.elim (fun z => .inl (ow c z).1) .inr
      have rp : Rep G.K H (Av σ (env.set i (.val d)) Z) (.ref a) d := (b.fr (Fr1.less less) fun o h => h).rep fun y => y.elim (fun z => (ow a z).2 rfl) nz
      have g' : Good G Z σ H (env.set i (.val d)) := by
        refine ⟨by simp [g.len], g.zdom, fun j e h => ?_, fun j e h => ?_, fun j e h => ?_, fun j k s t c h1 h2 h3 h4 h5 h6 => ?_, fun j c h => ?_, g.frame⟩
        · by_cases ej : i = j
          · subst ej
            rw [List.getElem?_set_self hl] at h
            cases h
            exact ⟨_, ha, rp⟩
          · rw [List.getElem?_set_ne ej] at h
            obtain ⟨w, hw, rw'⟩ := g.vals j e h
            exact ⟨w, hw, rw'.fr (Fr1.less less)⟩
        · by_cases ej : i = j
          · subst ej; rw [List.getElem?_set_self hl] at h; cases h
          · rw [List.getElem?_set_ne ej] at h
            obtain ⟨w, hw, rw', h0⟩ := g.owns j e h
            exact ⟨w, hw, rw'.fr (Fr1.less less) fun o h => h, h0⟩
        · by_cases ej : i = j
          · subst ej; rw [List.getElem?_set_self hl] at h; cases h
          · rw [List.getElem?_set_ne ej] at h
            obtain ⟨w, hw, rw', h0⟩ := g.bors j e h
            exact ⟨w, hw, rw'.fr (Fr1.less less) fun o h => h, h0⟩
        · have nj : i ≠ j := fun e => by subst e; rw [List.getElem?_set_self hl] at h1; cases h1; cases h3
          have nk : i ≠ k := fun e => by subst e; rw [List.getElem?_set_self hl] at h2; cases h2; cases h4
          rw [List.getElem?_set_ne nj] at h1
          rw [List.getElem?_set_ne nk] at h2
          exact g.inj j k s t c h1 h2 h3 h4 h5 h6
        · obtain ⟨e, he⟩ := g.held j c h
          have nj : i ≠ j := fun q => by subst q; rw [hs] at he; cases he
          exact ⟨e, by rw [List.getElem?_set_ne nj]; exact he⟩
      exact ⟨_, ha, q _ H ⟨g', fun _ _ h _ => h, fun c z => .inl (ow c z).1, fun _ h => h⟩ rp⟩
theorem e_lit {c c' : Const} {k : Nat} {pos : Pos} (h : litOk c c' = true) : PE X (.Constant c' k pos) (tE G rf C (.lit c)) := by
  unfold litOk at h
  split at h
  · refine pe_non.imp fun σ H Q ⟨Z, env, r, env', g, he, q⟩ => ?_
    simp only [evalE, litD, Option.map_some, Option.some.injEq, Prod.mk.injEq] at he
    obtain ⟨rfl, rfl⟩ := he
    exact q _ H (Post.refl g) .non
  · obtain rfl := of_decide_eq_true (by simpa using h : decide (_ = _) = true)
    refine pe_bl.imp fun σ H Q ⟨Z, env, r, env', g, he, q⟩ => ?_
    simp only [evalE, litD, Option.map_some, Option.some.injEq, Prod.mk.injEq] at he
    obtain ⟨rfl, rfl⟩ := he
    exact q _ H (Post.refl g) (.bl _)
  · obtain rfl := of_decide_eq_true h
    refine pe_int.imp fun σ H Q ⟨Z, env, r, env', g, he, q⟩ => ?_
    simp only [evalE, litD, Option.map_some, Option.some.injEq, Prod.mk.injEq] at he
    obtain ⟨rfl, rfl⟩ := he
    exact q _ H (Post.refl g) (.int _)
  · obtain rfl := of_decide_eq_true h
    refine pe_str.imp fun σ H Q ⟨Z, env, r, env', g, he, q⟩ => ?_
    simp only [evalE, litD, Option.map_some, Option.some.injEq, Prod.mk.injEq] at he
    obtain ⟨rfl, rfl⟩ := he
    exact q _ H (Post.refl g) (.str _)
  · cases h
theorem e_glob (ok : CtxOk T rf C N sc X) {x : Str} {d : D} {pos : Pos} (hg : glb sc x = true) (hd : (x == ("__debug__" : Str)) = false) (hc : (match T.cst x with | some c => cstD c d | none => false) = true) : PE X (.Name x pos) (tE G rf C (.glob x d)) := by
  cases h : T.cst x with
  | none => rw [h] at hc; cases hc
  | some c =>
    rw [h] at hc
    obtain ⟨u, hu, hr⟩ := ok.csts x c h
    have hex : ∃ v, RelV v u ∧ ∀ (H : Hp) (Y : Ys), Rep G.K H Y v d := by
      simp only at hc
      unfold cstD at hc
      split at hc
      · obtain rfl := of_decide_eq_true hc
        exact ⟨.int _, hr, fun H Y => .int _⟩
      · obtain rfl := of_decide_eq_true hc
        exact ⟨.str _, hr, fun H Y => .str _⟩
      · obtain rfl := of_decide_eq_true hc
        exact ⟨.bl _, hr, fun H Y => .bl _⟩
      · cases hc
    obtain ⟨v, rv, rp⟩ := hex
    refine (pe_glob (Gl_of ok hg) hu rv hd).imp fun σ H Q ⟨Z, env, r, env', g, he, q⟩ => ?_
    simp only [evalE, Option.some.injEq, Prod.mk.injEq] at he
    obtain ⟨rfl, rfl⟩ := he
    exact q v H (Post.refl g) (rp H _)
theorem store_ok1 {fnc : Str → Bool} (ok : CtxOk T rf C N sc X) (hfn : X.fn = fnc ∨ X.fn = fun _ => true) {i : Nat} {x : Str} (h : storeOk N sc fnc i x = true) : X.N[i]? = some x ∧ L2.Loc X.env.scope x ∧ (X.fn x = true ∨ X.env.scope.names.lookup x = some .local) := by
  unfold storeOk at h
  simp only [Bool.and_eq_true, Bool.or_eq_true, decide_eq_true_eq] at h
  obtain ⟨h1, h2⟩ := h
  refine ⟨by rw [ok.names]; exact h1, ?_⟩
  unfold L2.Loc
  rw [ok.scope]
  rcases h2 with h2 | ⟨h2, h3⟩
  · exact ⟨.inl h2, .inr h2⟩
  · refine ⟨.inr h2, .inl ?_⟩
    rcases hfn with e | e
    · rw [e]; exact h3
    · rw [e]
theorem stores_ok {fnc : Str → Bool} (ok : CtxOk T rf C N sc X) (hfn : X.fn = fnc ∨ X.fn = fun _ => true) : ∀ {is : List Nat} {es : List Expr}, storesOk N sc fnc is es = true → es.length = is.length ∧
    ∀ (j : Nat) (i : Nat) (e : Expr), es[j]? = some e → is[j]? = some i → ∃ x pos, e = .Name x pos ∧ X.N[i]? = some x ∧ L2.Loc X.env.scope x ∧ (X.fn x = true ∨ X.env.scope.names.lookup x = some .local)
  | [], [], _ => ⟨rfl, fun j i e h => by simp at h⟩
  | i :: is, e :: es, h => by
    cases e with
    | Name x pos =>
      simp only [storesOk, Bool.and_eq_true] at h
      obtain ⟨hl, ih⟩ := stores_ok ok hfn h.2
      refine ⟨by simp [hl], fun j i' e h1 h2 => ?_⟩
      cases j with
      | zero =>
        simp at h1 h2
        subst h1; subst h2
        exact ⟨x, pos, rfl, store_ok1 ok hfn h.1⟩
      | succ j => exact ih j i' e (by simpa using h1) (by simpa using h2)
    | _ => simp [storesOk] at h
  | [], _ :: _, h => by simp [storesOk] at h
  | _ :: _, [], h => by simp [storesOk] at h
theorem tg_ok {fnc : Str → Bool} (ok : CtxOk T rf C N sc X) (hK : G.K = X.K) (hfn : X.fn = fnc ∨ X.fn = fun _ => true) {tg : Tg} {e : Expr} (h : tgOk N sc fnc tg e = true) : PG X e (gBind G tg) := by
  have nd : X.N.Nodup := by rw [ok.names]; exact ok.nd
  unfold tgOk at h
  split at h
  · obtain ⟨h1, h2, h3⟩ := store_ok1 ok hfn h
    exact pg_one nd h1 h2 h3
  · obtain ⟨hl, hx⟩ := stores_ok ok hfn h
    exact pg_tups hK.symm ok.calm nd hl hx
  · cases h
theorem it_ok (ok : CtxOk T rf C N sc X) (hK : G.K = X.K) {tg : Expr} {k : ItK} {e : Expr} {es : List Expr} {src : List Ex} (hsh : itShape T sc tg k e = some es) (ps : PEs G rf C X es src) (hp : src.all notPeek = true) : PI X tg e (tIt G rf C k src) := by
  unfold itShape at hsh
  split at hsh
  · split at hsh <;> try cases hsh
    obtain ⟨x, rfl, ha⟩ := one_of ps
    have hx : ∀ i, x ≠ .peek i := fun i e => by subst e; simp [notPeek] at hp
    rw [tArg_of hx] at ha
    exact pi_seq' hx hK.symm ha
  · split at hsh <;> try cases hsh
    split at hsh <;> try cases hsh
    rename_i hc
    obtain ⟨rfl, hb⟩ := hc
    obtain ⟨g1, m1⟩ := blt_of ok hb
    exact pi_rng1' g1 m1 ps.pa (by cases ps with | cons _ n r => cases r; exact star_one n _ _)
  · split at hsh <;> try cases hsh
    split at hsh <;> try cases hsh
    rename_i hc
    obtain ⟨rfl, hb⟩ := hc
    obtain ⟨g1, m1⟩ := blt_of ok hb
    cases ps with
    | cons h1 n1 r => cases r with
      | cons h2 n2 r =>
        cases r
        exact pi_rng2' g1 m1 (PEs.cons h1 n1 (.cons h2 n2 .nil)).pa (by rw [star_one n1, star_one n2]; rfl) (by rw [star_one n2]; rfl)
  · split at hsh <;> try cases hsh
    split at hsh <;> try cases hsh
    rename_i hc
    obtain ⟨rfl, hb, ht⟩ := hc
    obtain ⟨g1, m1⟩ := blt_of ok hb
    cases tg <;> first | cases ht | skip
    exact pi_enum' hK.symm g1 m1 ps.pa (by cases ps with | cons _ n r => cases r; exact star_one n _ _)
  · split at hsh <;> try cases hsh
    split at hsh <;> try cases hsh
    rename_i hc
    obtain ⟨rfl, hb, ht⟩ := hc
    obtain ⟨g1, m1⟩ := blt_of ok hb
    cases tg <;> first | cases ht | skip
    cases ps with
    | cons h1 n1 r => cases r with
      | cons h2 n2 r =>
        cases r
        exact pi_zip' hK.symm g1 m1 (PEs.cons h1 n1 (.cons h2 n2 .nil)).pa (by rw [star_one n1]) (PEs.cons h2 n2 .nil).plain
  · cases hsh
/-- within a comprehension's block -/
theorem CtxOk.blk (ok : CtxOk T rf C N sc X) (s : Shared) (H : Hp) (scope : Scope) (cl : List (Str × Addr)) (Ca : Addr) (fp : List Addr) : CtxOk T rf C N (relS scope sc) (X.blk s H scope (compEnvC scope cl Ca X.env) fp) where
  names := ok.names
  nd := ok.nd
  scope := by
    rw [← ok.scope]
    rfl
  calm := ok.calm
  units := ok.units
  guards := ok.guards
  fns := ok.fns
  blts := ok.blts
  csts := ok.csts
theorem setless {it : Expr} (h : isSetE it = false) (env : Env) : ∀ x, foldedSetIterable it env x = pure x := by
  intro x
  cases it <;> first | rfl | cases h
end
end Ofw
/-! Ofw 15: expressions are what the evaluator reckons: all of them -/
namespace Ofw
open PySem L2
section
variable {G : Gx} {rf : Nat → List Bool} {C : CallT} {T : Tab} {N : List Str}
theorem chkE_op {t : Tag} {as : List Ex} {sc : Scope} {e : Expr} (ht : ∀ lo hi, t ≠ .slc lo hi) (h : chkE T N (.op t as) sc e = true) : ∃ es, shape T sc t e = some es ∧ chkAs T N as sc es = true := by
  unfold chkE at h
  cases t <;> first | exact absurd rfl (ht _ _) | skip
  all_goals
    simp only at h
    split at h
    · exact ⟨_, ‹_›, h⟩
    · cases h
theorem chkAs_cons {a : Ex} {as : List Ex} {sc : Scope} {es : List Expr} (h : chkAs T N (a :: as) sc es = true) :
    (∃ i x pos es', a = .peek i ∧ es = .Name x pos :: es' ∧ slotOk N sc i x = true ∧ chkAs T N as sc es' = true) ∨ (∃ e es', (∀ i, a ≠ .peek i) ∧ es = e :: es' ∧ noStar e = true ∧ chkE T N a sc e = true ∧ chkAs T N as sc es' = true) := by
  by_cases hp : ∃ i, a = .peek i
  · obtain ⟨i, rfl⟩ := hp
    unfold chkAs at h
    split at h
    · simp only [Bool.and_eq_true] at h
      exact .inl ⟨i, _, _, _, rfl, rfl, h.1, h.2⟩
    · cases h
  · have hp' : ∀ i, a ≠ .peek i := fun i e => hp ⟨i, e⟩
    right
    cases es with
    | nil => cases a <;> first | (unfold chkAs at h; cases h) | exact absurd rfl (hp' _)
    | cons e es =>
      have h' : (noStar e && chkE T N a sc e && chkAs T N as sc es) = true := by
        cases a <;> first | exact absurd rfl (hp' _) | (unfold chkAs at h; exact h)
      simp only [Bool.and_eq_true] at h'
      exact ⟨e, es, hp', rfl, h'.1.1, h'.1.2, h'.2⟩
theorem chkEs_cons {a : Ex} {as : List Ex} {sc : Scope} {es : List Expr} (h : chkEs T N (a :: as) sc es = true) : ∃ e es', es = e :: es' ∧ chkE T N a sc e = true ∧ chkEs T N as sc es' = true := by
  unfold chkEs at h
  split at h
  · simp only [Bool.and_eq_true] at h
    exact ⟨_, _, rfl, h.1, h.2⟩
  · cases h
theorem chkEs_nil {sc : Scope} {es : List Expr} (h : chkEs T N [] sc es = true) : es = [] := by
  unfold chkEs at h
  simpa using h
theorem chkAs_nil {sc : Scope} {es : List Expr} (h : chkAs T N [] sc es = true) : es = [] := by
  unfold chkAs at h
  simpa using h
abbrev SndE (G : Gx) (rf : Nat → List Bool) (C : CallT) (T : Tab) (N : List Str) (ex : Ex) : Prop := ∀ (sc : Scope) (e : Expr) (X : Cx), CtxOk T rf C N sc X → G.K = X.K → chkE T N ex sc e = true → PE X e (tE G rf C ex) ∧ PT X e (tTv G (evalE rf C ex))
abbrev SndA (G : Gx) (rf : Nat → List Bool) (C : CallT) (T : Tab) (N : List Str) (as : List Ex) : Prop := ∀ (sc : Scope) (es : List Expr) (X : Cx), CtxOk T rf C N sc X → G.K = X.K → chkAs T N as sc es = true → PEs G rf C X es as
abbrev SndL (G : Gx) (rf : Nat → List Bool) (C : CallT) (T : Tab) (N : List Str) (as : List Ex) : Prop := ∀ (sc : Scope) (es : List Expr) (X : Cx), CtxOk T rf C N sc X → G.K = X.K → chkEs T N as sc es = true →
  (as ≠ [] → ∀ pos, (PE X (.BoolOp .And es pos) (tEv G (evalAnd rf C as)) ∧ PW X (.BoolOp .And es pos) (tTv G (evalAnd rf C as))) ∧ (PE X (.BoolOp .Or es pos) (tEv G (evalOr rf C as)) ∧ PW X (.BoolOp .Or es pos) (tTv G (evalOr rf C as)))) ∧
  (es.length ≤ 1 → PTs X es (tIfs G rf C as))
theorem evalAnd_cons2 (a b : Ex) (as : List Ex) : evalAnd rf C (a :: b :: as) = evAnd (evalE rf C a) (evalAnd rf C (b :: as)) := by
  funext env; simp only [evalAnd]; rfl
theorem evalOr_cons2 (a b : Ex) (as : List Ex) : evalOr rf C (a :: b :: as) = evOr (evalE rf C a) (evalOr rf C (b :: as)) := by
  funext env; simp only [evalOr]; rfl
theorem snd_op {t : Tag} {as : List Ex} (hA : SndA G rf C T N as) : SndE G rf C T N (.op t as) := by
  intro sc e X ok hK h
  by_cases hs : ∃ lo hi, t = .slc lo hi
  · obtain ⟨lo, hi, rfl⟩ := hs
    unfold chkE at h
    simp only at h
    split at h
    · rename_i a l u p2 pos
      simp only [Bool.and_eq_true, beq_iff_eq] at h
      obtain ⟨⟨⟨hlo, hhi⟩, hnp⟩, hc⟩ := h
      have ps := hA sc _ X ok hK hc
      have fin : PE X (.Subscript a (.Slice l u none p2) pos) (tE G rf C (.op (.slc lo hi) as)) := by
        cases l with
        | none =>
          cases u with
          | none =>
            subst hlo; subst hhi
            obtain ⟨x, rfl, ha⟩ := one_of ps
            refine (pe_slice r_slc ha po_none po_none).imp fun σ H Q q => ?_
            have := sl_ff σ H Q q
            rw [hK] at this
            exact this
          | some ue =>
            subst hlo; subst hhi
            obtain ⟨x, y, rfl, ha, hb⟩ := two_of (es := []) ps
            have hy : ∀ i, y ≠ .peek i := fun i e => by subst e; simp [notPeek] at hnp
            rw [tArg_of hy] at hb
            refine (pe_slice r_slc ha po_none (po_some hb)).imp fun σ H Q q => ?_
            have := sl_ft hy σ H Q q
            rw [hK] at this
            exact this
        | some le =>
          cases u with
          | none =>
            subst hlo; subst hhi
            obtain ⟨x, y, rfl, ha, hb⟩ := two_of (es := []) ps
            have hy : ∀ i, y ≠ .peek i := fun i e => by subst e; simp [notPeek] at hnp
            rw [tArg_of hy] at hb
            refine (pe_slice r_slc ha (po_some hb) po_none).imp fun σ H Q q => ?_
            have := sl_tf hy σ H Q q
            rw [hK] at this
            exact this
          | some ue =>
            subst hlo; subst hhi
            cases ps with
            | cons ha n1 r => cases r with
              | cons hb n2 r => cases r with
                | cons hd n3 r =>
                  cases r
                  rename_i x y z
                  have hy : ∀ i, y ≠ .peek i := fun i e => by subst e; simp [notPeek] at hnp
                  have hz : ∀ i, z ≠ .peek i := fun i e => by subst e; simp [notPeek] at hnp
                  rw [tArg_of hy] at hb
                  rw [tArg_of hz] at hd
                  refine (pe_slice r_slc ha (po_some hb) (po_some hd)).imp fun σ H Q q => ?_
                  have := sl_tt hy hz σ H Q q
                  rw [hK] at this
                  exact this
      exact ⟨fin, pt_of_pe hK.symm fin (fun _ => rfl)⟩
    · cases h
  · obtain ⟨es, hsh, hc⟩ := chkE_op (fun lo hi e => hs ⟨lo, hi, e⟩) h
    exact sound_op ok hK hsh (hA sc es X ok hK hc)
theorem snd_lc {elt : Ex} {tg : Tg} {k : ItK} {src ifs : List Ex} {vs : List Nat} (hE : SndE G rf C T N elt) (hS : SndA G rf C T N src) (hI : SndL G rf C T N ifs) : SndE G rf C T N (.lc elt tg k src ifs vs) := by
  intro sc e X ok hK h
  unfold chkE at h
  split at h
  · rename_i eelt etg eit eifs scope pos
    simp only [Bool.and_eq_true, decide_eq_true_eq, Bool.not_eq_true'] at h
    obtain ⟨⟨⟨⟨⟨⟨⟨⟨h1, h2⟩, h3⟩, h4⟩, h5⟩, h6⟩, h7⟩, h8⟩, h9⟩ := h
    have hsrc : ∃ es, itShape T sc etg k eit = some es ∧ chkAs T N src sc es = true := by
      split at h7
      · exact ⟨_, ‹_›, h7⟩
      · cases h7
    obtain ⟨es, hsh, hca⟩ := hsrc
    have nd : X.N.Nodup := by rw [ok.names]; exact ok.nd
    have pi := it_ok ok hK hsh (hS sc es X ok hK hca) h6
    have bk : BlkOk X.N X.env.scope scope (ownOf N vs) := by rw [ok.names, ok.scope]; exact blkOk_by h3
    have hv : ∀ i ∈ tgI tg, i ∈ vs := fun i hi => by
      have := List.all_eq_true.mp h2 i hi
      simpa using this
    have ownvs : (ownOf N vs).map (·.2) = vs := by unfold ownOf; rw [List.map_map]; simp [Function.comp_def]
    have fin : PE X (.ListComp eelt [⟨etg, eit, eifs, 0⟩] scope pos) (tE G rf C (.lc elt tg k src ifs vs)) := by
      refine (pe_lc (own := ownOf N vs) ok.calm nd pi bk
        (fun s H Ca cl fp => tg_ok (ok.blk s H scope cl Ca fp) hK (.inl rfl) h1)
        (fun s H Ca cl fp => (hI _ _ _ (ok.blk s H scope cl Ca fp) hK h8).2 h5)
        (fun s H Ca cl fp => (hE _ _ _ (ok.blk s H scope cl Ca fp) hK h9).1) (setless h4 _)).imp fun σ H Q q => ?_
      rw [ownvs]
      refine lc_red hv σ H Q ?_
      obtain ⟨Z, env, r, env', g, he, q⟩ := q
      exact ⟨Z, env, r, env', g, by rw [← evalE_lc]; exact he, q⟩
    exact ⟨fin, pt_of_pe hK.symm fin (fun _ => rfl)⟩
  · cases h
mutual
theorem sound_e : ∀ ex : Ex, SndE G rf C T N ex
  | .var i => by
    intro sc e X ok hK h
    unfold chkE at h
    split at h
    · have p := e_var (G := G) (pos := ‹_›) ok h
      exact ⟨p, pt_of_pe hK.symm p (fun _ => rfl)⟩
    · cases h
  | .peek _ => by
    intro sc e X ok hK h
    unfold chkE at h
    cases h
  | .lit c => by
    intro sc e X ok hK h
    unfold chkE at h
    split at h
    · have p := e_lit (G := G) (rf := rf) (C := C) (X := X) (k := ‹Nat›) (pos := ‹Pos›) h
      exact ⟨p, pt_of_pe hK.symm p (fun _ => rfl)⟩
    · cases h
  | .glob x d => by
    intro sc e X ok hK h
    unfold chkE at h
    split at h
    · simp only [Bool.and_eq_true, decide_eq_true_eq, Bool.not_eq_true'] at h
      obtain ⟨⟨⟨rfl, h1⟩, h2⟩, h3⟩ := h
      have p := e_glob (G := G) (pos := ‹Pos›) ok h1 h2 h3
      exact ⟨p, pt_of_pe hK.symm p (fun _ => rfl)⟩
    · cases h
  | .op t as => snd_op (sound_as as)
  | .not a => by
    intro sc e X ok hK h
    unfold chkE at h
    split at h
    · obtain ⟨p, q⟩ := sound_e a sc _ X ok hK h
      refine ⟨(pe_not' hK.symm p).imp fun σ H Q ⟨Z, env, r, env', g, he, k⟩ => ⟨Z, env, r, env', g, by simp only [evalE] at he; exact he, k⟩,
        (pt_not' q).imp fun σ H Q ⟨Z, env, r, env', b, g, he, k⟩ => ⟨Z, env, r, env', b, g, by simp only [evalE] at he; exact he, k⟩⟩
    · cases h
  | .and as => by
    intro sc e X ok hK h
    unfold chkE at h
    split at h
    · simp only [Bool.and_eq_true, Bool.not_eq_true', List.isEmpty_eq_false_iff] at h
      obtain ⟨⟨p, q⟩, _⟩ := (sound_l as sc _ X ok hK h.2).1 h.1 ‹Pos›
      refine ⟨p.imp fun σ H Q ⟨Z, env, r, env', g, he, k⟩ => ⟨Z, env, r, env', g, by simp only [evalE] at he; exact he, k⟩,
        q.pt.imp fun σ H Q ⟨Z, env, r, env', b, g, he, k⟩ => ⟨Z, env, r, env', b, g, by simp only [evalE] at he; exact he, k⟩⟩
    · cases h
  | .or as => by
    intro sc e X ok hK h
    unfold chkE at h
    split at h
    · simp only [Bool.and_eq_true, Bool.not_eq_true', List.isEmpty_eq_false_iff] at h
      obtain ⟨_, ⟨p, q⟩⟩ := (sound_l as sc _ X ok hK h.2).1 h.1 ‹Pos›
      refine ⟨p.imp fun σ H Q ⟨Z, env, r, env', g, he, k⟩ => ⟨Z, env, r, env', g, by simp only [evalE] at he; exact he, k⟩,
        q.pt.imp fun σ H Q ⟨Z, env, r, env', b, g, he, k⟩ => ⟨Z, env, r, env', b, g, by simp only [evalE] at he; exact he, k⟩⟩
    · cases h
  | .ife c a b => by
    intro sc e X ok hK h
    unfold chkE at h
    split at h
    · simp only [Bool.and_eq_true] at h
      obtain ⟨pc, qc⟩ := sound_e c sc _ X ok hK h.1.1
      obtain ⟨pa, qa⟩ := sound_e a sc _ X ok hK h.1.2
      obtain ⟨pb, qb⟩ := sound_e b sc _ X ok hK h.2
      refine ⟨(pe_if' qc pa pb).imp fun σ H Q ⟨Z, env, r, env', g, he, k⟩ => ⟨Z, env, r, env', g, by simp only [evalE] at he; exact he, k⟩,
        (pt_if' qc qa qb).imp fun σ H Q ⟨Z, env, r, env', b, g, he, k⟩ => ⟨Z, env, r, env', b, g, by simp only [evalE] at he; exact he, k⟩⟩
    · cases h
  | .chain p q a b c => by
    intro sc e X ok hK h
    unfold chkE at h
    split at h
    · simp only [Bool.and_eq_true, decide_eq_true_eq, Bool.not_eq_true'] at h
      obtain ⟨⟨⟨⟨⟨rfl, rfl⟩, hm⟩, h1⟩, h2⟩, h3⟩ := h
      obtain ⟨pa, qa⟩ := sound_e a sc _ X ok hK h1
      obtain ⟨pb, qb⟩ := sound_e b sc _ X ok hK h2
      obtain ⟨pc, qc⟩ := sound_e c sc _ X ok hK h3
      have red : ∀ σ H Q, tEv G (evalE rf C (.chain p q a b c)) σ H Q → tChain (fun x y => rTag X.K (.cmp p) [x, y]) (fun x y => rTag X.K (.cmp q) [x, y]) (tEv G (evalE rf C a)) (tEv G (evalE rf C b)) (tEv G (evalE rf C c)) σ H Q := fun σ H Q ⟨Z, env, r, env', g, he, k⟩ =>
        chain_red hK.symm σ H Q ⟨Z, env, r, env', g, by simp only [evalE] at he; exact he, k⟩
      exact ⟨(pe_chain (r_cmp ok.units) (r_cmp ok.units) pa pb pc hm).imp red, pt_of_test (pt_chain (r_cmp ok.units) (r_cmp ok.units) pa pb pc hm) red fun env r env' he => evChain_bl (p := p) (q := q) (ea := evalE rf C a) (eb := evalE rf C b) (ec := evalE rf C c) env r env' (by simp only [evalE] at he; exact he)⟩
    · cases h
  | .lc elt tg k src ifs vs => snd_lc (sound_e elt) (sound_as src) (sound_l ifs)
theorem sound_as : ∀ as : List Ex, SndA G rf C T N as
  | [] => by
    intro sc es X ok hK h
    rw [chkAs_nil h]
    exact .nil
  | a :: as => by
    intro sc es X ok hK h
    rcases chkAs_cons h with ⟨i, x, pos, es', rfl, rfl, h1, h2⟩ | ⟨e, es', hp, rfl, hn, h1, h2⟩
    · obtain ⟨v1, v2, v3, v4⟩ := slot_vis ok h1
      exact .cons (pe_var v1 v2 v3 v4) rfl (sound_as as sc es' X ok hK h2)
    · refine .cons ?_ hn (sound_as as sc es' X ok hK h2)
      rw [tArg_of hp]
      exact (sound_e a sc e X ok hK h1).1
theorem sound_l : ∀ as : List Ex, SndL G rf C T N as
  | [] => by
    intro sc es X ok hK h
    refine ⟨fun n => absurd rfl n, fun _ => ?_⟩
    rw [chkEs_nil h]
    exact pts_nil
  | a :: as => by
    intro sc es X ok hK h
    obtain ⟨e, es', rfl, h1, h2⟩ := chkEs_cons h
    obtain ⟨p, q⟩ := sound_e a sc e X ok hK h1
    refine ⟨fun _ pos => ?_, fun hl => ?_⟩
    · have ih := sound_l as sc es' X ok hK h2
      cases as with
      | nil =>
        have := chkEs_nil h2
        subst this
        have e1 : evalAnd rf C [a] = evalE rf C a := by funext env; simp only [evalAnd]
        have e2 : evalOr rf C [a] = evalE rf C a := by funext env; simp only [evalOr]
        rw [e1, e2]
        exact ⟨⟨pe_one p, pw_and1 q⟩, ⟨pe_one p, pw_or1 q⟩⟩
      | cons b bs =>
        obtain ⟨e2, es2, rfl, _, _⟩ := chkEs_cons h2
        obtain ⟨⟨pa, qa⟩, ⟨po, qo⟩⟩ := ih.1 (by simp) pos
        rw [evalAnd_cons2, evalOr_cons2]
        exact ⟨⟨pe_and' hK.symm p pa, pw_and' q qa⟩, ⟨pe_or' hK.symm p po, pw_or' q qo⟩⟩
    · have : es' = [] := by
        cases es' with
        | nil => rfl
        | cons _ _ => simp at hl
      subst this
      exact pts_one q
end
end
end Ofw
/-! Ofw 16: statements: the evaluator -/
namespace Ofw
open PySem L2
inductive Fl where
  | nx | bk | ct | rt (r : Rs)
def toSl : Rs → Sl
  | .val d => .val d
  | .fr d => .own d
def slotFree (env : En) (i : Nat) : Bool := match env[i]? with
  | some (.bor _) => false
  | some _ => true
  | none => false
/-- names stored, one by one -/
def setAll : List Nat → List Rs → En → Option En
  | [], [], env => some env
  | i :: is, r :: rs, env => if slotFree env i then setAll is rs (env.set i (toSl r)) else none
  | _, _, _ => none
def augD : Operator → D → D → Option D
  | .Add, .int i, .int j => some (.int (i + j))
  | .Sub, .int i, .int j => some (.int (i - j))
  | _, _, _ => none
/-- o[k] = d -/
def putD : D → D → D → Option D
  | .lst ds, .int k, d => (ixN ds.length k).map fun j => .lst (ds.set j d)
  | .dic kds, .int k, d => if kds.length < sizeLine then some (.dic (putKD kds (Sum.inl k) d)) else none
  | .dic kds, .str k, d => if kds.length < sizeLine then some (.dic (putKD kds (Sum.inr k) d)) else none
  | _, _, _ => none
def ownD (env : En) (i : Nat) : Option D := match env[i]? with
  | some (.own d) => some d
  | some (.bor d) => some d
  | _ => none
def putSlot (env : En) (i : Nat) (d : D) : En := env.set i (putBor (env.getD i .emp) d)
def forLoop (f : D → En → Option (Fl × En)) : List D → En → Option (Fl × En)
  | [], env => some (.nx, env)
  | d :: ds, env => match f d env with
    | some (.nx, env1) => forLoop f ds env1
    | some (.ct, env1) => forLoop f ds env1
    | some (.bk, env1) => some (.nx, env1)
    | some (.rt r, env1) => some (.rt r, env1)
    | none => none
def whileLoop (c : En → Option (Rs × En)) (f : En → Option (Fl × En)) : Nat → En → Option (Fl × En)
  | 0, _ => none
  | n + 1, env => match c env with
    | some (r, env1) => match truD r.d with
      | some true => match f env1 with
        | some (.nx, env2) => whileLoop c f n env2
        | some (.ct, env2) => whileLoop c f n env2
        | some (.bk, env2) => some (.nx, env2)
        | some (.rt r, env2) => some (.rt r, env2)
        | none => none
      | some false => some (.nx, env1)
      | none => none
    | none => none
section
variable (rf : Nat → List Bool) (C : CallT)
def evalRs : List Ex → En → Option (List Rs × En)
  | [], env => some ([], env)
  | a :: as, env => match evalE rf C a env with
    | some (r, env1) => match evalRs as env1 with
      | some (rs, env2) => some (r :: rs, env2)
      | none => none
    | none => none
def evalRet (e : Ex) (env : En) : Option (Rs × En) := match e with
  | .var i => match env[i]? with
    | some (.own d) => some (.fr d, env.set i .emp)
    | _ => evalE rf C e env
  | _ => evalE rf C e env
def evAsg (i : Nat) (e : Ex) (env : En) : Option (Fl × En) := match evalE rf C e env with
  | some (r, env1) => if slotFree env1 i then some (.nx, env1.set i (toSl r)) else none
  | none => none
def evAsgT (is : List Nat) (e : Ex) (env : En) : Option (Fl × En) := match evalE rf C e env with
  | some (r, env1) => (bindT (.tup is) r.d env1).map fun env2 => (.nx, env2)
  | none => none
def evPar (is : List Nat) (es : List Ex) (env : En) : Option (Fl × En) := match evalRs rf C es env with
  | some (rs, env1) => (setAll is rs env1).map fun env2 => (.nx, env2)
  | none => none
def evSeti (i : Nat) (k e : Ex) (env : En) : Option (Fl × En) := match evalE rf C e env with
  | some (r, env1) => match evalE rf C k env1 with
    | some (rk, env2) => match ownD env2 i with
      | some d => match putD d rk.d r.d with
        | some d' => if (ownD env1 i).isSome then some (.nx, putSlot env2 i d') else none
        | none => none
      | none => none
    | none => none
  | none => none
def evAug (i : Nat) (op : Operator) (e : Ex) (env : En) : Option (Fl × En) := match env[i]? with
  | some (.val d) => match evalE rf C e env with
    | some (r, env1) => match augD op d r.d with
      | some d' => if slotFree env1 i then some (.nx, env1.set i (.val d')) else none
      | none => none
    | none => none
  | _ => none
def isLst : Option D → Bool
  | some (.lst _) => true
  | _ => false
def evApp (i : Nat) (e : Ex) (env : En) : Option (Fl × En) := match evalE rf C e env with
  | some (r, env1) => match ownD env1 i with
    | some (.lst ds) => if ds.length < sizeLine ∧ isLst (ownD env i) = true then some (.nx, putSlot env1 i (.lst (ds ++ [r.d]))) else none
    | _ => none
  | none => none
def evExt (i : Nat) (e : Ex) (env : En) : Option (Fl × En) := match evalE rf C e env with
  | some (r, env1) => match ownD env1 i with
    | some (.lst ds) => match r.d with
      | .lst es => if ds.length + es.length ≤ sizeLine ∧ isLst (ownD env i) = true then some (.nx, putSlot env1 i (.lst (ds ++ es))) else none
      | _ => none
    | _ => none
  | none => none
def evPop (j i : Nat) (env : En) : Option (Fl × En) := match ownD env i with
  | some (.lst ds) => match ds[ds.length - 1]? with
    | some d => let env1 := putSlot env i (.lst ds.dropLast); if slotFree env1 j && i != j then some (.nx, env1.set j (.val d)) else none
    | none => none
  | _ => none
def evDrop (e : Ex) (env : En) : Option (Fl × En) := (evalE rf C e env).map fun p => (.nx, p.2)
def evRet (e : Ex) (env : En) : Option (Fl × En) := (evalRet rf C e env).map fun p => (.rt p.1, p.2)
def evIfS (c : Ex) (a b : En → Option (Fl × En)) (env : En) : Option (Fl × En) := match evalE rf C c env with
  | some (r, env1) => match truD r.d with
    | some true => a env1
    | some false => b env1
    | none => none
  | none => none
def evFor (tg : Tg) (k : ItK) (src : List Ex) (body : En → Option (Fl × En)) (env : En) : Option (Fl × En) := match evalAs rf C src env with
  | some (xs, env1) => match valsOf xs with
    | some ds => match itemsD k ds with
      | some its => forLoop (fun d en => (bindT tg d en).bind body) its env1
      | none => none
    | none => none
  | none => none
def evSeq (a b : En → Option (Fl × En)) (env : En) : Option (Fl × En) := match a env with
  | some (.nx, env1) => b env1
  | r => r
variable (wf : Nat)
mutual
def execS : Sx → En → Option (Fl × En)
  | .asg i e => evAsg rf C i e
  | .asgT is e => evAsgT rf C is e
  | .par is es => evPar rf C is es
  | .seti i k e => evSeti rf C i k e
  | .aug i op e => evAug rf C i op e
  | .app i e => evApp rf C i e
  | .ext i e => evExt rf C i e
  | .upd _ _ => fun _ => none
  | .popA j i => evPop j i
  | .drop e => evDrop rf C e
  | .ret e => evRet rf C e
  | .retN => fun env => some (.rt (.val .non), env)
  | .ife c a b => evIfS rf C c (execB a) (execB b)
  | .for_ tg k src body => evFor rf C tg k src (execB body)
  | .whl c body => whileLoop (evalE rf C c) (execB body) wf
  | .pass => fun env => some (.nx, env)
  | .brk => fun env => some (.bk, env)
  | .cont => fun env => some (.ct, env)
def execB : List Sx → En → Option (Fl × En)
  | [] => fun env => some (.nx, env)
  | s :: ss => evSeq (execS s) (execB ss)
end
end
/-! ### what a statement leaves -/
section
variable (G : Gx)
def RetOk (Z : Ys) (σ : L2.St) (H' : Hp) (env : En) (v : V) : Rs → Prop
  | .val d => Rep G.K H' (Av σ env Z) v d
  | .fr d => ∃ p, v = .ref p ∧ G.H_0 p = none ∧ ¬ Z p ∧ Good G (zad Z p) σ H' env ∧ Bod G.K H' (Av σ env (zad Z p)) p d
def FlOk (Z : Ys) (σ : L2.St) (H : Hp) (env env' : En) (Dn : Ends) : Fl → Prop
  | .nx => ∀ σ' H', Post G Z σ H env σ' H' env' → Dn.nx σ' H'
  | .bk => ∀ σ' H', Post G Z σ H env σ' H' env' → Dn.bk σ' H'
  | .ct => ∀ σ' H', Post G Z σ H env σ' H' env' → Dn.ct σ' H'
  | .rt r => ∀ v σ' H', Post G Z σ H env σ' H' env' → RetOk G Z σ' H' env' v r → Dn.rt v H'
def tS (ex : En → Option (Fl × En)) : TS := fun Dn σ H => ∃ Z env fl env', Good G Z σ H env ∧ ex env = some (fl, env') ∧ FlOk G Z σ H env env' Dn fl
end
section
variable {G : Gx} {Z : Ys} {σ σ1 : L2.St} {H H1 : Hp} {env env1 env' : En} {Dn : Ends}
theorem FlOk.after {fl : Fl} (p : Post G Z σ H env σ1 H1 env1) (h : FlOk G Z σ H env env' Dn fl) : FlOk G Z σ1 H1 env1 env' Dn fl := by
  cases fl with
  | nx => exact fun σ' H' q => h σ' H' (p.trans q)
  | bk => exact fun σ' H' q => h σ' H' (p.trans q)
  | ct => exact fun σ' H' q => h σ' H' (p.trans q)
  | rt r => exact fun v σ' H' q ro => h v σ' H' (p.trans q) ro
theorem seq_red {a b : En → Option (Fl × En)} (h : tS G (evSeq a b) Dn σ H) : tSeq (tS G a) (tS G b) Dn σ H := by
  obtain ⟨Z, env, fl, env', g, h, q⟩ := h
  unfold evSeq at h
  cases h1 : a env with
  | none => rw [h1] at h; cases h
  | some p =>
    obtain ⟨fl1, env1⟩ := p
    rw [h1] at h
    cases fl1 with
    | nx => exact ⟨Z, env, .nx, env1, g, h1, fun σ' H' p => ⟨Z, env1, fl, env', p.good, h, q.after p⟩⟩
    | bk =>
      simp only [Option.some.injEq, Prod.mk.injEq] at h
      obtain ⟨rfl, rfl⟩ := h
      exact ⟨Z, env, .bk, env1, g, h1, q⟩
    | ct =>
      simp only [Option.some.injEq, Prod.mk.injEq] at h
      obtain ⟨rfl, rfl⟩ := h
      exact ⟨Z, env, .ct, env1, g, h1, q⟩
    | rt r =>
      simp only [Option.some.injEq, Prod.mk.injEq] at h
      obtain ⟨rfl, rfl⟩ := h
      exact ⟨Z, env, .rt r, env1, g, h1, q⟩
theorem free_of {i : Nat} (h : slotFree env i = true) : ∃ s, env[i]? = some s ∧ ∀ d, s ≠ .bor d := by
  unfold slotFree at h
  cases e : env[i]? with
  | none => rw [e] at h; cases h
  | some s =>
    rw [e] at h
    cases s with
    | bor d => cases h
    | emp => exact ⟨_, rfl, fun d e => nomatch e⟩
    | val _ => exact ⟨_, rfl, fun d e => nomatch e⟩
    | own _ => exact ⟨_, rfl, fun d e => nomatch e⟩
/-- a result is stored in a slot -/
theorem asg_post {i : Nat} {v : V} {r : Rs} (g : Good G Z σ H env) (p : Post G Z σ H env σ H1 env1) (ro : ResOk G Z σ H H1 env1 v r) (hf : slotFree env1 i = true) : Post G Z σ H env (σ.set i (some v)) H1 (env1.set i (toSl r)) := by
  cases r with
  | val d => exact p.trans (p.good.setVal (free_of hf) ro)
  | fr d =>
    obtain ⟨q, rfl, hq, g', b⟩ := ro
    obtain ⟨g2, ow⟩ := g'.setOwn (free_of hf) b (g.fresh0 hq) fun z => g.zdom q z hq
    refine ⟨g2, p.step, fun a z => ?_, p.there⟩
    rcases ow a z with z | z
    · exact p.own a z
    · exact .inr (by rw [z]; exact hq)
theorem asg_red {rf : Nat → List Bool} {C : CallT} {i : Nat} {e : Ex} (Dn : Ends) (σ : L2.St) (H : Hp) (h : tS G (evAsg rf C i e) Dn σ H) : tAsg (tE G rf C e) (gName i) Dn σ H := by
  obtain ⟨Z, env, fl, env', g, h, q⟩ := h
  unfold evAsg at h
  cases h1 : evalE rf C e env with
  | none => rw [h1] at h; cases h
  | some p =>
    obtain ⟨r, env1⟩ := p
    rw [h1] at h
    simp only at h
    split at h
    · rename_i hf
      simp only [Option.some.injEq, Prod.mk.injEq] at h
      obtain ⟨rfl, rfl⟩ := h
      exact ⟨Z, env, r, env1, g, h1, fun v H' p ro => q _ H' (asg_post g p ro hf)⟩
    · cases h
theorem drop_red {rf : Nat → List Bool} {C : CallT} {e : Ex} (Dn : Ends) (σ : L2.St) (H : Hp) (h : tS G (evDrop rf C e) Dn σ H) : tDrop (tE G rf C e) Dn σ H := by
  obtain ⟨Z, env, fl, env', g, h, q⟩ := h
  unfold evDrop at h
  cases h1 : evalE rf C e env with
  | none => rw [h1] at h; cases h
  | some p =>
    rw [h1] at h
    simp only [Option.map_some, Option.some.injEq, Prod.mk.injEq] at h
    obtain ⟨rfl, rfl⟩ := h
    exact ⟨Z, env, p.1, p.2, g, h1, fun v H' p ro => q σ H' p⟩
theorem ret_of_res {v : V} {r : Rs} (g : Good G Z σ H env) (ro : ResOk G Z σ H H1 env1 v r) : RetOk G Z σ H1 env1 v r := by
  cases r with
  | val d => exact ro
  | fr d =>
    obtain ⟨p, rfl, hp, g', b⟩ := ro
    exact ⟨p, rfl, g.fresh0 hp, fun z => g.zdom p z hp, g', b⟩
/-- a slot is forgotten, its place given away -/
theorem Good.give {i : Nat} {d : D} {a : Addr} (g : Good G Z σ H env) (hs : env[i]? = some (Sl.own d)) (ha : σ[i]? = some (some (.ref a))) : Post G Z σ H env σ H (env.set i .emp) ∧ Good G (zad Z a) σ H (env.set i .emp) ∧ Bod G.K H (Av σ (env.set i .emp) (zad Z a)) a d := by
  have hl : i < env.length := (List.getElem?_eq_some_iff.mp hs).1
  obtain ⟨a', ha', b, h0, nz⟩ := g.owns i d hs
  rw [ha] at ha'; cases ha'
  have ow : ∀ c, ownA σ (env.set i .emp) c → ownA σ env c ∧ c ≠ a := fun c ⟨j, s, h1, h2, h3⟩ => by
    have ne : i ≠ j := fun e => by subst e; rw [List.getElem?_set_self hl] at h1; cases h1; cases h2
    rw [List.getElem?_set_ne ne] at h1
    refine ⟨⟨j, s, h1, h2, h3⟩, fun e => ne (g.inj i j _ s a hs h1 rfl h2 ha (by rw [← e]; exact h3))⟩
  have less : ∀ c, Av σ (env.set i .emp) (zad Z a) c → Av σ env Z c := fun c y => by
    rcases y with y | y | y
    · exact .inl (ow c y).1
    · exact .inr y
    · rw [y]; exact .inl ⟨i, _, hs, rfl, ha⟩
  have gz : Good G (zad Z a) σ H (env.set i .emp) := by
    refine ⟨by simp [g.len], fun c z => ?_, fun j e h => ?_, fun j e h => ?_, fun j e h => ?_, fun j k s t c h1 h2 h3 h4 h5 h6 => ?_, fun j c h => ?_, g.frame⟩
    · rcases z with z | z
      · exact g.zdom c z
      · rw [z]; obtain ⟨o, ho⟩ := b.there; rw [ho]; exact fun q => nomatch q
    · by_cases ej : i = j
      · subst ej; rw [List.getElem?_set_self hl] at h; cases h
      · rw [List.getElem?_set_ne ej] at h
        obtain ⟨w, hw, rw'⟩ := g.vals j e h
        exact ⟨w, hw, rw'.fr (Fr1.less less)⟩
    · by_cases ej : i = j
      · subst ej; rw [List.getElem?_set_self hl] at h; cases h
      · rw [List.getElem?_set_ne ej] at h
        obtain ⟨w, hw, rw', h0, nz⟩ := g.owns j e h
        refine ⟨w, hw, rw'.fr (Fr1.less less) fun o h => h, h0, fun z => z.elim nz fun q => ?_⟩
        exact ej (g.inj i j _ _ a hs h rfl rfl ha (by rw [← q]; exact hw))
    · by_cases ej : i = j
      · subst ej; rw [List.getElem?_set_self hl] at h; cases h
      · rw [List.getElem?_set_ne ej] at h
        obtain ⟨w, hw, rw', h0, nz⟩ := g.bors j e h
        refine ⟨w, hw, rw'.fr (Fr1.less less) fun o h => h, h0, fun z => z.elim nz fun q => ?_⟩
        exact ej (g.inj i j _ _ a hs h rfl rfl ha (by rw [← q]; exact hw))
    · have nj : i ≠ j := fun e => by subst e; rw [List.getElem?_set_self hl] at h1; cases h1; cases h3
      have nk : i ≠ k := fun e => by subst e; rw [List.getElem?_set_self hl] at h2; cases h2; cases h4
      rw [List.getElem?_set_ne nj] at h1
      rw [List.getElem?_set_ne nk] at h2
      exact g.inj j k s t c h1 h2 h3 h4 h5 h6
    · obtain ⟨e, he⟩ := g.held j c h
      have nj : i ≠ j := fun q => by subst q; rw [hs] at he; cases he
      exact ⟨e, by rw [List.getElem?_set_ne nj]; exact he⟩
  exact ⟨⟨gz.less fun c z => .inl z, fun _ _ h _ => h, fun c z => .inl (ow c z).1, fun _ h => h⟩, gz, b.fr (Fr1.less less) fun o h => h⟩
theorem ret_red {rf : Nat → List Bool} {C : CallT} {X : Cx} {e : Expr} {ex : Ex} {pos : Pos} (hv : ∀ i, ex = .var i → PE X e (tVar i)) (h : PE X e (tE G rf C ex)) : PS X (.Return (some e) pos) (tS G (evRet rf C ex)) := by
  -- an own slot, or a value
  refine ⟨fun pins s σ H D I ⟨Z, env, fl, env', g, he, q⟩ => ?_⟩
  unfold evRet at he
  cases h1 : evalRet rf C ex env with
  | none => rw [h1] at he; cases he
  | some p =>
    obtain ⟨r, env1⟩ := p
    rw [h1] at he
    simp only [Option.map_some, Option.some.injEq, Prod.mk.injEq] at he
    obtain ⟨rfl, rfl⟩ := he
    by_cases hown : ∃ i d, ex = .var i ∧ env[i]? = some (Sl.own d)
    · obtain ⟨i, d, rfl, hs⟩ := hown
      simp only [evalRet, hs, Option.some.injEq, Prod.mk.injEq] at h1
      obtain ⟨rfl, rfl⟩ := h1
      obtain ⟨a, ha, b, h0, nz⟩ := g.owns i d hs
      obtain ⟨p1, gz, bz⟩ := g.give hs ha
      exact (ps_ret (hv i rfl)).run pins s σ H D I ⟨_, ha, q _ σ H p1 ⟨a, rfl, h0, nz, gz, bz⟩⟩
    · have h1' : evalE rf C ex env = some (r, env1) := by
        unfold evalRet at h1
        split at h1
        · split at h1
          · exact absurd ⟨_, _, rfl, ‹_›⟩ hown
          · exact h1
        · exact h1
      exact (ps_ret h).run pins s σ H D I ⟨Z, env, r, env1, g, h1', fun v H' p ro => q v σ H' p (ret_of_res g ro)⟩
theorem if_red {rf : Nat → List Bool} {C : CallT} {c : Ex} {a b : En → Option (Fl × En)} (Dn : Ends) (σ : L2.St) (H : Hp) (h : tS G (evIfS rf C c a b) Dn σ H) : tIfS (tTv G (evalE rf C c)) (tS G a) (tS G b) Dn σ H := by
  obtain ⟨Z, env, fl, env', g, h, q⟩ := h
  unfold evIfS at h
  cases h1 : evalE rf C c env with
  | none => rw [h1] at h; cases h
  | some p =>
    obtain ⟨r, env1⟩ := p
    rw [h1] at h
    cases h2 : truD r.d with
    | none => simp only [h2] at h; cases h
    | some k =>
      refine ⟨Z, env, r, env1, k, g, h1, h2, fun H' p => ?_⟩
      cases k with
      | true => simp only [h2] at h; exact iteT ⟨Z, env1, fl, env', p.good, h, q.after p⟩
      | false => simp only [h2] at h; exact iteF ⟨Z, env1, fl, env', p.good, h, q.after p⟩
theorem asgT_red {rf : Nat → List Bool} {C : CallT} {is : List Nat} {e : Ex} (Dn : Ends) (σ : L2.St) (H : Hp) (h : tS G (evAsgT rf C is e) Dn σ H) : tAsg (tE G rf C e) (gBind G (.tup is)) Dn σ H := by
  obtain ⟨Z, env, fl, env', g, h, q⟩ := h
  unfold evAsgT at h
  cases h1 : evalE rf C e env with
  | none => rw [h1] at h; cases h
  | some p =>
    obtain ⟨r, env1⟩ := p
    rw [h1] at h
    cases h2 : bindT (.tup is) r.d env1 with
    | none => simp only [h2, Option.map_none] at h; cases h
    | some env2 =>
      simp only [h2, Option.map_some, Option.some.injEq, Prod.mk.injEq] at h
      obtain ⟨rfl, rfl⟩ := h
      exact ⟨Z, env, r, env1, g, h1, fun v H' p ro => ⟨Z, env1, r.d, env2, p.good, ro.rep g, h2, fun σ' p2 _ _ => q σ' H' (p.trans p2)⟩⟩
end
end Ofw
/-! Ofw 17: loops, stores -/
namespace Ofw
open PySem L2
section
variable {G : Gx} {rf : Nat → List Bool} {C : CallT}
theorem forLoop_cons {f : D → En → Option (Fl × En)} {d : D} {ds : List D} {env env' : En} {fl : Fl} (h : forLoop f (d :: ds) env = some (fl, env')) :
    ∃ fl1 env1, f d env = some (fl1, env1) ∧ (((fl1 = .nx ∨ fl1 = .ct) ∧ forLoop f ds env1 = some (fl, env')) ∨ (fl1 = .bk ∧ fl = .nx ∧ env' = env1) ∨ (∃ r, fl1 = .rt r ∧ fl = .rt r ∧ env' = env1)) := by
  simp only [forLoop] at h
  cases h1 : f d env with
  | none => rw [h1] at h; cases h
  | some p =>
    obtain ⟨fl1, env1⟩ := p
    rw [h1] at h
    refine ⟨fl1, env1, rfl, ?_⟩
    cases fl1 with
    | nx => exact .inl ⟨.inl rfl, h⟩
    | ct => exact .inl ⟨.inr rfl, h⟩
    | bk =>
      simp only [Option.some.injEq, Prod.mk.injEq] at h
      exact .inr (.inl ⟨rfl, h.1.symm, h.2.symm⟩)
    | rt r =>
      simp only [Option.some.injEq, Prod.mk.injEq] at h
      exact .inr (.inr ⟨r, rfl, h.1.symm, h.2.symm⟩)
theorem for_red {tg : Tg} {k : ItK} {src : List Ex} {body : En → Option (Fl × En)} (Dn : Ends) (σ : L2.St) (H : Hp) (h : tS G (evFor rf C tg k src body) Dn σ H) : tFor (tIt G rf C k src) (gBind G tg) (tS G body) Dn σ H := by
  obtain ⟨Z, env, fl, env', g, h, q⟩ := h
  unfold evFor at h
  cases h1 : evalAs rf C src env with
  | none => rw [h1] at h; cases h
  | some p =>
    obtain ⟨xs, env1⟩ := p
    rw [h1] at h
    cases h2 : valsOf xs with
    | none => simp only [h2] at h; cases h
    | some ds =>
      simp only [h2] at h
      cases h3 : itemsD k ds with
      | none => simp only [h3] at h; cases h
      | some its =>
        simp only [h3] at h
        refine ⟨Z, env, xs, env1, ds, its, g, h1, h2, h3, fun J svs H1 p1 rs wk => ?_⟩
        refine ⟨fun i m σ' H' => m = its.length - i ∧ i ≤ its.length ∧ ∃ en, Post G Z σ H env σ' H' en ∧ forLoop (fun d en => (bindT tg d en).bind body) (its.drop i) en = some (fl, env') ∧ Reps G.K H' (Av σ' en Z) svs ds,
          ⟨its.length, rfl, Nat.zero_le _, env1, p1, h, rs⟩, ?_⟩
        rintro i m σ' H' ⟨rfl, hi, en, P, hl, rsv⟩
        rcases Nat.lt_or_ge i its.length with hlt | hge
        · right
          refine ⟨wk.go i H' _ rsv hlt, fun σ2 H2 => _, fun σ2 H2 hN => ⟨its.length - (i + 1), by omega, hN⟩, fun x H2 hy => ?_⟩
          obtain ⟨d, hd, s2, rx⟩ := wk.yld i H' _ x H2 rsv (fun a y => P.good.avdom y) hlt hy
          have hdrop : its.drop i = d :: its.drop (i + 1) := by
            rw [List.drop_eq_getElem_cons hlt]
            rw [List.getElem?_eq_getElem hlt] at hd
            cases hd
            rfl
          rw [hdrop] at hl
          obtain ⟨fl1, en2, hf, hcase⟩ := forLoop_cons hl
          have ps := Post.same P.good s2
          cases hb : bindT tg d en with
          | none => rw [hb] at hf; cases hf
          | some en1 =>
            rw [hb] at hf
            have hf : body en1 = some (fl1, en2) := hf
            refine ⟨Z, en, d, en1, ps.good, rx, hb, fun σ2 p2 _ _ => ⟨Z, en1, fl1, en2, p2.good, hf, ?_⟩⟩
            have P2 := ps.trans p2
            have go : ∀ σ3 H3, Post G Z σ2 H2 en1 σ3 H3 en2 → forLoop (fun d en => (bindT tg d en).bind body) (its.drop (i + 1)) en2 = some (fl, env') →
                (its.length - (i + 1) = its.length - (i + 1) ∧ i + 1 ≤ its.length ∧ ∃ en, Post G Z σ H env σ3 H3 en ∧ forLoop (fun d en => (bindT tg d en).bind body) (its.drop (i + 1)) en = some (fl, env') ∧ Reps G.K H3 (Av σ3 en Z) svs ds) := fun σ3 H3 p3 hl' =>
              ⟨rfl, by omega, en2, P.trans (P2.trans p3), hl', (P2.trans p3).reps rsv⟩
            rcases hcase with ⟨e, hl'⟩ | ⟨rfl, rfl, rfl⟩ | ⟨r, rfl, rfl, rfl⟩
            · rcases e with rfl | rfl
              · exact fun σ3 H3 p3 => go σ3 H3 p3 hl'
              · exact fun σ3 H3 p3 => go σ3 H3 p3 hl'
            · exact fun σ3 H3 p3 => q σ3 H3 (P.trans (P2.trans p3))
            · exact fun v σ3 H3 p3 ro => q v σ3 H3 (P.trans (P2.trans p3)) ro
        · left
          have ei : i = its.length := by omega
          subst ei
          refine ⟨wk.stop H' _ rsv, ?_⟩
          rw [List.drop_length] at hl
          simp only [forLoop, Option.some.injEq, Prod.mk.injEq] at hl
          obtain ⟨rfl, rfl⟩ := hl
          exact q σ' H' P
theorem while_red {c : Ex} {body : En → Option (Fl × En)} {wf : Nat} (Dn : Ends) (σ : L2.St) (H : Hp) (h : tS G (whileLoop (evalE rf C c) body wf) Dn σ H) : tWhile (tTv G (evalE rf C c)) (tS G body) Dn σ H := by
  obtain ⟨Z, env, fl, env', g, h, q⟩ := h
  refine ⟨fun m σ' H' => ∃ en, Post G Z σ H env σ' H' en ∧ whileLoop (evalE rf C c) body m en = some (fl, env'), ⟨wf, env, Post.refl g, h⟩, ?_⟩
  rintro m σ' H' ⟨en, P, hl⟩
  cases m with
  | zero => simp only [whileLoop] at hl; cases hl
  | succ m =>
    simp only [whileLoop] at hl
    cases h1 : evalE rf C c en with
    | none => rw [h1] at hl; cases hl
    | some p =>
      obtain ⟨r, en1⟩ := p
      rw [h1] at hl
      cases h2 : truD r.d with
      | none => simp only [h2] at hl; cases hl
      | some b =>
        refine ⟨Z, en, r, en1, b, P.good, h1, h2, fun H1 p1 => ?_⟩
        cases b with
        | false =>
          simp only [h2, Option.some.injEq, Prod.mk.injEq] at hl
          obtain ⟨rfl, rfl⟩ := hl
          exact iteF (q σ' H1 (P.trans p1))
        | true =>
          simp only [h2] at hl
          refine iteT ⟨fun σ2 H2 => ∃ en, Post G Z σ H env σ2 H2 en ∧ whileLoop (evalE rf C c) body m en = some (fl, env'), fun σ2 H2 hN => ⟨m, Nat.lt_succ_self m, hN⟩, ?_⟩
          cases h3 : body en1 with
          | none => simp only [h3] at hl; cases hl
          | some p =>
            obtain ⟨fl1, en2⟩ := p
            simp only [h3] at hl
            refine ⟨Z, en1, fl1, en2, p1.good, h3, ?_⟩
            cases fl1 with
            | nx => exact fun σ3 H3 p3 => ⟨en2, (P.trans p1).trans p3, hl⟩
            | ct => exact fun σ3 H3 p3 => ⟨en2, (P.trans p1).trans p3, hl⟩
            | bk =>
              simp only [Option.some.injEq, Prod.mk.injEq] at hl
              obtain ⟨rfl, rfl⟩ := hl
              exact fun σ3 H3 p3 => q σ3 H3 ((P.trans p1).trans p3)
            | rt r =>
              simp only [Option.some.injEq, Prod.mk.injEq] at hl
              obtain ⟨rfl, rfl⟩ := hl
              exact fun v σ3 H3 p3 ro => q v σ3 H3 ((P.trans p1).trans p3) ro
/-! ### what a slot owns is changed -/
theorem own_at {Z : Ys} {σ : L2.St} {H : Hp} {env : En} {i : Nat} {d : D} (g : Good G Z σ H env) (h : ownD env i = some d) : ∃ a s, env[i]? = some s ∧ s.isOwn = true ∧ σ[i]? = some (some (.ref a)) ∧ Bod G.K H (Av σ env Z) a d ∧ ¬ Z a := by
  unfold ownD at h
  split at h
  · rename_i d' hs
    cases h
    obtain ⟨a, ha, b, _, nz⟩ := g.owns i d hs
    exact ⟨a, _, hs, rfl, ha, b, nz⟩
  · rename_i d' hs
    cases h
    obtain ⟨a, ha, b, _, nz⟩ := g.bors i d hs
    exact ⟨a, _, hs, rfl, ha, b, nz⟩
  · cases h
theorem Good.mutOwn {Z : Ys} {σ : L2.St} {H : Hp} {env : En} {i : Nat} {s : Sl} {a : Addr} {o : HO} {d : D} (g : Good G Z σ H env) (hs : env[i]? = some s) (ho : s.isOwn = true) (ha : σ[i]? = some (some (.ref a)))
    (b : Bod G.K (upd H a o) (Av σ env Z) a d) : Post G Z σ H env σ (upd H a o) (putSlot env i d) := by
  have hl : i < env.length := (List.getElem?_eq_some_iff.mp hs).1
  have eS : putSlot env i d = env.set i (putBor s d) := by unfold putSlot; rw [List.getD_eq_getElem?_getD, hs]; rfl
  have oa : ownA σ env a := ⟨i, s, hs, ho, ha⟩
  have ow : ∀ c, ownA σ (env.set i (putBor s d)) c ↔ ownA σ env c := fun c => by
    constructor
    · rintro ⟨j, t, h1, h2, h3⟩
      by_cases e : i = j
      · subst e; exact ⟨i, s, hs, ho, h3⟩
      · rw [List.getElem?_set_ne e] at h1; exact ⟨j, t, h1, h2, h3⟩
    · rintro ⟨j, t, h1, h2, h3⟩
      by_cases e : i = j
      · subst e; exact ⟨i, putBor s d, by rw [List.getElem?_set_self hl], by rw [putBor_own]; exact ho, h3⟩
      · exact ⟨j, t, by rw [List.getElem?_set_ne e]; exact h1, h2, h3⟩
  have av : ∀ c, Av σ (env.set i (putBor s d)) Z c → Av σ env Z c := fun c y => y.elim (fun z => .inl ((ow c).mp z)) .inr
  have fr : Fr1 H (upd H a o) (Av σ env Z) (Av σ (env.set i (putBor s d)) Z) := ⟨fun c u h n => by rw [upd_ne fun e => n (by rw [e]; exact .inl oa)]; exact h, fun c y => .inl (av c y)⟩
  rw [eS]
  refine ⟨⟨by simp [g.len], fun c z => ?_, fun j e h => ?_, fun j e h => ?_, fun j e h => ?_, fun j k t u c h1 h2 h3 h4 h5 h6 => ?_, fun j c h => ?_, fun c u h n => ?_⟩, fun c u h n => ?_, fun c z => .inl ((ow c).mp z), fun c h => ?_⟩
  · by_cases e : c = a
    · rw [e, upd_same]; exact fun q => nomatch q
    · rw [upd_ne e]; exact g.zdom c z
  · by_cases ej : i = j
    · subst ej
      rw [List.getElem?_set_self hl] at h
      cases s <;> first | cases ho | skip
      all_goals simp [putBor] at h
    · rw [List.getElem?_set_ne ej] at h
      obtain ⟨w, hw, rw'⟩ := g.vals j e h
      exact ⟨w, hw, rw'.fr fr⟩
  · by_cases ej : i = j
    · subst ej
      rw [List.getElem?_set_self hl] at h
      cases s with
      | emp => cases ho
      | val _ => cases ho
      | bor _ => simp [putBor] at h
      | own d0 =>
        simp only [putBor, Option.some.injEq, Sl.own.injEq] at h
        subst h
        obtain ⟨a', ha', b', h0, nz⟩ := g.owns i d0 hs
        rw [ha] at ha'; cases ha'
        exact ⟨a, ha, b.fr (Fr1.less av) fun o h => h, h0, nz⟩
    · rw [List.getElem?_set_ne ej] at h
      obtain ⟨w, hw, b', h0, nz⟩ := g.owns j e h
      refine ⟨w, hw, b'.fr fr fun u hu => ?_, h0, nz⟩
      rw [upd_ne fun q => ej (g.inj i j s _ a hs h ho rfl ha (by rw [← q]; exact hw))]; exact hu
  · by_cases ej : i = j
    · subst ej
      rw [List.getElem?_set_self hl] at h
      cases s with
      | emp => cases ho
      | val _ => cases ho
      | own _ => simp [putBor] at h
      | bor d0 =>
        simp only [putBor, Option.some.injEq, Sl.bor.injEq] at h
        subst h
        obtain ⟨a', ha', b', h0, nz⟩ := g.bors i d0 hs
        rw [ha] at ha'; cases ha'
        exact ⟨a, ha, b.fr (Fr1.less av) fun o h => h, h0, nz⟩
    · rw [List.getElem?_set_ne ej] at h
      obtain ⟨w, hw, b', h0, nz⟩ := g.bors j e h
      refine ⟨w, hw, b'.fr fr fun u hu => ?_, h0, nz⟩
      rw [upd_ne fun q => ej (g.inj i j s _ a hs h ho rfl ha (by rw [← q]; exact hw))]; exact hu
  · have up : ∀ (j : Nat) (t : Sl), (env.set i (putBor s d))[j]? = some t → t.isOwn = true → ∃ t', env[j]? = some t' ∧ t'.isOwn = true := fun j t h ht => by
      by_cases e : i = j
      · subst e; exact ⟨s, hs, ho⟩
      · rw [List.getElem?_set_ne e] at h; exact ⟨t, h, ht⟩
    obtain ⟨t', e1, o1⟩ := up j t h1 h3
    obtain ⟨u', e2, o2⟩ := up k u h2 h4
    exact g.inj j k t' u' c e1 e2 o1 o2 h5 h6
  · obtain ⟨e, he⟩ := g.held j c h
    by_cases ej : i = j
    · subst ej
      rw [hs] at he; cases he
      exact ⟨d, by rw [List.getElem?_set_self hl]; rfl⟩
    · exact ⟨e, by rw [List.getElem?_set_ne ej]; exact he⟩
  · have ne : c ≠ a := fun e => by
      subst e
      cases s with
      | emp => cases ho
      | val _ => cases ho
      | own d0 => obtain ⟨a', ha', _, h0, _⟩ := g.owns i d0 hs; rw [ha] at ha'; cases ha'; rw [h0] at h; cases h
      | bor d0 => obtain ⟨a', ha', _, h0, _⟩ := g.bors i d0 hs; rw [ha] at ha'; cases ha'; exact n i h0
    rw [upd_ne ne]; exact g.frame c u h n
  · rw [upd_ne fun e => n (by rw [e]; exact oa)]; exact h
  · by_cases e : c = a
    · rw [e, upd_same] at h; cases h
    · rw [upd_ne e] at h; exact h
/-- what stands besides at an own place's change -/
theorem fr_own {Z : Ys} {σ : L2.St} {H : Hp} {env : En} {a : Addr} {o : HO} (oa : ownA σ env a) : Fr1 H (upd H a o) (Av σ env Z) (Av σ env Z) :=
  ⟨fun c u h n => by rw [upd_ne fun e => n (by rw [e]; exact .inl oa)]; exact h, fun c y => .inl y⟩
theorem isLst_of {o : Option D} (h : isLst o = true) : ∃ ds, o = some (.lst ds) := by
  unfold isLst at h
  split at h
  · exact ⟨_, rfl⟩
  · cases h
theorem app_red {X : Cx} {i : Nat} {e : Ex} (hK : G.K = X.K) (Dn : Ends) (σ : L2.St) (H : Hp) (h : tS G (evApp rf C i e) Dn σ H) : tDrop (tBM X.K "list" rAppend (tVar i) (tCons (tE G rf C e) tNil)) Dn σ H := by
  obtain ⟨Z, env, fl, env', g, h, q⟩ := h
  unfold evApp at h
  cases h1 : evalE rf C e env with
  | none => rw [h1] at h; cases h
  | some p =>
    obtain ⟨r, env1⟩ := p
    rw [h1] at h
    simp only at h
    split at h
    · rename_i ds ho1
      split at h
      · rename_i hc
        simp only [Option.some.injEq, Prod.mk.injEq] at h
        obtain ⟨rfl, rfl⟩ := h
        obtain ⟨ds0, ho0⟩ := isLst_of hc.2
        obtain ⟨a, s, hs, hso, ha, ⟨vs0, hv0, _⟩, _⟩ := own_at g ho0
        refine ⟨.ref a, ha, ?_⟩
        refine ⟨.inl ⟨rfl, vs0, SqL.of hv0⟩, Z, env, r, env1, g, h1, fun y H1 p1 ro => ?_⟩
        obtain ⟨a', s', hs', hso', ha', ⟨vs, hv, rv⟩, _⟩ := own_at p1.good ho1
        rw [ha] at ha'; cases ha'
        have oa : ownA σ env1 a := ⟨i, s', hs', hso', ha⟩
        refine ⟨a, vs, y, rfl, rfl, hv, by rw [rv.len]; exact hc.1, ?_⟩
        refine q σ _ (p1.trans (p1.good.mutOwn hs' hso' ha ⟨vs ++ [y], upd_same, ?_⟩))
        exact (rv.fr (fr_own oa)).app (.cons ((ro.rep g).fr (fr_own oa)) .nil)
      · cases h
    · cases h
theorem ext_red {X : Cx} {i : Nat} {e : Ex} (hK : G.K = X.K) (Dn : Ends) (σ : L2.St) (H : Hp) (h : tS G (evExt rf C i e) Dn σ H) : tDrop (tBM X.K "list" rExtend (tVar i) (tCons (tE G rf C e) tNil)) Dn σ H := by
  obtain ⟨Z, env, fl, env', g, h, q⟩ := h
  unfold evExt at h
  cases h1 : evalE rf C e env with
  | none => rw [h1] at h; cases h
  | some p =>
    obtain ⟨r, env1⟩ := p
    rw [h1] at h
    simp only at h
    split at h
    · rename_i ds ho1
      split at h
      · rename_i es hr
        split at h
        · rename_i hc
          simp only [Option.some.injEq, Prod.mk.injEq] at h
          obtain ⟨rfl, rfl⟩ := h
          obtain ⟨ds0, ho0⟩ := isLst_of hc.2
          obtain ⟨a, s, hs, hso, ha, ⟨vs0, hv0, _⟩, _⟩ := own_at g ho0
          refine ⟨.ref a, ha, ?_⟩
          refine ⟨.inl ⟨rfl, vs0, SqL.of hv0⟩, Z, env, r, env1, g, h1, fun y H1 p1 ro => ?_⟩
          obtain ⟨a', s', hs', hso', ha', ⟨vs, hv, rv⟩, _⟩ := own_at p1.good ho1
          rw [ha] at ha'; cases ha'
          have oa : ownA σ env1 a := ⟨i, s', hs', hso', ha⟩
          have ry := ro.rep g
          rw [hr] at ry
          obtain ⟨b, ws, rfl, hb, rw'⟩ := ry.lstA
          refine ⟨a, b, vs, ws, rfl, rfl, hv, hb, by rw [rv.len, rw'.len]; exact hc.1, ?_⟩
          refine q σ _ (p1.trans (p1.good.mutOwn hs' hso' ha ⟨vs ++ ws, upd_same, ?_⟩))
          exact (rv.fr (fr_own oa)).app (rw'.fr (fr_own oa))
        · cases h
      · cases h
    · cases h
theorem putK_ok {K : PySem.W.Frag} {H : Hp} {Y : Ys} {v : V} {d : D} (k : Key) (hv : Rep K H Y v d) : ∀ {vs : List (Key × V)} {ds : List (Key × D)}, RepK K H Y vs ds → RepK K H Y (putK vs k v) (putKD ds k d) := by
  have anyEq : ∀ {vs : List (Key × V)} {ds : List (Key × D)}, RepK K H Y vs ds → (vs.any fun kv => decide (kv.1 = k)) = (ds.any fun kv => decide (kv.1 = k)) := fun {vs} => by
    induction vs with
    | nil => intro ds r; cases r; rfl
    | cons x xs ih => intro ds r; cases r with | cons h r => rw [List.any_cons, List.any_cons, ih r]
  have mapEq : ∀ {vs : List (Key × V)} {ds : List (Key × D)}, RepK K H Y vs ds → RepK K H Y (vs.map fun kv => if kv.1 = k then (kv.1, v) else kv) (ds.map fun kv => if kv.1 = k then (kv.1, d) else kv) := fun {vs} => by
    induction vs with
    | nil => intro ds r; cases r; exact .nil
    | cons x xs ih =>
      intro ds r
      cases r with
      | cons h r =>
        rw [List.map_cons, List.map_cons]
        by_cases e : ‹Key› = k
        · simp only [e, if_true]; exact .cons hv (ih r)
        · simp only [e, if_false]; exact .cons h (ih r)
  have appEq : ∀ {vs : List (Key × V)} {ds : List (Key × D)}, RepK K H Y vs ds → RepK K H Y (vs ++ [(k, v)]) (ds ++ [(k, d)]) := fun {vs} => by
    induction vs with
    | nil => intro ds r; cases r; exact .cons hv .nil
    | cons x xs ih => intro ds r; cases r with | cons h r => exact .cons h (ih r)
  intro vs ds r
  unfold putK putKD
  rw [anyEq r]
  split
  · exact mapEq r
  · exact appEq r
end
end Ofw
/-! Ofw 18: stores, further -/
namespace Ofw
open PySem L2
section
variable {G : Gx} {rf : Nat → List Bool} {C : CallT}
theorem seti_red {X : Cx} {i : Nat} {k e : Ex} (hK : G.K = X.K) (Dn : Ends) (σ : L2.St) (H : Hp) (h : tS G (evSeti rf C i k e) Dn σ H) :
    tAsg (tE G rf C e) (gSub (tVar i) (tE G rf C k) rSetL) Dn σ H ∨ sDPut (tVar i) (tE G rf C k) (tE G rf C e) Dn σ H := by
  obtain ⟨Z, env, fl, env', g, h, q⟩ := h
  unfold evSeti at h
  cases h1 : evalE rf C e env with
  | none => rw [h1] at h; cases h
  | some p =>
    obtain ⟨r, env1⟩ := p
    rw [h1] at h
    simp only at h
    cases h2 : evalE rf C k env1 with
    | none => rw [h2] at h; cases h
    | some p2 =>
      obtain ⟨rk, env2⟩ := p2
      rw [h2] at h
      simp only at h
      cases h3 : ownD env2 i with
      | none => rw [h3] at h; cases h
      | some d =>
        rw [h3] at h
        simp only at h
        cases h4 : putD d rk.d r.d with
        | none => rw [h4] at h; cases h
        | some d' =>
          rw [h4] at h
          simp only at h
          split at h
          · rename_i ho1
            simp only [Option.some.injEq, Prod.mk.injEq] at h
            obtain ⟨rfl, rfl⟩ := h
            obtain ⟨d1, hd1⟩ := Option.isSome_iff_exists.mp ho1
            unfold putD at h4
            split at h4
            · rename_i ds kk heq
              left
              cases hj : ixN ds.length kk with
              | none => rw [hj] at h4; cases h4
              | some j =>
                rw [hj] at h4
                simp only [Option.map_some, Option.some.injEq] at h4
                subst h4
                refine ⟨Z, env, r, env1, g, h1, fun v H1 p1 ro => ?_⟩
                obtain ⟨a, s, hs, hso, ha, _, _⟩ := own_at p1.good hd1
                refine ⟨.ref a, ha, Z, env1, rk, env2, p1.good, h2, fun y H2 p2 rok => ?_⟩
                obtain ⟨a', s', hs', hso', ha', ⟨vs, hv, rv⟩, _⟩ := own_at p2.good h3
                rw [ha] at ha'; cases ha'
                have ry := rok.rep p1.good
                rw [heq] at ry
                cases ry
                have oa : ownA σ env2 a := ⟨i, s', hs', hso', ha⟩
                refine ⟨a, vs, kk, j, rfl, rfl, hv, by rw [rv.len]; exact hj, ?_⟩
                refine q σ _ ((p1.trans p2).trans (p2.good.mutOwn hs' hso' ha ⟨vs.set j v, upd_same, ?_⟩))
                exact (rv.fr (fr_own oa)).set j ((p2.rep (ro.rep g)).fr (fr_own oa))
            · rename_i kds kk heq
              right
              split at h4
              · rename_i hz
                simp only [Option.some.injEq] at h4
                subst h4
                refine ⟨Z, env, r, env1, g, h1, fun v H1 p1 ro => ?_⟩
                obtain ⟨a, s, hs, hso, ha, _, _⟩ := own_at p1.good hd1
                refine ⟨.ref a, ha, Z, env1, rk, env2, p1.good, h2, fun y H2 p2 rok => ?_⟩
                obtain ⟨a', s', hs', hso', ha', ⟨kvs, hv, rv⟩, _⟩ := own_at p2.good h3
                rw [ha] at ha'; cases ha'
                have ry := rok.rep p1.good
                rw [heq] at ry
                cases ry
                have oa : ownA σ env2 a := ⟨i, s', hs', hso', ha⟩
                refine ⟨a, _, rfl, DPut.k (k := (Sum.inl kk : Key)) hv (by rw [rv.len]; exact hz), ?_⟩
                refine q σ _ ((p1.trans p2).trans (p2.good.mutOwn hs' hso' ha ⟨putK kvs (Sum.inl kk) v, upd_same, ?_⟩))
                exact putK_ok _ ((p2.rep (ro.rep g)).fr (fr_own oa)) (rv.fr (fr_own oa))
              · cases h4
            · rename_i kds kk heq
              right
              split at h4
              · rename_i hz
                simp only [Option.some.injEq] at h4
                subst h4
                refine ⟨Z, env, r, env1, g, h1, fun v H1 p1 ro => ?_⟩
                obtain ⟨a, s, hs, hso, ha, _, _⟩ := own_at p1.good hd1
                refine ⟨.ref a, ha, Z, env1, rk, env2, p1.good, h2, fun y H2 p2 rok => ?_⟩
                obtain ⟨a', s', hs', hso', ha', ⟨kvs, hv, rv⟩, _⟩ := own_at p2.good h3
                rw [ha] at ha'; cases ha'
                have ry := rok.rep p1.good
                rw [heq] at ry
                cases ry
                have oa : ownA σ env2 a := ⟨i, s', hs', hso', ha⟩
                refine ⟨a, _, rfl, DPut.k (k := (Sum.inr kk : Key)) hv (by rw [rv.len]; exact hz), ?_⟩
                refine q σ _ ((p1.trans p2).trans (p2.good.mutOwn hs' hso' ha ⟨putK kvs (Sum.inr kk) v, upd_same, ?_⟩))
                exact putK_ok _ ((p2.rep (ro.rep g)).fr (fr_own oa)) (rv.fr (fr_own oa))
              · cases h4
            · cases h4
          · cases h
def ipD (f : Int → Int → Int) : TIp := ipI f
theorem aug_red {i : Nat} {op : Operator} {e : Ex} {f : Int → Int → Int} (hop : ∀ d d' x, augD op d d' = some x → ∃ a b, d = .int a ∧ d' = .int b ∧ x = .int (f a b)) (Dn : Ends) (σ : L2.St) (H : Hp) (h : tS G (evAug rf C i op e) Dn σ H) : tAug i (tE G rf C e) (ipI f) Dn σ H := by
  obtain ⟨Z, env, fl, env', g, h, q⟩ := h
  unfold evAug at h
  split at h
  · rename_i d hs
    cases h1 : evalE rf C e env with
    | none => rw [h1] at h; cases h
    | some p =>
      obtain ⟨r, env1⟩ := p
      rw [h1] at h
      simp only at h
      cases h2 : augD op d r.d with
      | none => rw [h2] at h; cases h
      | some d' =>
        rw [h2] at h
        simp only at h
        split at h
        · rename_i hf
          simp only [Option.some.injEq, Prod.mk.injEq] at h
          obtain ⟨rfl, rfl⟩ := h
          obtain ⟨a, b, rfl, hb, rfl⟩ := hop _ _ _ h2
          obtain ⟨v, hv, rp⟩ := g.vals i _ hs
          cases rp
          refine ⟨_, hv, Z, env, r, env1, g, h1, fun y H1 p1 ro => ?_⟩
          have ry := ro.rep g
          rw [hb] at ry
          cases ry
          exact ⟨a, b, rfl, rfl, q _ H1 (p1.trans (p1.good.setVal (free_of hf) (.int _)))⟩
        · cases h
  · cases h
theorem pop_red {X : Cx} {i j : Nat} (hK : G.K = X.K) (Dn : Ends) (σ : L2.St) (H : Hp) (h : tS G (evPop j i) Dn σ H) : tAsg (tBM0 X.K "list" rPop (tVar i)) (gName j) Dn σ H := by
  obtain ⟨Z, env, fl, env', g, h, q⟩ := h
  unfold evPop at h
  split at h
  · rename_i ds ho
    cases h1 : ds[ds.length - 1]? with
    | none => rw [h1] at h; cases h
    | some d =>
      rw [h1] at h
      simp only at h
      split at h
      · rename_i hf
        simp only [Bool.and_eq_true, bne_iff_ne] at hf
        simp only [Option.some.injEq, Prod.mk.injEq] at h
        obtain ⟨rfl, rfl⟩ := h
        obtain ⟨a, s, hs, hso, ha, ⟨vs, hv, rv⟩, _⟩ := own_at g ho
        have oa : ownA σ env a := ⟨i, s, hs, hso, ha⟩
        obtain ⟨v, hgv, rpv⟩ := rv.get h1
        refine ⟨.ref a, ha, .inl ⟨rfl, vs, SqL.of hv⟩, a, vs, v, rfl, rfl, hv, by rw [rv.len]; exact hgv, ?_⟩
        have p1 := g.mutOwn (o := .lst vs.dropLast) (d := .lst ds.dropLast) hs hso ha ⟨vs.dropLast, upd_same, (rv.fr (fr_own oa)).dropLast⟩
        exact q _ _ (p1.trans (p1.good.setVal (free_of hf.1) (p1.rep rpv)))
      · cases h
  · cases h
/-! ### several names at once -/
/-- results that wait, each new place forbidden to the others -/
inductive RsW (G : Gx) (H : Hp) (Y : Ys) : List V → List Rs → List Addr → Prop where
  | nil : RsW G H Y [] [] []
  | val {v : V} {d : D} {vs : List V} {rs : List Rs} {ps : List Addr} : Rep G.K H Y v d → RsW G H Y vs rs ps → RsW G H Y (v :: vs) (.val d :: rs) ps
  | fr {p : Addr} {d : D} {vs : List V} {rs : List Rs} {ps : List Addr} : Bod G.K H Y p d → G.H_0 p = none → p ∉ ps → RsW G H Y vs rs ps → RsW G H Y (.ref p :: vs) (.fr d :: rs) (p :: ps)
def zads (Z : Ys) (ps : List Addr) : Ys := fun a => Z a ∨ a ∈ ps
theorem RsW.mono {H H' : Hp} {Y Y' : Ys} : ∀ {vs : List V} {rs : List Rs} {ps : List Addr}, RsW G H Y vs rs ps → Fr1 H H' Y Y' → (∀ p ∈ ps, ∀ o, H p = some o → H' p = some o) → RsW G H' Y' vs rs ps
  | _, _, _, .nil, _, _ => .nil
  | _, _, _, .val h r, f, k => .val (h.fr f) (r.mono f k)
  | _, _, _, .fr b h0 n r, f, k => .fr (b.fr f (k _ List.mem_cons_self)) h0 n (r.mono f fun p hp => k p (List.mem_cons_of_mem _ hp))
theorem RsW.there {H : Hp} {Y : Ys} : ∀ {vs : List V} {rs : List Rs} {ps : List Addr}, RsW G H Y vs rs ps → ∀ p ∈ ps, H p ≠ none
  | _, _, _, .nil, p, hp => by simp at hp
  | _, _, _, .val _ r, p, hp => r.there p hp
  | _, _, _, .fr b _ _ r, p, hp => by
    rcases List.mem_cons.mp hp with rfl | hp
    · obtain ⟨o, ho⟩ := b.there; rw [ho]; exact fun q => nomatch q
    · exact r.there p hp
/-- they are reckoned one by one -/
theorem rs_ok : ∀ (as : List Ex) {env env' : En} {rs : List Rs} {σ : L2.St} {H : Hp} {Z : Ys} {Q : List V → Hp → Prop}, (∀ a ∈ as, notPeek a = true) → Good G Z σ H env → evalRs rf C as env = some (rs, env') →
    (∀ vs H' ps, Post G Z σ H env σ H' env' → Good G (zads Z ps) σ H' env' → (∀ p ∈ ps, H p = none) → RsW G H' (Av σ env' (zads Z ps)) vs rs ps → Q vs H') → tArgs G rf C as σ H Q
  | [], env, env', rs, σ, H, Z, Q, hp, g, h, q => by
    simp only [evalRs, Option.some.injEq, Prod.mk.injEq] at h
    obtain ⟨rfl, rfl⟩ := h
    exact q [] H [] (Post.refl g) (g.less fun a z => z.elim id fun q => by simp at q) (fun p hp => by simp at hp) .nil
  | a :: as, env, env', rs, σ, H, Z, Q, hp, g, h, q => by
    have ha : ∀ i, a ≠ .peek i := fun i e => by have := hp a List.mem_cons_self; rw [e] at this; cases this
    simp only [evalRs] at h
    cases h1 : evalE rf C a env with
    | none => rw [h1] at h; cases h
    | some p =>
      obtain ⟨r, env1⟩ := p
      rw [h1] at h
      cases h2 : evalRs rf C as env1 with
      | none => simp only [h2] at h; cases h
      | some p2 =>
        obtain ⟨rs', env2⟩ := p2
        simp only [h2, Option.some.injEq, Prod.mk.injEq] at h
        obtain ⟨rfl, rfl⟩ := h
        show tArg G rf C a σ H fun x H1 => tArgs G rf C as σ H1 fun xs H2 => Q (x :: xs) H2
        rw [tArg_of ha]
        refine ⟨Z, env, r, env1, g, h1, fun v H1 p1 r1 => ?_⟩
        cases r with
        | val d =>
          refine rs_ok as (fun a h => hp a (List.mem_cons_of_mem _ h)) p1.good h2 fun vs H2 ps p2 g2 hps w => ?_
          refine q (v :: vs) H2 ps (p1.trans p2) g2 (fun p hp => p1.there p (hps p hp)) (.val ?_ w)
          exact (show Rep G.K H1 (Av σ env1 Z) v d from r1).fr ⟨fun a o h n => p2.step a o h fun z => n (.inl z), fun a y => by
            rcases y with y | y | y
            · exact (p2.own a y).elim (fun z => .inl (.inl z)) .inr
            · exact .inl (.inr y)
            · exact .inr (hps a y)⟩
        | fr d =>
          obtain ⟨p, rfl, hpn, gz, b⟩ := r1
          -- the new place is forbidden from here on
          refine rs_ok (Z := zad Z p) as (fun a h => hp a (List.mem_cons_of_mem _ h)) gz h2 fun vs H2 ps p2 g2 hps w => ?_
          have np : p ∉ ps := fun hm => by
            have := hps p hm
            obtain ⟨o, ho⟩ := b.there
            rw [ho] at this; cases this
          have nown : ¬ ownA σ env1 p := fun z => gz.ownZ z (.inr rfl)
          have eZ : ∀ a, zads Z (p :: ps) a ↔ zads (zad Z p) ps a := fun a => by
            unfold zads zad
            simp only [List.mem_cons]
            constructor
            · rintro (z | z | z)
              · exact .inl (.inl z)
              · exact .inl (.inr z)
              · exact .inr z
            · rintro ((z | z) | z)
              · exact .inl z
              · exact .inr (.inl z)
              · exact .inr (.inr z)
          have g2' : Good G (zads Z (p :: ps)) σ H2 env2 := g2.less fun a z => (eZ a).mp z
          have P1 : Post G Z σ H1 env1 σ H2 env2 := ⟨p2.good.less fun a z => .inl z, p2.step, p2.own, p2.there⟩
          refine q (.ref p :: vs) H2 (p :: ps) (p1.trans P1) g2' (fun a ha => ?_) (.fr ?_ (g.fresh0 hpn) np ?_)
          · rcases List.mem_cons.mp ha with rfl | ha
            · exact hpn
            · exact p1.there a (hps a ha)
          · refine b.fr ⟨fun a o h n => p2.step a o h fun z => n (.inl z), fun a y => ?_⟩ fun o h => p2.step p o h nown
            rcases y with y | y
            · exact (p2.own a y).elim (fun z => .inl (.inl z)) .inr
            · rcases (eZ a).mp y with y | y
              · exact .inl (.inr y)
              · exact .inr (hps a y)
          · exact w.mono (Fr1.less fun a y => y.elim .inl fun z => .inr ((eZ a).mp z)) fun p _ o h => h
def setσ : List Nat → List V → L2.St → L2.St
  | i :: is, v :: vs, σ => setσ is vs (σ.set i (some v))
  | _, _, σ => σ
theorem set_all : ∀ (is : List Nat) {rs : List Rs} {vs : List V} {ps : List Addr} {env env' : En} {σ : L2.St} {H H0 : Hp} {env0 : En} {σ0 : L2.St} {Z : Ys}, Good G (zads Z ps) σ H env → RsW G H (Av σ env (zads Z ps)) vs rs ps → (∀ p ∈ ps, ¬ Z p) → (∀ p ∈ ps, H0 p = none) →
    (∀ a o, H0 a = some o → ¬ ownA σ0 env0 a → H a = some o) → (∀ a, ownA σ env a → ownA σ0 env0 a ∨ H0 a = none) → (∀ a, H a = none → H0 a = none) → setAll is rs env = some env' → Post G Z σ0 H0 env0 (setσ is vs σ) H env'
  | [], rs, vs, ps, env, env', σ, H, H0, env0, σ0, Z, g, w, nz, hn, st, ow, th, h => by
    cases w with
    | nil =>
      simp only [setAll, Option.some.injEq] at h
      subst h
      exact ⟨g.less fun a z => .inl z, st, ow, th⟩
    | val _ _ => simp [setAll] at h
    | fr _ _ _ _ => simp [setAll] at h
  | i :: is, rs, vs, ps, env, env', σ, H, H0, env0, σ0, Z, g, w, nz, hn, st, ow, th, h => by
    cases w with
    | nil => simp [setAll] at h
    | val rp w =>
      simp only [setAll] at h
      split at h
      · rename_i hf
        have p := g.setVal (free_of hf) rp
        refine set_all is p.good (w.mono (p.frZ _) fun _ _ _ h => h) nz hn st (fun a z => ?_) th h
        rcases p.own a z with z | z
        · exact ow a z
        · exact .inr (th a z)
      · cases h
    | fr b h0 np w =>
      rename_i p d vs rs ps
      simp only [setAll] at h
      split at h
      · rename_i hf
        have eZ : ∀ a, zad (zads Z ps) p a ↔ zads Z (p :: ps) a := fun a => by
          unfold zads zad
          simp only [List.mem_cons]
          constructor
          · rintro ((z | z) | z)
            · exact .inl z
            · exact .inr (.inr z)
            · exact .inr (.inl z)
          · rintro (z | z | z)
            · exact .inl (.inl z)
            · exact .inr z
            · exact .inl (.inr z)
        have gz : Good G (zad (zads Z ps) p) σ H env := g.less fun a z => (eZ a).mp z
        have bz : Bod G.K H (Av σ env (zad (zads Z ps) p)) p d := b.fr (Fr1.less fun a y => y.elim .inl fun z => .inr ((eZ a).mp z)) fun o h => h
        have nzp : ¬ zads Z ps p := fun z => z.elim (nz p List.mem_cons_self) np
        obtain ⟨g2, ow2⟩ := gz.setOwn (free_of hf) bz h0 nzp
        refine set_all is g2 (w.mono ⟨fun a o h _ => h, fun a y => .inl ?_⟩ fun _ _ _ h => h) (fun q hq => nz q (List.mem_cons_of_mem _ hq)) (fun q hq => hn q (List.mem_cons_of_mem _ hq)) st (fun a z => ?_) th h
        · rcases y with y | y
          · rcases ow2 a y with y | y
            · exact .inl y
            · exact .inr ((eZ a).mp (.inr y))
          · exact .inr ((eZ a).mp (.inl y))
        · rcases ow2 a z with z | z
          · exact ow a z
          · exact .inr (by rw [z]; exact hn p List.mem_cons_self)
      · cases h
theorem par_red {is : List Nat} {es : List Ex} (hp : ∀ a ∈ es, notPeek a = true) (Dn : Ends) (σ : L2.St) (H : Hp) (h : tS G (evPar rf C is es) Dn σ H) : tArgs G rf C es σ H (fun vs H1 => vs.length = es.length ∧ Dn.nx (setσ is vs σ) H1) := by
  obtain ⟨Z, env, fl, env', g, h, q⟩ := h
  unfold evPar at h
  cases h1 : evalRs rf C es env with
  | none => rw [h1] at h; cases h
  | some p =>
    obtain ⟨rs, env1⟩ := p
    rw [h1] at h
    simp only at h
    cases h2 : setAll is rs env1 with
    | none => rw [h2] at h; cases h
    | some env2 =>
      rw [h2] at h
      simp only [Option.map_some, Option.some.injEq, Prod.mk.injEq] at h
      obtain ⟨rfl, rfl⟩ := h
      have lens : ∀ {vs : List V} {rs : List Rs} {ps : List Addr} {H : Hp} {Y : Ys}, RsW G H Y vs rs ps → vs.length = rs.length := fun {vs} => by
        induction vs with
        | nil => intro rs ps H Y w; cases w; rfl
        | cons v vs ih => intro rs ps H Y w; cases w with
          | val _ w => simp [ih w]
          | fr _ _ _ w => simp [ih w]
      have lrs : ∀ (as : List Ex) (en en' : En) (rs : List Rs), evalRs rf C as en = some (rs, en') → rs.length = as.length := fun as => by
        induction as with
        | nil => intro en en' rs h; simp only [evalRs, Option.some.injEq, Prod.mk.injEq] at h; rw [← h.1]; rfl
        | cons a as ih =>
          intro en en' rs h
          simp only [evalRs] at h
          cases e1 : evalE rf C a en with
          | none => rw [e1] at h; cases h
          | some p =>
            obtain ⟨r, en1⟩ := p
            rw [e1] at h
            cases e2 : evalRs rf C as en1 with
            | none => simp only [e2] at h; cases h
            | some p2 =>
              obtain ⟨rs', en2⟩ := p2
              simp only [e2, Option.some.injEq, Prod.mk.injEq] at h
              rw [← h.1]
              simp [ih _ _ _ e2]
      refine rs_ok es hp g h1 fun vs H1 ps p1 gz hps w => ⟨by rw [lens w, lrs _ _ _ _ h1], ?_⟩
      exact q _ H1 (set_all is gz w (fun p hp z => g.zdom p z (hps p hp)) hps p1.step p1.own p1.there h2)
end
end Ofw
/-! Ofw 19: the text against the small language: statements -/
namespace Ofw
open PySem L2
def isCompE : Expr → Bool
  | .ListComp _ _ _ _ => true
  | .SetComp _ _ _ _ => true
  | .DictComp _ _ _ _ _ => true
  | _ => false
/-- how a name's store and a comprehension go together -/
def swOk (sc : Scope) (x : Str) (px : Pos) : Expr → Bool
  | .ListComp _ _ scope p => (decide (sc.names.lookup x = some .local) && (px.line == p.line) && !(scope.names.any fun (n, k) => n == x && (k == .local || k == .cell))) || decide (sc.names.lookup x = some .cell)
  | e => !isCompE e
def namesOf2 (sc : Scope) (line : Nat) (ts : List Expr) : List Str := ts.filterMap fun
    | .Name id pos => if sc.names.lookup id == some .local && pos.line == line then some id else none
    | _ => none
def headLine (ts : List Expr) : Nat := (ts.head?.map (·.pos.line)).getD 0
def isStarE : Expr → Bool
  | .Starred .. => true
  | _ => false
/-- no stores are exchanged -/
def swNone (sc : Scope) (ts : List Expr) : Expr → Bool
  | .Tuple vs _ _ => (!(ts.length == 2 || ts.length == 3) || vs.length != ts.length) ||
      ((namesOf2 sc (headLine ts) ts).length != ts.length || (namesOf2 sc (headLine ts) ts).eraseDups.length != (namesOf2 sc (headLine ts) ts).length) || vs.all (foldedForSure 8)
  | _ => true
/-- they are -/
def swSome (sc : Scope) (ts vs : List Expr) (names : List Str) : Bool :=
  (ts.length == 2 || ts.length == 3) && vs.length == ts.length && !(vs.any isStarE) && decide (namesOf2 sc (headLine ts) ts = names) && names.length == ts.length && names.eraseDups.length == names.length && !(vs.all (foldedForSure 8)) && !(vs.all (constantsAlone 8))
section
variable (T : Tab) (N : List Str) (sc : Scope)
mutual
def chkS : Sx → Stmt → Bool
  | .asg i e, st => match st with
    | .Assign [.Name x px] ve _ => storeOk N sc (fun _ => true) i x && chkE T N e sc ve && swOk sc x px ve
    | _ => false
  | .asgT is e, st => match st with
    | .Assign [.Tuple ts _ _] ve _ => storesOk N sc (fun _ => true) is ts && chkE T N e sc ve && !isCompE ve && swNone sc ts ve
    | _ => false
  | .par is es, st => match st with
    | .Assign [.Tuple ts _ _] (.Tuple vs _ _) _ => storesOk N sc (fun _ => true) is ts && es.all notPeek && chkAs T N es sc vs && decide (is.Nodup) && (ts.all fun t => match t with | .Name x _ => decide (sc.names.lookup x = some .local) | _ => false) &&
        swSome sc ts vs (ts.filterMap fun t => match t with | .Name x _ => some x | _ => none)
    | _ => false
  | .seti i k e, st => match st with
    | .Assign [.Subscript (.Name x _) ke _] ve _ => slotOk N sc i x && chkE T N k sc ke && chkE T N e sc ve && !isSl ke
    | _ => false
  | .aug i op e, st => match st with
    | .AugAssign (.Name x _) op' ve _ => decide (op = op') && storeOk N sc (fun _ => true) i x && chkE T N e sc ve && (decide (op = .Add) || decide (op = .Sub))
    | _ => false
  | .app i e, st => match st with
    | .Expr (.Call (.Attribute (.Name x _) m apos) [ve] [] cpos) _ => decide (m = "append") && slotOk N sc i x && noStar ve && notPeek e && chkE T N e sc ve && (apos.endLine == cpos.line)
    | _ => false
  | .ext i e, st => match st with
    | .Expr (.Call (.Attribute (.Name x _) m apos) [ve] [] cpos) _ => decide (m = "extend") && slotOk N sc i x && noStar ve && notPeek e && chkE T N e sc ve && (apos.endLine == cpos.line)
    | _ => false
  | .upd _ _, _ => false
  | .popA j i, st => match st with
    | .Assign [.Name y _] (.Call (.Attribute (.Name x _) m apos) [] [] cpos) _ => decide (m = "pop") && storeOk N sc (fun _ => true) j y && slotOk N sc i x && (apos.endLine == cpos.line)
    | _ => false
  | .drop e, st => match st with
    | .Expr ve _ => chkE T N e sc ve && !isCompE ve
    | _ => false
  | .ret e, st => match st with
    | .Return (some ve) _ => chkE T N e sc ve
    | _ => false
  | .retN, st => match st with
    | .Return none _ => true
    | _ => false
  | .ife c a b, st => match st with
    | .If ec ea eb _ => chkE T N c sc ec && chkB a ea && chkB b eb
    | _ => false
  | .for_ tg k src body, st => match st with
    | .For etg eit eb [] _ => tgOk N sc (fun _ => true) tg etg && !isSetE eit && src.all notPeek &&
        (match itShape T sc etg k eit with
          | some es => chkAs T N src sc es
          | none => false) && chkB body eb
    | _ => false
  | .whl c body, st => match st with
    | .While ec eb [] _ => chkE T N c sc ec && chkB body eb
    | _ => false
  | .pass, st => match st with
    | .Pass _ => true
    | _ => false
  | .brk, st => match st with
    | .Break _ => true
    | _ => false
  | .cont, st => match st with
    | .Continue _ => true
    | _ => false
def chkB : List Sx → List Stmt → Bool
  | [], sts => sts.isEmpty
  | s :: ss, sts => match sts with
    | st :: sts => chkS s st && chkB ss sts
    | _ => false
end
end
theorem nosw_name {sc : Scope} {env : Env} (hs : env.scope = sc) {e : Expr} {x : Str} {px : Pos} {l : Nat} (hc : isCompE e = false) : swapsWith e (some (.Name x px)) l env = pure false := by
  cases e <;> first | rfl | cases hc
theorem nosw_cell {env : Env} {elt : Expr} {gs : List Comprehension} {scope : Scope} {p px : Pos} {x : Str} {l : Nat} (h : env.scope.names.lookup x = some .cell) : swapsWith (.ListComp elt gs scope p) (some (.Name x px)) l env = pure false := by
  have hk : env.kindOf x = some .cell := h
  show (pure (env.blockKind == .function && env.kindOf x == some .local && px.line == (Expr.ListComp elt gs scope p).pos.line && !(scope.names.any fun (n, k) => n == x && (k == .local || k == .cell))) : Sem Bool) = pure false
  rw [hk]
  have : (some NameKind.cell == some NameKind.local) = false := by decide
  rw [this]
  simp
theorem nosw_none {env : Env} {e : Expr} {l : Nat} (hc : isCompE e = false) : swapsWith e none l env = pure false := by
  cases e <;> first | rfl | cases hc
theorem nosw_sub (env : Env) (e o i : Expr) (p : Pos) (l : Nat) : swapsWith e (some (.Subscript o i p)) l env = pure false := by
  cases e <;> rfl
theorem nosw_tup (env : Env) (e : Expr) (ts : List Expr) (k : Nat) (p : Pos) (l : Nat) : swapsWith e (some (.Tuple ts k p)) l env = pure false := by
  cases e <;> rfl
theorem sw_none {env : Env} {ts : List Expr} {k : Nat} {p : Pos} {e : Expr} (hb : env.scope.kind = .function) (h : swNone env.scope ts e = true) : swappedStores [.Tuple ts k p] e env = pure none := by
  cases e with
  | Tuple vs k2 p2 =>
    unfold swNone at h
    unfold swappedStores
    simp only
    split
    · rfl
    · rename_i h1
      split
      · rfl
      · rename_i h2
        split
        · rfl
        · rename_i h3
          split
          · rfl
          · rename_i h4
            exfalso
            simp only [Bool.or_eq_true] at h
            rcases h with (h | h) | h
            · exact h1 (by simp only [Bool.or_eq_true]; exact .inl h)
            · exact h3 (by simp only [Bool.or_eq_true]; exact h)
            · exact h4 h
  | _ => rfl
theorem sw_some {env : Env} {ts vs : List Expr} {k k2 : Nat} {p p2 : Pos} {names : List Str} (hb : env.scope.kind = .function) (h : swSome env.scope ts vs names = true) : swappedStores [.Tuple ts k p] (.Tuple vs k2 p2) env = pure (some names) := by
  unfold swSome at h
  simp only [Bool.and_eq_true, Bool.not_eq_true', decide_eq_true_eq] at h
  obtain ⟨⟨⟨⟨⟨⟨⟨a1, a2⟩, a3⟩, a4⟩, a5⟩, a6⟩, a7⟩, a8⟩ := h
  have hbk : env.blockKind = .function := by
    unfold Env.blockKind
    rw [hb]; rfl
  unfold swappedStores
  simp only
  split
  · rename_i h1
    exfalso
    rw [a1, hbk] at h1
    have a2' : (vs.length != ts.length) = false := by rw [bne, a2]; rfl
    rw [a2'] at h1
    revert h1; decide
  · split
    · rename_i h2
      exfalso
      have : (vs.any isStarE) = true := h2
      rw [a3] at this; cases this
    · split
      · rename_i h3
        exfalso
        have h3' : ((namesOf2 env.scope (headLine ts) ts).length != ts.length || (namesOf2 env.scope (headLine ts) ts).eraseDups.length != (namesOf2 env.scope (headLine ts) ts).length) = true := h3
        rw [a4, bne, bne, a5, a6] at h3'
        cases h3'
      · split
        · rename_i h4
          rw [a7] at h4; cases h4
        · split
          · rename_i h5
            rw [a8] at h5; cases h5
          · show (pure (some (namesOf2 env.scope (headLine ts) ts)) : Sem _) = _
            rw [a4]
end Ofw
/-! Ofw 20: statements are what the evaluator reckons -/
namespace Ofw
open PySem L2
structure CtxS (G : Gx) (T : Tab) (rf : Nat → List Bool) (C : CallT) (N : List Str) (sc : Scope) (X : Cx) : Prop where
  ok : CtxOk T rf C N sc X
  hK : G.K = X.K
  fn : X.fn = fun _ => true
  xe : X.xe = fun _ _ => False
  kind : sc.kind = .function
section
variable {G : Gx} {rf : Nat → List Bool} {C : CallT} {T : Tab} {N : List Str} {sc : Scope} {X : Cx} {wf : Nat}
theorem _root_.L2.PS.or {st : Stmt} {t t' : TS} (h : PS X st t) (h' : PS X st t') : PS X st (fun D σ H => t D σ H ∨ t' D σ H) := ⟨fun pins s σ H D I q => q.elim (h.run pins s σ H D I) (h'.run pins s σ H D I)⟩
theorem CtxS.never (c : CtxS G T rf C N sc X) : PassesOwn (model X.prog X.w) X.A X.env X.xe := by rw [c.xe]; exact PassesOwn.never
theorem s_lc {elt : Ex} {tg : Tg} {k : ItK} {src ifs : List Ex} {vs : List Nat} {eelt etg eit : Expr} {eifs : List Expr} {scope : Scope} {pos py spos : Pos} {i : Nat} {y : Str} (ok : CtxOk T rf C N sc X) (hK : G.K = X.K) (h : chkE T N (.lc elt tg k src ifs vs) sc (.ListComp eelt [⟨etg, eit, eifs, 0⟩] scope pos) = true)
    (hy : X.N[i]? = some y) (hyl : X.env.scope.names.lookup y = some .local) (hsw : swapsWith (.ListComp eelt [⟨etg, eit, eifs, 0⟩] scope pos) (some (.Name y py)) spos.line X.env = pure true) :
    PS X (.Assign [.Name y py] (.ListComp eelt [⟨etg, eit, eifs, 0⟩] scope pos) spos) (tAsg (tE G rf C (.lc elt tg k src ifs vs)) (gName i)) := by
  unfold chkE at h
  simp only [Bool.and_eq_true, decide_eq_true_eq, Bool.not_eq_true'] at h
  obtain ⟨⟨⟨⟨⟨⟨⟨⟨h1, h2⟩, h3⟩, h4⟩, h5⟩, h6⟩, h7⟩, h8⟩, h9⟩ := h
  have hsrc : ∃ es, itShape T sc etg k eit = some es ∧ chkAs T N src sc es = true := by
    split at h7
    · exact ⟨_, ‹_›, h7⟩
    · cases h7
  obtain ⟨es, hsh, hca⟩ := hsrc
  have nd : X.N.Nodup := by rw [ok.names]; exact ok.nd
  have pi := it_ok ok hK hsh (sound_as src sc es X ok hK hca) h6
  have bk : BlkOk X.N X.env.scope scope (ownOf N vs) := by rw [ok.names, ok.scope]; exact blkOk_by h3
  have hv : ∀ i ∈ tgI tg, i ∈ vs := fun i hi => by
    have := List.all_eq_true.mp h2 i hi
    simpa using this
  have ownvs : (ownOf N vs).map (·.2) = vs := by unfold ownOf; rw [List.map_map]; simp [Function.comp_def]
  refine (ps_setLc (own := ownOf N vs) ok.calm nd hy hyl hsw pi bk
    (fun s H Ca cl fp => tg_ok (ok.blk s H scope cl Ca fp) hK (.inl rfl) h1)
    (fun s H Ca cl fp => (sound_l ifs _ _ _ (ok.blk s H scope cl Ca fp) hK h8).2 h5)
    (fun s H Ca cl fp => (sound_e elt _ _ _ (ok.blk s H scope cl Ca fp) hK h9).1) (setless h4 _)).imp fun D σ H q => ?_
  rw [ownvs]
  refine lc_red hv σ H _ ?_
  obtain ⟨Z, env, r, env', g, he, q⟩ := q
  exact ⟨Z, env, r, env', g, by rw [← evalE_lc]; exact he, q⟩
theorem s_asg (c : CtxS G T rf C N sc X) {i : Nat} {e : Ex} {st : Stmt} (h : chkS T N sc (.asg i e) st = true) : PS X st (tS G (evAsg rf C i e)) := by
  unfold chkS at h
  split at h
  · rename_i x px ve pos
    simp only [Bool.and_eq_true] at h
    obtain ⟨⟨h1, h2⟩, h3⟩ := h
    obtain ⟨hx, hloc, hf⟩ := store_ok1 c.ok (.inr c.fn) h1
    have nd : X.N.Nodup := by rw [c.ok.names]; exact c.ok.nd
    have pe := (sound_e (G := G) e sc ve X c.ok c.hK h2).1
    by_cases hcomp : isCompE ve = true
    · cases ve <;> first | (exact absurd (show false = true from hcomp) (by decide)) | skip
      · rename_i eelt gens scope p
        unfold swOk at h3
        simp only [Bool.or_eq_true, Bool.and_eq_true, decide_eq_true_eq, Bool.not_eq_true'] at h3
        rcases h3 with ⟨⟨h4, h5⟩, h6⟩ | h4
        · -- stored within the comprehension's frame
          have hl : X.env.scope.names.lookup x = some .local := by rw [c.ok.scope]; exact h4
          have hsw : swapsWith (.ListComp eelt gens scope p) (some (.Name x px)) pos.line X.env = pure true := sw_true (by rw [c.ok.scope]; exact c.kind) hl h5 h6
          have hgen : ∃ elt tg k src ifs vs etg eit eifs, e = .lc elt tg k src ifs vs ∧ gens = [⟨etg, eit, eifs, 0⟩] := by
            cases e <;> simp only [chkE] at h2 <;> try (exact absurd h2 (by decide))
            · rename_i t as
              exfalso
              have h2' : chkE T N (.op t as) sc (.ListComp eelt gens scope p) = true := by unfold chkE; exact h2
              by_cases hs : ∃ lo hi, t = .slc lo hi
              · obtain ⟨lo, hi, rfl⟩ := hs
                unfold chkE at h2'
                cases h2'
              · obtain ⟨es, hsh, _⟩ := chkE_op (fun lo hi e => hs ⟨lo, hi, e⟩) h2'
                unfold shape at hsh
                split at hsh <;> cases hsh
            · rename_i elt tg k src ifs vs
              split at h2
              · rename_i heq
                cases heq
                exact ⟨_, _, _, _, _, _, _, _, _, rfl, rfl⟩
              · cases h2
          obtain ⟨elt, tg, k, src, ifs, vs, etg, eit, eifs, rfl, rfl⟩ := hgen
          exact (s_lc c.ok c.hK h2 hx hl hsw).imp fun D σ H q => asg_red D σ H q
        · exact (ps_set nd hx hloc pe (nosw_cell (by rw [c.ok.scope]; exact h4)) hf).imp fun D σ H q => asg_red D σ H q
      · simp [swOk, isCompE] at h3
      · simp [swOk, isCompE] at h3
    · exact (ps_set nd hx hloc pe (nosw_name c.ok.scope (by simpa using hcomp)) hf).imp fun D σ H q => asg_red D σ H q
  · cases h
theorem s_asgT (c : CtxS G T rf C N sc X) {is : List Nat} {e : Ex} {st : Stmt} (h : chkS T N sc (.asgT is e) st = true) : PS X st (tS G (evAsgT rf C is e)) := by
  unfold chkS at h
  split at h
  · rename_i ts k p ve pos
    simp only [Bool.and_eq_true, Bool.not_eq_true'] at h
    obtain ⟨⟨⟨h1, h2⟩, h3⟩, h4⟩ := h
    have nd : X.N.Nodup := by rw [c.ok.names]; exact c.ok.nd
    have pe := (sound_e (G := G) e sc ve X c.ok c.hK h2).1
    obtain ⟨hl, hx⟩ := stores_ok c.ok (.inr c.fn) h1
    have pg := pg_tups (G := G) (k := k) (pos := p) c.hK.symm c.ok.calm nd hl hx
    have hs0 : swapsWithSole [.Tuple ts k p] ve pos.line X.env = pure false := nosw_tup X.env ve ts k p pos.line
    refine (ps_asg pe pg hs0 (sw_none (by rw [c.ok.scope]; exact c.kind) (by rw [c.ok.scope]; exact h4)) rfl).imp fun D σ H q => asgT_red D σ H q
  · cases h
theorem s_par (c : CtxS G T rf C N sc X) {is : List Nat} {es : List Ex} {st : Stmt} (h : chkS T N sc (.par is es) st = true) : PS X st (tS G (evPar rf C is es)) := by
  unfold chkS at h
  split at h
  · rename_i ts k p vs k2 p2 pos
    simp only [Bool.and_eq_true] at h
    obtain ⟨⟨⟨⟨⟨h1, h2⟩, h3⟩, h4⟩, h5⟩, h6⟩ := h
    have nd : X.N.Nodup := by rw [c.ok.names]; exact c.ok.nd
    obtain ⟨hl, hx⟩ := stores_ok c.ok (.inr c.fn) h1
    have hnp : ∀ a ∈ es, notPeek a = true := List.all_eq_true.mp h2
    have ps := sound_as (G := G) es sc vs X c.ok c.hK h3
    have hnd := of_decide_eq_true h4
    have hsw := sw_some (k := k) (k2 := k2) (p := p) (p2 := p2) (env := X.env) (by rw [c.ok.scope]; exact c.kind) (by rw [c.ok.scope]; exact h6)
    have hlen : (ts.length = 2 ∨ ts.length = 3) ∧ vs.length = ts.length := by
      unfold swSome at h6
      simp only [Bool.and_eq_true, Bool.or_eq_true, beq_iff_eq] at h6
      exact ⟨h6.1.1.1.1.1.1.1, h6.1.1.1.1.1.1.2⟩
    have loc : ∀ (j : Nat) (x : Str) (q : Pos), ts[j]? = some (.Name x q) → X.env.scope.names.lookup x = some .local := fun j x q hj => by
      have := List.all_eq_true.mp h5 _ (List.mem_of_getElem? hj)
      rw [c.ok.scope]
      simpa using this
    have vl : vs.length = es.length := by
      have : ∀ {a : List Expr} {b : List Ex}, PEs G rf C X a b → a.length = b.length := fun {a} => by
        induction a with
        | nil => intro b h; cases h; rfl
        | cons _ _ ih => intro b h; cases h with | cons _ _ r => simp [ih r]
      exact this ps
    rcases hlen.1 with h2' | h3'
    · obtain ⟨e1, e2, rfl⟩ : ∃ a b, ts = [a, b] := by
        match ts, h2' with
        | [a, b], _ => exact ⟨a, b, rfl⟩
      obtain ⟨i1, i2, rfl⟩ : ∃ a b, is = [a, b] := by
        match is, hl with
        | [a, b], _ => exact ⟨a, b, rfl⟩
      obtain ⟨v1, v2, rfl⟩ : ∃ a b, vs = [a, b] := by
        match vs, hlen.2 with
        | [a, b], _ => exact ⟨a, b, rfl⟩
      obtain ⟨x, px, rfl, nx, _, _⟩ := hx 0 i1 e1 rfl rfl
      obtain ⟨y, py, rfl, ny, _, _⟩ := hx 1 i2 e2 rfl rfl
      have ne : i1 ≠ i2 := by simpa using hnd
      have hs0 : swapsWithSole [.Tuple [.Name x px, .Name y py] k p] (.Tuple [v1, v2] k2 p2) pos.line X.env = pure false := nosw_tup X.env (.Tuple [v1, v2] k2 p2) [.Name x px, .Name y py] k p pos.line
      refine (ps_par c.ok.calm nd nx ny ne (loc 0 x px rfl) (loc 1 y py rfl) ps.pa hsw hs0).imp fun D σ H q => ?_
      refine tArgs_mono (fun ws H1 hq => ?_) (par_red hnp D σ H q)
      obtain ⟨hwl, hq⟩ := hq
      rw [← vl] at hwl
      match ws, hwl with
      | [a, b], _ => exact ⟨a, b, rfl, hq⟩
    · obtain ⟨e1, e2, e3, rfl⟩ : ∃ a b d, ts = [a, b, d] := by
        match ts, h3' with
        | [a, b, d], _ => exact ⟨a, b, d, rfl⟩
      obtain ⟨i1, i2, i3, rfl⟩ : ∃ a b d, is = [a, b, d] := by
        match is, hl with
        | [a, b, d], _ => exact ⟨a, b, d, rfl⟩
      obtain ⟨v1, v2, v3, rfl⟩ : ∃ a b d, vs = [a, b, d] := by
        match vs, hlen.2 with
        | [a, b, d], _ => exact ⟨a, b, d, rfl⟩
      obtain ⟨x, px, rfl, nx, _, _⟩ := hx 0 i1 e1 rfl rfl
      obtain ⟨y, py, rfl, ny, _, _⟩ := hx 1 i2 e2 rfl rfl
      obtain ⟨z, pz, rfl, nz, _, _⟩ := hx 2 i3 e3 rfl rfl
      have ne : i1 ≠ i2 ∧ i1 ≠ i3 ∧ i2 ≠ i3 := by
        simp only [List.nodup_cons, List.mem_cons, List.not_mem_nil, or_false, not_or] at hnd
        exact ⟨hnd.1.1, hnd.1.2, hnd.2.1⟩
      have hs0 : swapsWithSole [.Tuple [.Name x px, .Name y py, .Name z pz] k p] (.Tuple [v1, v2, v3] k2 p2) pos.line X.env = pure false := nosw_tup X.env (.Tuple [v1, v2, v3] k2 p2) [.Name x px, .Name y py, .Name z pz] k p pos.line
      refine (ps_par3 c.ok.calm nd nx ny nz ne.1 ne.2.1 ne.2.2 (loc 0 x px rfl) (loc 1 y py rfl) (loc 2 z pz rfl) ps.pa hsw hs0).imp fun D σ H q => ?_
      refine tArgs_mono (fun ws H1 hq => ?_) (par_red hnp D σ H q)
      obtain ⟨hwl, hq⟩ := hq
      rw [← vl] at hwl
      match ws, hwl with
      | [a, b, d], _ => exact ⟨a, b, d, rfl, hq⟩
  · cases h
theorem s_seti (c : CtxS G T rf C N sc X) {i : Nat} {k e : Ex} {st : Stmt} (h : chkS T N sc (.seti i k e) st = true) : PS X st (tS G (evSeti rf C i k e)) := by
  unfold chkS at h
  split at h
  · rename_i x px ke p ve pos
    simp only [Bool.and_eq_true, Bool.not_eq_true'] at h
    obtain ⟨⟨⟨h1, h2⟩, h3⟩, h4⟩ := h
    obtain ⟨v1, v2, v3, v4⟩ := slot_vis c.ok h1
    have pk := (sound_e (G := G) k sc ke X c.ok c.hK h2).1
    have pe := (sound_e (G := G) e sc ve X c.ok c.hK h3).1
    have pv : PE X (.Name x px) (tVar i) := pe_var v1 v2 v3 v4
    have hu1 : X.A.units + 1 < cLine := by have := c.ok.units; omega
    have sw : swappedStores [.Subscript (.Name x px) ke p] ve X.env = pure none := by cases ve <;> rfl
    have hs0 : swapsWithSole [.Subscript (.Name x px) ke p] ve pos.line X.env = pure false := nosw_sub X.env ve (.Name x px) ke p pos.line
    exact ((ps_asg pe (pg_sub pv pk set_list (by intro _; cases ke <;> first | rfl | cases h4)) hs0 sw rfl).or (ps_dput hu1 pv pk pe (nosw_sub X.env ve (.Name x px) ke p pos.line))).imp fun D σ H q => seti_red (X := X) c.hK D σ H q
  · cases h
theorem s_aug (c : CtxS G T rf C N sc X) {i : Nat} {op : Operator} {e : Ex} {st : Stmt} (h : chkS T N sc (.aug i op e) st = true) : PS X st (tS G (evAug rf C i op e)) := by
  unfold chkS at h
  split at h
  · simp only [Bool.and_eq_true, decide_eq_true_eq, Bool.or_eq_true] at h
    obtain ⟨⟨⟨rfl, h1⟩, h2⟩, h3⟩ := h
    obtain ⟨hx, hloc, hf⟩ := store_ok1 c.ok (.inr c.fn) h1
    have nd : X.N.Nodup := by rw [c.ok.names]; exact c.ok.nd
    have pe := (sound_e (G := G) e sc _ X c.ok c.hK h2).1
    rcases h3 with rfl | rfl
    · refine (ps_aug nd hx hloc pe ip_add hf).imp fun D σ H q => aug_red (fun d d' x h => ?_) D σ H q
      cases d <;> cases d' <;> simp only [augD, Option.some.injEq, reduceCtorEq] at h
      exact ⟨_, _, rfl, rfl, h.symm⟩
    · refine (ps_aug nd hx hloc pe ip_sub hf).imp fun D σ H q => aug_red (fun d d' x h => ?_) D σ H q
      cases d <;> cases d' <;> simp only [augD, Option.some.injEq, reduceCtorEq] at h
      exact ⟨_, _, rfl, rfl, h.symm⟩
  · cases h
theorem bm_few {e : Expr} (h : noStar e = true) (cpos : Pos) : ((backTo cpos (starEach [e] X.env)).all (fun x => !x.1) && (backToKw cpos (keywordEach [] X.env)).all (fun x => x.1.isSome) && decide ([e].length + ([] : List Keyword).length + (if ([] : List Keyword).isEmpty then 0 else 1) < 30)) = true := by
  rw [star_one h]; rfl
theorem s_app (c : CtxS G T rf C N sc X) {i : Nat} {e : Ex} {st : Stmt} (h : chkS T N sc (.app i e) st = true) : PS X st (tS G (evApp rf C i e)) := by
  unfold chkS at h
  split at h
  · rename_i x px m apos ve cpos pos
    simp only [Bool.and_eq_true, decide_eq_true_eq] at h
    obtain ⟨⟨⟨⟨⟨rfl, h1⟩, h2⟩, h3⟩, h4⟩, h5⟩ := h
    obtain ⟨v1, v2, v3, v4⟩ := slot_vis c.ok h1
    have pe := (sound_e (G := G) e sc ve X c.ok c.hK h4).1
    have pv : PE X (.Name x px) (tVar i) := pe_var v1 v2 v3 v4
    exact (ps_expr (pe_bm PySem.F.plainAttrs_list PySem.F.slot_list_append PySem.F.type_list_append mt_append pv (pa_cons pe pa_nil (star_one h2 _ _)) rfl (bm_few h2 _) h5 (star_one h2 _ _) rfl) rfl).imp fun D σ H q => app_red (X := X) c.hK D σ H q
  · cases h
theorem s_ext (c : CtxS G T rf C N sc X) {i : Nat} {e : Ex} {st : Stmt} (h : chkS T N sc (.ext i e) st = true) : PS X st (tS G (evExt rf C i e)) := by
  unfold chkS at h
  split at h
  · rename_i x px m apos ve cpos pos
    simp only [Bool.and_eq_true, decide_eq_true_eq] at h
    obtain ⟨⟨⟨⟨⟨rfl, h1⟩, h2⟩, h3⟩, h4⟩, h5⟩ := h
    obtain ⟨v1, v2, v3, v4⟩ := slot_vis c.ok h1
    have pe := (sound_e (G := G) e sc ve X c.ok c.hK h4).1
    have pv : PE X (.Name x px) (tVar i) := pe_var v1 v2 v3 v4
    exact (ps_expr (pe_bm PySem.F.plainAttrs_list PySem.F.slot_list_extend PySem.F.type_list_extend mt_extend pv (pa_cons pe pa_nil (star_one h2 _ _)) rfl (bm_few h2 _) h5 (star_one h2 _ _) rfl) rfl).imp fun D σ H q => ext_red (X := X) c.hK D σ H q
  · cases h
theorem s_pop (c : CtxS G T rf C N sc X) {i j : Nat} {st : Stmt} (h : chkS T N sc (.popA j i) st = true) : PS X st (tS G (evPop j i)) := by
  unfold chkS at h
  split at h
  · rename_i y py x px m apos cpos pos
    simp only [Bool.and_eq_true, decide_eq_true_eq] at h
    obtain ⟨⟨⟨rfl, h1⟩, h2⟩, h5⟩ := h
    obtain ⟨v1, v2, v3, v4⟩ := slot_vis c.ok h2
    obtain ⟨hx, hloc, hf⟩ := store_ok1 c.ok (.inr c.fn) h1
    have nd : X.N.Nodup := by rw [c.ok.names]; exact c.ok.nd
    have pv : PE X (.Name x px) (tVar i) := pe_var v1 v2 v3 v4
    exact (ps_set nd hx hloc (pe_bm0 PySem.F.plainAttrs_list PySem.F.slot_list_pop PySem.F.type_list_pop mt_pop pv rfl h5) rfl hf).imp fun D σ H q => pop_red (X := X) c.hK D σ H q
  · cases h
mutual
theorem sound_s (c : CtxS G T rf C N sc X) : ∀ (s : Sx) (st : Stmt), chkS T N sc s st = true → PS X st (tS G (execS rf C wf s))
  | .asg i e, st, h => by simp only [execS]; exact s_asg c h
  | .asgT is e, st, h => by simp only [execS]; exact s_asgT c h
  | .par is es, st, h => by simp only [execS]; exact s_par c h
  | .seti i k e, st, h => by simp only [execS]; exact s_seti c h
  | .aug i op e, st, h => by simp only [execS]; exact s_aug c h
  | .app i e, st, h => by simp only [execS]; exact s_app c h
  | .ext i e, st, h => by simp only [execS]; exact s_ext c h
  | .upd i e, st, h => by unfold chkS at h; cases h
  | .popA j i, st, h => by simp only [execS]; exact s_pop c h
  | .drop e, st, h => by
    simp only [execS]
    unfold chkS at h
    split at h
    · simp only [Bool.and_eq_true, Bool.not_eq_true'] at h
      exact (ps_expr (sound_e (G := G) e sc _ X c.ok c.hK h.1).1 (nosw_none h.2)).imp fun D σ H q => drop_red D σ H q
    · cases h
  | .ret e, st, h => by
    simp only [execS]
    unfold chkS at h
    split at h
    · refine ret_red (fun i hi => ?_) (sound_e (G := G) e sc _ X c.ok c.hK h).1
      subst hi
      unfold chkE at h
      split at h
      · obtain ⟨v1, v2, v3, v4⟩ := slot_vis c.ok h
        exact pe_var v1 v2 v3 v4
      · cases h
    · cases h
  | .retN, st, h => by
    simp only [execS]
    unfold chkS at h
    split at h
    · refine ps_retN.imp fun D σ H ⟨Z, env, fl, env', g, he, q⟩ => ?_
      simp only [Option.some.injEq, Prod.mk.injEq] at he
      obtain ⟨rfl, rfl⟩ := he
      exact q .non σ H (Post.refl g) .non
    · cases h
  | .ife cc a b, st, h => by
    simp only [execS]
    unfold chkS at h
    split at h
    · simp only [Bool.and_eq_true] at h
      exact (ps_if (sound_e (G := G) cc sc _ X c.ok c.hK h.1.1).2 (sound_b c a _ h.1.2) (sound_b c b _ h.2)).imp fun D σ H q => if_red D σ H q
    · cases h
  | .for_ tg k src body, st, h => by
    simp only [execS]
    unfold chkS at h
    split at h
    · rename_i etg eit eb pos
      simp only [Bool.and_eq_true, Bool.not_eq_true'] at h
      obtain ⟨⟨⟨⟨h1, h2⟩, h3⟩, h4⟩, h5⟩ := h
      have hsrc : ∃ es, itShape T sc etg k eit = some es ∧ chkAs T N src sc es = true := by
        split at h4
        · exact ⟨_, ‹_›, h4⟩
        · cases h4
      obtain ⟨es, hsh, hca⟩ := hsrc
      have pi := it_ok (G := G) c.ok c.hK hsh (sound_as src sc es X c.ok c.hK hca) h3
      exact (ps_for c.never c.ok.calm pi (tg_ok c.ok c.hK (.inr c.fn) h1) (sound_b c body _ h5) (setless h2 _)).imp fun D σ H q => for_red D σ H q
    · cases h
  | .whl cc body, st, h => by
    simp only [execS]
    unfold chkS at h
    split at h
    · simp only [Bool.and_eq_true] at h
      exact (ps_while c.never (sound_e (G := G) cc sc _ X c.ok c.hK h.1).2 (sound_b c body _ h.2)).imp fun D σ H q => while_red D σ H q
    · cases h
  | .pass, st, h => by
    simp only [execS]
    unfold chkS at h
    split at h
    · refine ps_pass.imp fun D σ H ⟨Z, env, fl, env', g, he, q⟩ => ?_
      simp only [Option.some.injEq, Prod.mk.injEq] at he
      obtain ⟨rfl, rfl⟩ := he
      exact q σ H (Post.refl g)
    · cases h
  | .brk, st, h => by
    simp only [execS]
    unfold chkS at h
    split at h
    · refine ps_break.imp fun D σ H ⟨Z, env, fl, env', g, he, q⟩ => ?_
      simp only [Option.some.injEq, Prod.mk.injEq] at he
      obtain ⟨rfl, rfl⟩ := he
      exact q σ H (Post.refl g)
    · cases h
  | .cont, st, h => by
    simp only [execS]
    unfold chkS at h
    split at h
    · refine ps_continue.imp fun D σ H ⟨Z, env, fl, env', g, he, q⟩ => ?_
      simp only [Option.some.injEq, Prod.mk.injEq] at he
      obtain ⟨rfl, rfl⟩ := he
      exact q σ H (Post.refl g)
    · cases h
theorem sound_b (c : CtxS G T rf C N sc X) : ∀ (ss : List Sx) (sts : List Stmt), chkB T N sc ss sts = true → PSs X sts (tS G (execB rf C wf ss))
  | [], sts, h => by
    unfold chkB at h
    have : sts = [] := by simpa using h
    subst this
    simp only [execB]
    refine pss_nil.imp fun D σ H ⟨Z, env, fl, env', g, he, q⟩ => ?_
    simp only [Option.some.injEq, Prod.mk.injEq] at he
    obtain ⟨rfl, rfl⟩ := he
    exact q σ H (Post.refl g)
  | s :: ss, sts, h => by
    unfold chkB at h
    split at h
    · simp only [Bool.and_eq_true] at h
      simp only [execB]
      exact (pss_cons (sound_s c s _ h.1) (sound_b c ss _ h.2)).imp fun D σ H q => seq_red q
    · cases h
end
end
end Ofw
/-! Ofw 21: defs -/
namespace Ofw
open PySem L2
/-- a def: which parameters it borrows, how many slots, its body -/
structure FnD where
  rf : List Bool
  ns : Nat
  body : List Sx
def rfOf (ps : List FnD) (f : Nat) : List Bool := match ps[f]? with
  | some fd => fd.rf
  | none => []
def startE (rf : List Bool) (ds : List D) (ns : Nat) : En := List.zipWith (fun b d => if b then Sl.bor d else Sl.val d) rf ds ++ List.replicate (ns - rf.length) .emp
def outsOf (rf : List Bool) (env : En) : List (Option D) := (List.range rf.length).map fun (j : Nat) => if rf[j]? = some true then (match env[j]? with | some (Sl.bor d) => some d | _ => none) else none
def runF (ps : List FnD) (wf : Nat) : Nat → CallT
  | 0 => fun _ _ => none
  | n + 1 => fun f ds => match ps[f]? with
    | some fd => if ds.length = fd.rf.length then match execB (rfOf ps) (runF ps wf n) wf fd.body (startE fd.rf ds fd.ns) with
        | some (.rt r, env) => some (r, outsOf fd.rf env)
        | some (.nx, env) => some (.val .non, outsOf fd.rf env)
        | _ => none
      else none
    | none => none
/-- a def of the text as it stands behind the top -/
structure FnAt (K : PySem.W.Frag) (mg : Str → Option Value) (T : Tab) (ps : List FnD) (f : Nat) (x : Str) (a : Addr) (fd : FuncData) (prs : List Str) : Prop where
  ex : ∃ (st : Stmt) (N : List Str) (qual x' : Str) (fn : FnD), ps[f]? = some fn ∧ Fun K x' qual st a fd ∧ FnScope N prs (defScope st) ∧ prs.length = fn.rf.length ∧ N.length = fn.ns ∧ chkB T N (defScope st) fn.body (defBody st) = true
  binds : Binds K fd prs []
  mg : mg x = some (.ref a)
theorem startE_len {rf : List Bool} {ds : List D} {ns : Nat} (h : ds.length = rf.length) (hn : rf.length ≤ ns) : (startE rf ds ns).length = ns := by
  unfold startE
  simp [h]; omega
theorem startE_get {rf : List Bool} {ds : List D} {ns : Nat} (h : ds.length = rf.length) (j : Nat) :
    (∀ b d, rf[j]? = some b → ds[j]? = some d → (startE rf ds ns)[j]? = some (if b then Sl.bor d else Sl.val d)) ∧ (rf.length ≤ j → ∀ s, (startE rf ds ns)[j]? = some s → s = .emp) := by
  unfold startE
  refine ⟨fun b d h1 h2 => ?_, fun hj s hs => ?_⟩
  · have hl : j < rf.length := (List.getElem?_eq_some_iff.mp h1).1
    rw [List.getElem?_append_left (by simp [h]; exact hl), List.getElem?_zipWith, h1, h2]
  · rw [List.getElem?_append_right (by simp [h]; exact hj)] at hs
    rw [List.getElem?_replicate] at hs
    split at hs
    · cases hs; rfl
    · cases hs
theorem outs_get {rf : List Bool} {env : En} {j : Nat} (hj : j < rf.length) : (outsOf rf env)[j]? = some (if rf[j]? = some true then (match env[j]? with | some (Sl.bor d) => some d | _ => none) else none) := by
  unfold outsOf
  rw [List.getElem?_map, List.getElem?_range hj]
  rfl
section
variable {P : Program} {w : World} {K : PySem.W.Frag} {mg : Str → Option Value} {base : Heap}
/-- the slots at a def's entry -/
theorem start_good {fl : List Bool} {Z : Ys} {H : Hp} {vs : List V} {ds : List D} {N : List Str} (ca : CArgs K fl Z H vs ds) (hN : fl.length ≤ N.length) :
    Good ⟨K, H, fun j => if fl[j]? = some true then (match vs[j]? with | some (.ref a) => some a | _ => none) else none⟩ Z (L2.start N vs) H (startE fl ds N.length) ∧ ∀ a, ownA (L2.start N vs) (startE fl ds N.length) a ↔ isB fl vs a := by
  have sg := fun j => startE_get (ns := N.length) ca.ld j
  have σg : ∀ (j : Nat) (v : V), vs[j]? = some v → (L2.start N vs)[j]? = some (some v) := fun j v h => by
    unfold L2.start
    rw [List.getElem?_append_left (by simp; exact (List.getElem?_eq_some_iff.mp h).1), List.getElem?_map, h]; rfl
  -- a slot with something in it is a parameter's
  have par : ∀ (j : Nat) (s : Sl), s ≠ .emp → (startE fl ds N.length)[j]? = some s → ∃ b d v, fl[j]? = some b ∧ ds[j]? = some d ∧ vs[j]? = some v ∧ s = (if b then Sl.bor d else Sl.val d) := fun j s ne h => by
    rcases Nat.lt_or_ge j fl.length with hj | hj
    · have hd : j < ds.length := by rw [ca.ld]; exact hj
      have hv : j < vs.length := by rw [ca.lv]; exact hj
      have := (sg j).1 _ _ (List.getElem?_eq_getElem hj) (List.getElem?_eq_getElem hd)
      rw [this] at h
      cases h
      exact ⟨_, _, _, List.getElem?_eq_getElem hj, List.getElem?_eq_getElem hd, List.getElem?_eq_getElem hv, rfl⟩
    · exact absurd ((sg j).2 hj s h) ne
  have own : ∀ a, ownA (L2.start N vs) (startE fl ds N.length) a ↔ isB fl vs a := fun a => by
    constructor
    · rintro ⟨j, s, h1, h2, h3⟩
      obtain ⟨b, d, v, e1, e2, e3, rfl⟩ := par j s (fun e => by rw [e] at h2; cases h2) h1
      rw [σg j v e3] at h3
      cases h3
      cases b with
      | true => exact ⟨j, e1, e3⟩
      | false => cases h2
    · rintro ⟨j, h1, h2⟩
      have hj : j < fl.length := (List.getElem?_eq_some_iff.mp h1).1
      have hd : j < ds.length := by rw [ca.ld]; exact hj
      exact ⟨j, _, (sg j).1 true _ h1 (List.getElem?_eq_getElem hd), rfl, σg j _ h2⟩
  have less : ∀ a, Av (L2.start N vs) (startE fl ds N.length) Z a → Z a ∨ isB fl vs a := fun a y => y.elim (fun z => .inr ((own a).mp z)) .inl
  refine ⟨⟨?_, ca.zdom, fun j d h => ?_, fun j d h => ?_, fun j d h => ?_, fun i j s t a h1 h2 h3 h4 h5 h6 => ?_, fun j a h => ?_, fun a o h n => h⟩, own⟩
  · rw [startE_len ca.ld hN]
    unfold L2.start
    have := ca.lv
    simp; omega
  · obtain ⟨b, d', v, e1, e2, e3, e4⟩ := par j (.val d) (fun e => nomatch e) h
    cases b with
    | true => cases e4
    | false =>
      cases e4
      exact ⟨v, σg j v e3, (ca.val j v d e1 e3 e2).fr (Fr1.less less)⟩
  · obtain ⟨b, d', v, e1, e2, e3, e4⟩ := par j (.own d) (fun e => nomatch e) h
    cases b <;> cases e4
  · obtain ⟨b, d', v, e1, e2, e3, e4⟩ := par j (.bor d) (fun e => nomatch e) h
    cases b with
    | false => cases e4
    | true =>
      cases e4
      obtain ⟨a, rfl, nz, bd⟩ := ca.bor j v d e1 e3 e2
      exact ⟨a, σg j _ e3, bd.fr (Fr1.less less) fun o h => h, by simp only [e1, if_true, e3], nz⟩
  · obtain ⟨b, d, v, e1, e2, e3, rfl⟩ := par i s (fun e => by rw [e] at h3; cases h3) h1
    obtain ⟨b', d', v', e1', e2', e3', rfl⟩ := par j t (fun e => by rw [e] at h4; cases h4) h2
    rw [σg i v e3] at h5
    rw [σg j v' e3'] at h6
    cases h5; cases h6
    cases b with
    | false => cases h3
    | true => cases b' with
      | false => cases h4
      | true => exact ca.inj i j a e1 e1' e3 e3'
  · simp only at h
    split at h
    · rename_i e1
      have hj : j < fl.length := (List.getElem?_eq_some_iff.mp e1).1
      have hd : j < ds.length := by rw [ca.ld]; exact hj
      exact ⟨_, (sg j).1 true _ e1 (List.getElem?_eq_getElem hd)⟩
    · cases h
theorem isB_dec (fl : List Bool) (vs : List V) (a : Addr) : isB fl vs a ↔ ∃ j : Nat, (if fl[j]? = some true then (match vs[j]? with | some (V.ref a) => some a | _ => none) else none) = some a := by
  constructor
  · rintro ⟨j, h1, h2⟩
    exact ⟨j, by simp only [h1, if_true, h2]⟩
  · rintro ⟨j, h⟩
    split at h
    · rename_i h1
      split at h
      · cases h
        exact ⟨j, h1, ‹_›⟩
      · cases h
    · cases h
/-- what the caller is told -/
theorem end_post {fl : List Bool} {Z : Ys} {H H' : Hp} {vs : List V} {ds : List D} {N : List Str} {σ' : L2.St} {env' : En} {v : V} {r : Rs} (ca : CArgs K fl Z H vs ds) (hN : fl.length ≤ N.length)
    (p : Post ⟨K, H, fun j => if fl[j]? = some true then (match vs[j]? with | some (.ref a) => some a | _ => none) else none⟩ Z (L2.start N vs) H (startE fl ds N.length) σ' H' env')
    (ro : RetOk ⟨K, H, fun j => if fl[j]? = some true then (match vs[j]? with | some (.ref a) => some a | _ => none) else none⟩ Z σ' H' env' v r) : CPost K fl Z H vs H' v r (outsOf fl env') := by
  obtain ⟨g0, own0⟩ := start_good (N := N) ca hN
  have g := p.good
  -- the borrowed slots at the end
  have bor : ∀ (j : Nat) (a : Addr), fl[j]? = some true → vs[j]? = some (V.ref a) → ∃ d, env'[j]? = some (Sl.bor d) ∧ σ'[j]? = some (some (.ref a)) := fun j a h1 h2 => by
    have hb : (⟨K, H, fun j => if fl[j]? = some true then (match vs[j]? with | some (.ref a) => some a | _ => none) else none⟩ : Gx).ba j = some a := by simp only [h1, if_true, h2]
    obtain ⟨d, hd⟩ := g.held j a hb
    obtain ⟨a', ha', _, hb', _⟩ := g.bors j d hd
    rw [hb] at hb'; cases hb'
    exact ⟨d, hd, ha'⟩
  have b2o : ∀ a, isB fl vs a → ownA σ' env' a := fun a ⟨j, h1, h2⟩ => by
    obtain ⟨d, hd, hσ⟩ := bor j a h1 h2
    exact ⟨j, _, hd, rfl, hσ⟩
  have less : ∀ (Z' : Ys) a, Z' a ∨ isB fl vs a → Av σ' env' Z' a := fun Z' a y => y.elim .inr fun z => .inl (b2o a z)
  refine ⟨fun a o h n => p.step a o h fun z => n ((own0 a).mp z), p.there, fun j h => ?_, by simp [outsOf], ?_⟩
  · rw [outs_get (List.getElem?_eq_some_iff.mp h).1, h]
    rfl
  · have bo : ∀ (Z' : Ys), Good ⟨K, H, fun j => if fl[j]? = some true then (match vs[j]? with | some (.ref a) => some a | _ => none) else none⟩ Z' σ' H' env' → BorOut K fl H' vs (outsOf fl env') (fun a => Z' a ∨ isB fl vs a) := fun Z' g' j a h1 h2 => by
      obtain ⟨d, hd, hσ⟩ := bor j a h1 h2
      obtain ⟨a', ha', b, _, _⟩ := g'.bors j d hd
      rw [hσ] at ha'; cases ha'
      refine ⟨d, by rw [outs_get (List.getElem?_eq_some_iff.mp h1).1, h1, hd]; rfl, b.fr (Fr1.less (less Z')) fun o h => h⟩
    cases r with
    | val d => exact ⟨(show Rep K H' (Av σ' env' Z) v d from ro).fr (Fr1.less (less Z)), bo Z g⟩
    | fr d =>
      obtain ⟨q, rfl, h0, nz, gz, b⟩ := ro
      have re : ∀ a, (Z a ∨ isB fl vs a) ∨ a = q → zad Z q a ∨ isB fl vs a := fun a y => by
        rcases y with (y | y) | y
        · exact .inl (.inl y)
        · exact .inr y
        · exact .inl (.inr y)
      refine ⟨q, rfl, h0, b.fr (Fr1.less fun a y => less (zad Z q) a (re a y)) fun o h => h, fun j a h1 h2 => ?_⟩
      obtain ⟨d2, hd2, b2⟩ := bo (zad Z q) gz j a h1 h2
      exact ⟨d2, hd2, b2.fr (Fr1.less re) fun o h => h⟩
/-- every def keeps its promise, by the evaluator, at every depth -/
theorem all_fns {T : Tab} {ps : List FnD} {wf : Nat} (hf : ∀ x f, T.fn x = some f → ∃ a fd prs, FnAt K mg T ps f x a fd prs) (hb : ∀ x, T.blt.contains x = true → mg x = none)
    (hc : ∀ x c, T.cst x = some c → ∃ u, mg x = some u ∧ match c with
      | .int i => ∃ t, u = .int i t
      | .str s => ∃ t, u = .str s t
      | .bool b => u = .bool b
      | _ => False) :
    ∀ (n : Nat) (x : Str) (f : Nat) (a : Addr) (fd : FuncData) (prs : List Str), FnAt K mg T ps f x a fd prs → FnG P w K mg base n a fd prs (spF K (rfOf ps f) (runF ps wf n) f) := by
  intro n
  induction n with
  | zero =>
    intro x f a fd prs F
    obtain ⟨st, N, qual, x', fn, e1, e2, e3, e4, e5, e6⟩ := F.ex
    have erf : rfOf ps f = fn.rf := by unfold rfOf; rw [e1]
    refine ⟨fun vs H Q E ⟨Z, ds, r, outs, ca, h, q⟩ => ?_, fun A outer s H args us vs Q E _ _ _ _ _ ⟨Z, ds, r, outs, ca, h, q⟩ => ?_⟩
    · simp only [runF] at h; cases h
    · simp only [runF] at h; cases h
  | succ n ih =>
    intro x f a fd prs F
    obtain ⟨st, N, qual, x', fn, e1, e2, e3, e4, e5, e6⟩ := F.ex
    have erf : rfOf ps f = fn.rf := by unfold rfOf; rw [e1]
    have hNl : fn.rf.length ≤ N.length := by
      have h1 := e3.pre
      have h2 := congrArg List.length h1
      rw [List.length_take] at h2
      omega
    refine fnG_of e2 e3 (fun vs H Q E ⟨Z, ds, r, outs, ca, h, q⟩ => ?_) (fun cdv A outer s H vs Q E gu hr ⟨Z, ds, r, outs, ca, h, q⟩ => ?_)
    · rw [ca.lv, erf, e4]
    · rw [erf] at ca q
      simp only [runF, e1] at h
      split at h
      · rename_i hl
        let G : Gx := ⟨K, H, fun j => if fn.rf[j]? = some true then (match vs[j]? with | some (.ref a) => some a | _ => none) else none⟩
        have c : CtxS G T (rfOf ps) (runF ps wf n) N (defScope st) (cxOf CX0 P w K mg base N qual (defScope st) a cdv A outer s H E).nox :=
          ⟨⟨rfl, e3.nd, rfl, rfl, hr.units, deeper_guards _ gu, fun y g hy => by
            obtain ⟨b, fd', prs', FA⟩ := hf y g hy
            have k0 := FA.ex
            obtain ⟨_, _, _, _, _, _, fu, _⟩ := k0
            exact ⟨n, b, fd', prs', hr, FA.mg, fu.kp, FA.binds, ih y g b fd' prs' FA⟩, hb, hc⟩, rfl, rfl, rfl, e3.kind⟩
        refine ⟨_, sound_b (wf := wf) c fn.body _ e6, ?_⟩
        obtain ⟨g0, own0⟩ := start_good (N := N) ca hNl
        rw [← e5] at h
        cases hx : execB (rfOf ps) (runF ps wf n) wf fn.body (startE fn.rf ds N.length) with
        | none => rw [hx] at h; cases h
        | some p =>
          obtain ⟨fl, env'⟩ := p
          rw [hx] at h
          refine ⟨Z, startE fn.rf ds N.length, fl, env', g0, hx, ?_⟩
          cases fl with
          | nx =>
            simp only [Option.some.injEq, Prod.mk.injEq] at h
            obtain ⟨rfl, rfl⟩ := h
            exact fun σ' H' p => q .non H' (end_post ca hNl p .non)
          | rt r' =>
            simp only [Option.some.injEq, Prod.mk.injEq] at h
            obtain ⟨rfl, rfl⟩ := h
            exact fun v σ' H' p ro => q v H' (end_post ca hNl p ro)
          | bk => cases h
          | ct => cases h
      · cases h
end
end Ofw
/-! Ofw 22: the law's row from the evaluator -/
namespace Ofw
open PySem L2
open PySem.Spec PyProof.Rows
section
variable {P : Program} {w : World} {K : PySem.W.Frag} {mg mb : Str → Option Value} {kk : Nat} {fa pl : Addr} {fd : FuncData} {px : Str} {prom : Sp} {st : Shared} {us : List Value} {zs : List Int}
/-- what the row wants of the call -/
def Wants (P : Program) (w : World) (fa pl : Addr) (st : Shared) : Prop :=
  codeAny (model P w) callerA (.call (.ref fa) ⟨[.ref pl], []⟩) (fun r s' => r = .ok (.ret (.bool true)) ∧ OldK st.heap s'.heap ∧ s'.os = st.os ∧ AllBare s'.gens) st
/-- by a view of the heap in which at most the script is told of -/
theorem wants_by (inK : K.In st.heap) (nsM : st.heap.Ns mainGlobals mg) (nsB : st.heap.Ns builtinsNs mb) (same : ∀ y : Str, y ≠ "__name__" → mb y = bootBuiltins y) (nl : st.heap.NoLimit) (ng : st.gens = #[])
    (at_ : st.heap.get? pl = some { cls := .type "list", data := .seq us.toArray }) (room : Room kk callerA) (prm : ∀ B : Heap, FnG P w K mg B kk fa fd [px] prom) (bnd : ∀ (t : Shared) (u : Value), K.In t.heap → BindsTo t fd ⟨[u], []⟩ [(px, u)])
    (V : Hp) (only : Only V) (hok : HOk P w V st.heap) (alone : ∀ b, V b ≠ none → b = pl) (free : V pl ≠ none → K.lookup pl = none) (use : prom [.ref pl] V (fun v _ => v = .bl true) E0) : Wants P w fa pl st := by
  let B := hidT st.heap V
  have dicts : ∀ {b : Addr} {o : Obj} {es : Array DictEntry} {ep : Nat}, st.heap.get? b = some o → o.data = .dict es ep → V b = none := by
    intro b o es ep e d
    refine Classical.byContradiction fun z => ?_
    obtain rfl := alone b z
    rw [at_] at e
    cases e
    cases (show Data.seq us.toArray _ = Data.dict es ep from d)
  have keepNs : ∀ {b : Addr} {m : Str → Option Value}, st.heap.Ns b m → B.Ns b m := by
    rintro b m ⟨o, es, ep, e, d, r⟩
    exact ⟨o, es, ep, hidT_get e (dicts e d), d, r⟩
  have inB : K.In B := by
    intro b o e
    refine hidT_get (inK b o e) (Classical.byContradiction fun z => ?_)
    obtain rfl := alone b z
    rw [free z] at e
    cases e
  have nlB : B.NoLimit := by
    obtain ⟨mc, q1, q2⟩ := nl
    exact ⟨mc, keepNs q1, q2⟩
  have env0 : Env0 P w K mg B callerA [] st V := {
    frames := rfl
    mod := { kin := inB, glob := keepNs nsM, blt := ⟨mb, keepNs nsB, same⟩, nolimit := nlB }
    bs := fun b o e => of_hidT e
    bsz := Nat.le_of_eq (hidT_size _ _)
    funs := trivial
    frf := fun b hb => nomatch hb
    hok := hok
    bare := .of_eq ng }
  have run := (prm B).run callerA [] st V ⟨[.ref pl], []⟩ [.ref pl] [.ref pl] (fun v _ => v = .bl true) E0 rfl room env0 (bnd st (.ref pl) inK) (.cons rfl .nil) use
  refine codeAny_mono run ?_
  intro r s' end_
  match r, end_ with
  | .error e, z => exact z.elim
  | .ok .next, z => exact z.elim
  | .ok .brk, z => exact z.elim
  | .ok .cont, z => exact z.elim
  | .ok (.ret u), z =>
    obtain ⟨v, V', os, bare, un, hok', rel, tru⟩ := z
    cases (show v = .bl true from tru)
    cases (show u = Value.bool true from rel)
    refine ⟨rfl, OldK.of_keep ?_, os, bare⟩
    intro b o e
    rcases only b with n | ⟨ob, xs, n⟩
    · exact un.keep b o e n (fun z => nomatch z) (fun z => nomatch z)
    · have old := (hok b _ n).1
      have new := (hok' b _ (un.frzs b ob _ n)).1
      rw [e] at old
      cases old
      exact new
/-- the script stands as a list of ints that nobody writes to -/
theorem wants_of (inK : K.In st.heap) (nsM : st.heap.Ns mainGlobals mg) (nsB : st.heap.Ns builtinsNs mb) (same : ∀ y : Str, y ≠ "__name__" → mb y = bootBuiltins y) (nl : st.heap.NoLimit) (ng : st.gens = #[])
    (at_ : st.heap.get? pl = some { cls := .type "list", data := .seq us.toArray }) (hin : IntsAre us zs) (short : zs.length ≤ sizeLine) (room : Room kk callerA) (prm : ∀ B : Heap, FnG P w K mg B kk fa fd [px] prom)
    (bnd : ∀ (t : Shared) (u : Value), K.In t.heap → BindsTo t fd ⟨[u], []⟩ [(px, u)]) (use : ∀ V : Hp, Only V → SqL K V pl (zs.map L2.V.int) → prom [.ref pl] V (fun v _ => v = .bl true) E0) : Wants P w fa pl st := by
  have rel := vals_ints hin
  have ln := hin.length
  cases own : K.lookup pl with
  | some o =>
    have e := inK pl o own
    rw [at_] at e
    cases e
    have sq : SqL K (fun _ => none) pl (zs.map L2.V.int) := by
      refine .inr ⟨_, us.toArray, _, own, rfl, rfl, rfl, ?_, ?_⟩
      · rw [List.size_toArray, ln]; exact short
      · rw [List.toList_toArray]; exact rel
    exact wants_by inK nsM nsB same nl ng at_ room prm bnd (fun _ => none) (fun _ => .inl rfl) (fun b u z => nomatch z) (fun b z => (z rfl).elim) (fun z => (z rfl).elim) (use _ (fun _ => .inl rfl) sq)
  | none =>
    let ob : Obj := { cls := .type "list", data := .seq us.toArray }
    let V : Hp := fun b => if b = pl then some (.frz ob (.lst (zs.map L2.V.int))) else none
    have here : V pl = some (.frz ob (.lst (zs.map L2.V.int))) := if_pos rfl
    have away : ∀ b, b ≠ pl → V b = none := fun b n => if_neg n
    have only : Only V := fun b => by
      by_cases e : b = pl
      · exact .inr ⟨ob, _, by rw [e]; exact here⟩
      · exact .inl (away b e)
    refine wants_by inK nsM nsB same nl ng at_ room prm bnd V only (fun b u z => ?_) (fun b z => Classical.byContradiction fun n => z (away b n)) (fun _ => own) (use V only (.inl (.inr ⟨ob, here⟩)))
    by_cases e : b = pl
    · subst e
      rw [here] at z
      cases z
      exact ⟨at_, by rw [List.length_map]; exact short, us, _, rel, at_⟩
    · rw [away b e] at z
      cases z
end
/-- the law's row: the evaluator gives True for every script -/
theorem walk_run {l : PySem.W.OpenLaw} {q : Program} {loose : List Str} {XP : (Str → Option Value) → Heap → Prop} {YP : World → Heap → Prop} {d : DefRec} {K : Params → PySem.W.Frag} {T : Tab} {ps : List FnD} {wf kk f : Nat} {px : Str}
    (most : l.most = some 63) (nodf : d.params.defaults = []) (room : Room kk callerA) (inY : ∀ (w : World) (h : Heap), YP w h → (K w.params).In h) (rf1 : rfOf ps f = [false])
    (texts : ∀ (w : World) (mg : Str → Option Value) (fa : Addr) (h : Heap), (K w.params).In h → h.Ns mainGlobals mg → mg d.name = some (.ref fa) →
      (∃ fd, FnAt (K w.params) mg T ps f d.name fa fd [px]) ∧ (∀ x g, T.fn x = some g → ∃ a fd prs, FnAt (K w.params) mg T ps g x a fd prs) ∧ (∀ x, T.blt.contains x = true → mg x = none) ∧
      (∀ x c, T.cst x = some c → ∃ u, mg x = some u ∧ match c with
        | .int i => ∃ t, u = .int i t
        | .str s => ∃ t, u = .str s t
        | .bool b => u = .bool b
        | _ => False))
    (tells : ∀ ns : List Int, ns.length ≤ 63 → (∀ z ∈ ns, Builtin.Int.intBits z ≤ 1048576) → runF ps wf kk f [.scr ns] = some (.val (.bl true), [none])) :
    PySem.W.WalkO q loose XP YP l.row.toRowW d [] (fun f vs => PySem.call f vs) := by
  refine Att.attach_callB most nodf ?_
  intro w s₀ s₁ mg mb fa o pm cd doc a vs ns G Y ho hd hcd hmg hobj hints hlen hbits hg
  have inK := inY w _ Y
  obtain ⟨⟨fd, F⟩, fns, blt, cst⟩ := texts w mg fa _ inK G.T.g hmg
  refine wants_of (zs := ns) inK G.T.g G.T.b G.T.builtins G.T.nolimit hg hobj hints (Nat.le_trans hlen (by decide)) room (fun B => all_fns (wf := wf) fns blt cst kk d.name f fa fd [px] F) (fun t u ht => ?_) (fun V only sq => ?_)
  · have := F.binds t [u] ht rfl
    exact this
  · have rep : Rep (K w.params) V (fun b => False ∨ isB [false] [L2.V.ref a] b) (.ref a) (.scr ns) := by
      have nB : ¬ isB [false] [L2.V.ref a] a := by
        rintro ⟨j, h1, _⟩
        match j, h1 with
        | 0, h1 => cases h1
        | j + 1, h1 => cases h1
      rcases sq with (sq | ⟨o, sq⟩) | sq
      · rcases only a with n | ⟨o, xs, n⟩
        · rw [sq] at n; cases n
        · rw [sq] at n; cases n
      · exact .scr sq (fun z => z.elim id nB)
      · exact .scrW sq
    refine ⟨fun _ => False, [.scr ns], .val (.bl true), [none], ?_, tells ns hlen hbits, fun v H' po => ?_⟩
    · rw [rf1]
      refine ⟨rfl, rfl, fun b z => z.elim, fun j v d h1 h2 h3 => ?_, fun j v d h1 => ?_, fun i j b h1 => ?_⟩
      · match j, h2, h3 with
        | 0, h2, h3 => cases h2; cases h3; exact rep
        | j + 1, h2, h3 => cases h2
      · match j, h1 with
        | 0, h1 => cases h1
        | j + 1, h1 => cases h1
      · match i, h1 with
        | 0, h1 => cases h1
        | i + 1, h1 => cases h1
    · have := po.res
      cases this.1
      rfl
/-- a def that stands in the module -/
theorem fn_at {K : PySem.W.Frag} {h : Heap} {mg : Str → Option Value} {T : Tab} {ps : List FnD} {f : Nat} {x : Str} {a : Addr} {prs N : List Str} {stm : Stmt} {fn : FnD} {od an : Option Addr} {osl : Array (Option Value)} {oc kV doc pm cdv ct : Value} (X : K.In h) (G : h.Ns mainGlobals mg)
    (ns : PySem.W.nsIn K mainGlobals x = some (some (.ref a))) (lk : K.lookup a = some ⟨oc, od, .func (PySem.W.fnOf x x (defArgs stm) (defBody stm) (defScope stm) .none kV doc pm an cdv ct), osl⟩) (cd : PySem.W.codeIn K cdv x = true) (kp : PySem.W.keepIn K (.ref a) = true)
    (bd : ∀ (kV doc pm : Value) (an : Option Addr) (cdv ct : Value) (us : List Value), us.length = prs.length → bindArgs (PySem.W.fnOf x x (defArgs stm) (defBody stm) (defScope stm) .none kV doc pm an cdv ct) ⟨us, []⟩ = pure (prs.zip us))
    (S : FnScope N prs (defScope stm)) (e : ps[f]? = some fn) (l1 : prs.length = fn.rf.length) (l2 : N.length = fn.ns) (chk : chkB T N (defScope stm) fn.body (defBody stm) = true) :
    ∃ fd, FnAt K mg T ps f x a fd prs := by
  have F := fun_mk (st := stm) lk cd kp
  exact ⟨_, ⟨stm, N, x, x, fn, e, F, S, l1, l2, chk⟩, F.binds bd, PySem.W.mg_of X G ns⟩
/-- facts about each entry of a table -/
def Each {α : Type} (p : α → Prop) : List α → Prop
  | [] => True
  | x :: r => p x ∧ Each p r
theorem Each.lookup {α β : Type} [BEq α] [LawfulBEq α] {p : α × β → Prop} : ∀ {l : List (α × β)} {x : α} {y : β}, Each p l → l.lookup x = some y → p (x, y)
  | [], x, y, _, e => by cases e
  | (a, b) :: r, x, y, h, e => by
    rw [List.lookup_cons] at e
    cases q : x == a with
    | true =>
      rw [q] at e
      cases e
      rw [eq_of_beq q]
      exact h.1
    | false =>
      rw [q] at e
      exact Each.lookup h.2 e
theorem Each.mem {α : Type} {p : α → Prop} : ∀ {l : List α} {x : α}, Each p l → x ∈ l → p x
  | a :: r, x, h, e => by
    rcases List.mem_cons.mp e with e | e
    · subst e; exact h.1
    · exact Each.mem h.2 e
end Ofw
/-! Ofw 23: loops and texts of the evaluator -/
namespace Ofw
open PySem L2
/-- a loop that goes through all -/
theorem forLoop_nx {f : D → En → Option (Fl × En)} (P : Nat → En → Prop) : ∀ (its : List D) (k : Nat) (env : En), (∀ i d en, its[i]? = some d → P (k + i) en → ∃ en', f d en = some (.nx, en') ∧ P (k + i + 1) en') → P k env →
    ∃ env', forLoop f its env = some (.nx, env') ∧ P (k + its.length) env'
  | [], k, env, _, h => ⟨env, rfl, h⟩
  | d :: ds, k, env, st, h => by
    obtain ⟨e1, h1, h2⟩ := st 0 d env rfl h
    obtain ⟨e2, h3, h4⟩ := forLoop_nx P ds (k + 1) e1 (fun i d' en hi hp => by
      have := st (i + 1) d' en (by simpa using hi) (by rw [show k + (i + 1) = k + 1 + i by omega]; exact hp)
      rw [show k + (i + 1) + 1 = k + 1 + i + 1 by omega] at this
      exact this) h2
    refine ⟨e2, ?_, by rw [List.length_cons, show k + (ds.length + 1) = k + 1 + ds.length by omega]; exact h4⟩
    simp only [forLoop, h1, h3]
/-- .. with the same told at every turn -/
theorem forLoop_inv {f : D → En → Option (Fl × En)} (P : En → Prop) (its : List D) (env : En) (st : ∀ d en, d ∈ its → P en → ∃ en', f d en = some (.nx, en') ∧ P en') (h : P env) : ∃ env', forLoop f its env = some (.nx, env') ∧ P env' :=
  forLoop_nx (fun _ => P) its 0 env (fun i d en hi hp => st d en (List.mem_of_getElem? hi) hp) h
theorem lcLoop_nx {f : D → En → Option (Option D × En)} (P : Nat → En → Prop) (Q : D → Prop) : ∀ (its : List D) (k : Nat) (env : En), (∀ i d en, its[i]? = some d → P (k + i) en → ∃ o en', f d en = some (some o, en') ∧ Q o ∧ P (k + i + 1) en') → P k env →
    ∃ out env', lcLoop f its env = some (out, env') ∧ (∀ x ∈ out, Q x) ∧ out.length = its.length ∧ P (k + its.length) env'
  | [], k, env, _, h => ⟨[], env, rfl, by simp, rfl, h⟩
  | d :: ds, k, env, st, h => by
    obtain ⟨o, e1, h1, hq, h2⟩ := st 0 d env rfl h
    obtain ⟨out, e2, h3, hqs, hl, h4⟩ := lcLoop_nx P Q ds (k + 1) e1 (fun i d' en hi hp => by
      have := st (i + 1) d' en (by simpa using hi) (by rw [show k + (i + 1) = k + 1 + i by omega]; exact hp)
      rw [show k + (i + 1) + 1 = k + 1 + i + 1 by omega] at this
      exact this) h2
    refine ⟨o :: out, e2, by simp only [lcLoop, h1, h3]; rfl, fun x hx => ?_, by simp [hl], by rw [List.length_cons, show k + (ds.length + 1) = k + 1 + ds.length by omega]; exact h4⟩
    rcases List.mem_cons.mp hx with e | e
    · rw [e]; exact hq
    · exact hqs x e
/-- some left out -/
theorem lcLoop_le {f : D → En → Option (Option D × En)} (P : Nat → En → Prop) (Q : D → Prop) : ∀ (its : List D) (k : Nat) (env : En), (∀ i d en, its[i]? = some d → P (k + i) en → ∃ o en', f d en = some (o, en') ∧ (∀ x, o = some x → Q x) ∧ P (k + i + 1) en') → P k env →
    ∃ out env', lcLoop f its env = some (out, env') ∧ (∀ x ∈ out, Q x) ∧ out.length ≤ its.length ∧ P (k + its.length) env'
  | [], k, env, _, h => ⟨[], env, rfl, by simp, Nat.le_refl _, h⟩
  | d :: ds, k, env, st, h => by
    obtain ⟨o, e1, h1, hq, h2⟩ := st 0 d env rfl h
    obtain ⟨out, e2, h3, hqs, hl, h4⟩ := lcLoop_le P Q ds (k + 1) e1 (fun i d' en hi hp => by
      have := st (i + 1) d' en (by simpa using hi) (by rw [show k + (i + 1) = k + 1 + i by omega]; exact hp)
      rw [show k + (i + 1) + 1 = k + 1 + i + 1 by omega] at this
      exact this) h2
    refine ⟨o.toList ++ out, e2, by simp only [lcLoop, h1, h3], fun x hx => ?_, ?_, by rw [List.length_cons, show k + (ds.length + 1) = k + 1 + ds.length by omega]; exact h4⟩
    · rcases List.mem_append.mp hx with e | e
      · cases o with
        | none => simp at e
        | some y => simp at e; rw [e]; exact hq y rfl
      · exact hqs x e
    · cases o <;> simp <;> omega
/-- by a function -/
theorem lcLoop_map {f : D → En → Option (Option D × En)} (g : D → Option D) (env : En) : ∀ (its : List D), (∀ d ∈ its, f d env = some (g d, env)) → lcLoop f its env = some (its.filterMap g, env)
  | [], _ => rfl
  | d :: ds, h => by
    have h1 := h d (List.mem_cons_self)
    have h2 := lcLoop_map g env ds fun x hx => h x (List.mem_cons_of_mem _ hx)
    simp only [lcLoop, h1, h2]
    cases e : g d <;> simp [List.filterMap_cons, e]
theorem rngD_get {lo hi : Int} {i : Nat} {d : D} (h : (rngD lo hi)[i]? = some d) : d = .int (lo + (i : Int)) ∧ lo + (i : Int) < hi := by
  unfold rngD at h
  rw [List.getElem?_map] at h
  cases e : (List.range (hi - lo).toNat)[i]? with
  | none => rw [e] at h; cases h
  | some k =>
    rw [e] at h
    have hl : i < (hi - lo).toNat := by
      have := (List.getElem?_eq_some_iff.mp e).1
      simpa using this
    rw [List.getElem?_range hl] at e
    cases e
    cases h
    exact ⟨rfl, by omega⟩
theorem rngD_mem {lo hi : Int} {d : D} (h : d ∈ rngD lo hi) : ∃ i, d = .int i ∧ lo ≤ i ∧ i < hi := by
  obtain ⟨i, hi⟩ := List.getElem?_of_mem h
  obtain ⟨e, h2⟩ := rngD_get hi
  exact ⟨_, e, by omega, h2⟩
/-- an index within -/
theorem ix_in {α : Type} {xs : List α} {i : Int} (h0 : 0 ≤ i) (h1 : i < xs.length) : ∃ x, ixD xs i = some x ∧ x ∈ xs := by
  have hi : i.toNat < xs.length := by omega
  refine ⟨xs[i.toNat], ?_, List.getElem_mem hi⟩
  unfold ixD atI ixN
  rw [if_pos h0, if_pos h1]
  simp [hi]
theorem log2_lt {m : Int} (h0 : 0 < m) (h1 : m < 2 ^ 64) : m.natAbs.log2 < 9000 := by
  have : m.natAbs < 2 ^ 64 := by omega
  have h2 : m.natAbs ≠ 0 := by omega
  have := (Nat.log2_lt h2).mpr this
  omega
/-! ### texts: short, of signs that are there -/
def Tx (k : Nat) (x : Str) : Prop := x.length ≤ k ∧ PyData.strOk x = true
theorem tx_iff {k : Nat} {x : Str} : Tx k x ↔ x.cps.toList.length ≤ k ∧ ∀ c ∈ x.cps.toList, c < 0x110000 := by
  unfold Tx PyData.strOk Str.length
  rw [← Array.all_toList, List.all_eq_true]
  simp only [Array.length_toList, decide_eq_true_eq]
theorem Tx.mono {j k : Nat} {x : Str} (h : Tx j x) (l : j ≤ k) : Tx k x := ⟨Nat.le_trans h.1 l, h.2⟩
theorem Tx.app {j k : Nat} {x y : Str} (hx : Tx j x) (hy : Tx k y) : Tx (j + k) (x ++ y) := by
  rw [tx_iff] at hx hy ⊢
  have e : (x ++ y).cps.toList = x.cps.toList ++ y.cps.toList := by
    show (x.cps ++ y.cps).toList = _
    simp
  rw [e, List.length_append]
  refine ⟨by omega, fun c hc => ?_⟩
  rcases List.mem_append.mp hc with q | q
  · exact hx.2 c q
  · exact hy.2 c q
theorem Tx.cut {k : Nat} {x : Str} (hx : Tx k x) (lo hi : Option Int) : Tx k ⟨(cutD x.cps.toList lo hi).toArray⟩ := by
  rw [tx_iff] at hx ⊢
  simp only [List.toList_toArray]
  unfold cutD
  refine ⟨?_, fun c hc => hx.2 c (List.mem_of_mem_drop (List.mem_of_mem_take hc))⟩
  rw [List.length_take, List.length_drop]
  omega
theorem Tx.char {k : Nat} {x : Str} (hx : Tx k x) {c : Nat} (hc : c ∈ x.cps.toList) : Tx 1 ⟨#[c]⟩ := by
  rw [tx_iff] at hx ⊢
  refine ⟨by simp, fun d hd => ?_⟩
  simp at hd
  rw [hd]
  exact hx.2 c hc
theorem Tx.rep {x : Str} {j : Nat} (hx : Tx j x) (n : Nat) : Tx (j * n) (repS x n) := by
  have hs : ∀ (n : Nat) (acc : Array Nat), (∀ c ∈ acc.toList, c < 0x110000) → ∀ c ∈ ((List.replicate n x.cps).foldl (· ++ ·) acc).toList, c < 0x110000 := fun n => by
    induction n with
    | zero => intro acc ha; exact ha
    | succ n ih =>
      intro acc ha
      rw [List.replicate_succ, List.foldl_cons]
      refine ih _ fun c hc => ?_
      rw [Array.toList_append] at hc
      rcases List.mem_append.mp hc with q | q
      · exact ha c q
      · exact (tx_iff.mp hx).2 c q
  refine ⟨by rw [repS_len]; exact Nat.mul_le_mul_right _ hx.1, (tx_iff.mpr ⟨Nat.le_refl _, hs n #[] (by simp)⟩ : Tx _ (repS x n)).2⟩
theorem Tx.join0 {k : Nat} : ∀ {ys : List Str}, (∀ y ∈ ys, Tx k y) → Tx (k * ys.length) (Txt.join "" ys) := by
  intro ys h
  have e : ∀ ys : List Str, (∀ y ∈ ys, Tx k y) → Tx (k * ys.length) (Str.join "" ys) := fun ys => by
    induction ys with
    | nil => intro _; exact ⟨Nat.zero_le _, by decide +kernel⟩
    | cons y r ih =>
      intro h
      cases r with
      | nil => exact (h y List.mem_cons_self).mono (by simp)
      | cons z r =>
        show Tx _ (y ++ "" ++ Str.join "" (z :: r))
        have h1 := h y List.mem_cons_self
        have h2 := ih fun w hw => h w (List.mem_cons_of_mem _ hw)
        have h3 : Tx 0 ("" : Str) := ⟨by decide +kernel, by decide +kernel⟩
        refine ((h1.app h3).app h2).mono ?_
        rw [List.length_cons (a := y), Nat.mul_succ]
        omega
  show Tx _ (Builtin.Str.glued "" ys)
  rw [StrLaws.glued_eq_join]
  exact e ys h
theorem tx_sum {k : Nat} : ∀ {ys : List Str}, (∀ y ∈ ys, Tx k y) → (ys.map (·.length)).sum ≤ k * ys.length
  | [], _ => by simp
  | y :: r, h => by
    have h1 := (h y List.mem_cons_self).1
    have h2 := tx_sum (k := k) fun w hw => h w (List.mem_cons_of_mem _ hw)
    rw [List.map_cons, List.sum_cons, List.length_cons, Nat.mul_succ]
    omega
/-- texts among data -/
def IsTx (k : Nat) (d : D) : Prop := ∃ x, d = .str x ∧ Tx k x
theorem strs_of {k : Nat} : ∀ {ds : List D}, (∀ d ∈ ds, IsTx k d) → ∃ ys : List Str, ds = ys.map D.str ∧ strsD ds = some ys ∧ ∀ y ∈ ys, Tx k y
  | [], _ => ⟨[], rfl, rfl, by simp⟩
  | d :: ds, h => by
    obtain ⟨x, rfl, hx⟩ := h d List.mem_cons_self
    obtain ⟨ys, rfl, e, hy⟩ := strs_of (ds := ds) fun w hw => h w (List.mem_cons_of_mem _ hw)
    refine ⟨x :: ys, rfl, by simp [strsD, e], fun y hm => ?_⟩
    rcases List.mem_cons.mp hm with q | q
    · rw [q]; exact hx
    · exact hy y q
/-- how a def's body ends -/
def fin (rf : List Bool) (r : Option (Fl × En)) : Option (Rs × List (Option D)) := match r with
  | some (.rt r, env) => some (r, outsOf rf env)
  | some (.nx, env) => some (.val .non, outsOf rf env)
  | _ => none
theorem run_fn {ps : List FnD} {wf n f : Nat} {fd : FnD} {ds : List D} (h : ps[f]? = some fd) (hl : ds.length = fd.rf.length) :
    runF ps wf (n + 1) f ds = fin fd.rf (execB (rfOf ps) (runF ps wf n) wf fd.body (startE fd.rf ds fd.ns)) := by
  simp only [runF, h, hl, if_true]
  rfl
end Ofw
namespace Ofw
theorem ix_nat {α : Type} {l : List α} {x : α} (k : Nat) (h : l[k]? = some x) : ixD l (k : Int) = some x := by
  have hk : k < l.length := (List.getElem?_eq_some_iff.mp h).1
  unfold ixD L2.atI L2.ixN
  rw [if_pos (by omega), if_pos (by omega)]
  simpa using h
theorem ix0 {α : Type} (x : α) (r : List α) : ixD (x :: r) 0 = some x := ix_nat 0 rfl
theorem ix1 {α : Type} (x y : α) (r : List α) : ixD (x :: y :: r) 1 = some y := ix_nat 1 rfl
theorem ix2 {α : Type} (x y z : α) (r : List α) : ixD (x :: y :: z :: r) 2 = some z := ix_nat 2 rfl
theorem range1 : List.range 1 = [0] := rfl
theorem range2 : List.range 2 = [0, 1] := rfl
theorem range3 : List.range 3 = [0, 1, 2] := rfl
end Ofw
namespace Ofw
open PySem L2
section
variable (rf : Nat → List Bool) (C : CallT) (wf : Nat)
theorem eVar (i : Nat) (env : En) : evalE rf C (.var i) env = (match env[i]? with
    | some (.val d) => some (.val d, env)
    | some (.own d) => some (.val d, env.set i (.val d))
    | _ => none) := by simp only [evalE] <;> rfl
theorem eLit (c : Const) (env : En) : evalE rf C (.lit c) env = (litD c).map fun d => (.val d, env) := by simp only [evalE] <;> rfl
theorem eGlob (x : Str) (d : D) (env : En) : evalE rf C (.glob x d) env = some (.val d, env) := by simp only [evalE] <;> rfl
theorem eOp (t : Tag) (as : List Ex) (env : En) : evalE rf C (.op t as) env = (match evalAs rf C as env with
    | some (xs, env1) => applyT rf C t xs env1
    | none => none) := by simp only [evalE] <;> rfl
theorem eNot (a : Ex) (env : En) : evalE rf C (.not a) env = (match evalE rf C a env with
    | some (r, env1) => (truD r.d).map fun b => (.val (.bl (!b)), env1)
    | none => none) := by simp only [evalE] <;> rfl
theorem eAnd (as : List Ex) (env : En) : evalE rf C (.and as) env = evalAnd rf C as env := by simp only [evalE] <;> rfl
theorem eOr (as : List Ex) (env : En) : evalE rf C (.or as) env = evalOr rf C as env := by simp only [evalE] <;> rfl
theorem eIfe (c a b : Ex) (env : En) : evalE rf C (.ife c a b) env = (match evalE rf C c env with
    | some (r, env1) => match truD r.d with
      | some true => evalE rf C a env1
      | some false => evalE rf C b env1
      | none => none
    | none => none) := by simp only [evalE] <;> rfl
theorem eChain (p q : CmpOp) (a b c : Ex) (env : En) : evalE rf C (.chain p q a b c) env = (match evalE rf C a env with
    | some (ra, env1) => match evalE rf C b env1 with
      | some (rb, env2) => match cmpD p ra.d rb.d with
        | some true => match evalE rf C c env2 with
          | some (rc, env3) => (cmpD q rb.d rc.d).map fun k => (.val (.bl k), env3)
          | none => none
        | some false => some (.val (.bl false), env2)
        | none => none
      | none => none
    | none => none) := by simp only [evalE] <;> rfl
theorem aNil (env : En) : evalAs rf C [] env = some ([], env) := by simp only [evalAs] <;> rfl
theorem aPeek (i : Nat) (as : List Ex) (env : En) : evalAs rf C (.peek i :: as) env = (match env[i]? with
    | some .emp => none
    | none => none
    | some _ => match evalAs rf C as env with
      | some (xs, env2) => some (.r i :: xs, env2)
      | none => none) := by simp only [evalAs] <;> rfl
theorem aCons (a : Ex) (as : List Ex) (env : En) (h : notPeek a = true) : evalAs rf C (a :: as) env = (match evalE rf C a env with
    | some (r, env1) => match evalAs rf C as env1 with
      | some (xs, env2) => some (.v r.d :: xs, env2)
      | none => none
    | none => none) := evalAs_cons fun i e => by subst e; cases h
theorem sIfe (c : Ex) (a b : List Sx) (env : En) : execS rf C wf (.ife c a b) env = evIfS rf C c (execB rf C wf a) (execB rf C wf b) env := by simp only [execS] <;> rfl
theorem sAsg (i : Nat) (e : Ex) (env : En) : execS rf C wf (.asg i e) env = evAsg rf C i e env := by simp only [execS] <;> rfl
theorem sAsgT (i : List Nat) (e : Ex) (env : En) : execS rf C wf (.asgT i e) env = evAsgT rf C i e env := by simp only [execS] <;> rfl
theorem sPar (i : List Nat) (e : List Ex) (env : En) : execS rf C wf (.par i e) env = evPar rf C i e env := by simp only [execS] <;> rfl
theorem sSeti (i : Nat) (k e : Ex) (env : En) : execS rf C wf (.seti i k e) env = evSeti rf C i k e env := by simp only [execS] <;> rfl
theorem sAug (i : Nat) (o : Operator) (e : Ex) (env : En) : execS rf C wf (.aug i o e) env = evAug rf C i o e env := by simp only [execS] <;> rfl
theorem sApp (i : Nat) (e : Ex) (env : En) : execS rf C wf (.app i e) env = evApp rf C i e env := by simp only [execS] <;> rfl
theorem sExt (i : Nat) (e : Ex) (env : En) : execS rf C wf (.ext i e) env = evExt rf C i e env := by simp only [execS] <;> rfl
theorem sPop (i j : Nat) (env : En) : execS rf C wf (.popA i j) env = evPop i j env := by simp only [execS] <;> rfl
theorem sDrop (e : Ex) (env : En) : execS rf C wf (.drop e) env = evDrop rf C e env := by simp only [execS] <;> rfl
theorem sRet (e : Ex) (env : En) : execS rf C wf (.ret e) env = evRet rf C e env := by simp only [execS] <;> rfl
theorem sRetN (env : En) : execS rf C wf .retN env = some (.rt (.val .non), env) := by simp only [execS] <;> rfl
theorem sPass (env : En) : execS rf C wf .pass env = some (.nx, env) := by simp only [execS] <;> rfl
theorem sBrk (env : En) : execS rf C wf .brk env = some (.bk, env) := by simp only [execS] <;> rfl
theorem sCont (env : En) : execS rf C wf .cont env = some (.ct, env) := by simp only [execS] <;> rfl
theorem bNil (env : En) : execB rf C wf [] env = some (.nx, env) := by simp only [execB]
theorem bCons (s : Sx) (ss : List Sx) (env : En) : execB rf C wf (s :: ss) env = evSeq (execS rf C wf s) (execB rf C wf ss) env := by simp only [execB]
/-- a comprehension's turn -/
def lcTurn (elt : Ex) (tg : Tg) (ifs : List Ex) (vs : List Nat) (d : D) (en : En) : Option (Option D × En) := match bindT tg d en with
  | some en1 => match evalIfs rf C ifs en1 with
    | some (true, en2) => match evalE rf C elt en2 with
      | some (r, en3) => if plainSlots en3 vs then some (some r.d, wipeE en3 vs) else none
      | none => none
    | some (false, en2) => if plainSlots en2 vs then some (none, wipeE en2 vs) else none
    | none => none
  | none => none
end
section
variable {rf : Nat → List Bool} {C : CallT} {wf : Nat}
theorem lc_eq {elt : Ex} {tg : Tg} {k : ItK} {src ifs : List Ex} {vs : List Nat} {env env1 env2 : En} {xs : List Av1} {ds its out : List D} (h1 : evalAs rf C src env = some (xs, env1)) (h2 : valsOf xs = some ds) (h3 : itemsD k ds = some its) (h4 : plainSlots env1 vs = true) (h5 : its.length < sizeLine)
    (h6 : lcLoop (lcTurn rf C elt tg ifs vs) its (wipeE env1 vs) = some (out, env2)) : evalE rf C (.lc elt tg k src ifs vs) env = some (.fr (.lst out), backE env1 env2 vs) := by
  have e : ∀ z : Option (List D × En), z = some (out, env2) → (match z with
      | some (out, env2) => some (Rs.fr (.lst out), backE env1 env2 vs)
      | none => none) = some (.fr (.lst out), backE env1 env2 vs) := fun z hz => by rw [hz]
  simp only [evalE, h1, h2, h3, h4, h5, decide_true, Bool.and_self, if_true]
  exact e _ h6
theorem for_eq {tg : Tg} {k : ItK} {src : List Ex} {body : List Sx} {env env1 : En} {xs : List Av1} {ds its : List D} (h1 : evalAs rf C src env = some (xs, env1)) (h2 : valsOf xs = some ds) (h3 : itemsD k ds = some its) :
    execS rf C wf (.for_ tg k src body) env = forLoop (fun d en => (bindT tg d en).bind (execB rf C wf body)) its env1 := by
  simp only [execS, evFor, h1, h2, h3]
end
end Ofw
namespace Ofw
open PySem L2
section
variable (rf : Nat → List Bool) (C : CallT)
theorem aVar (i : Nat) (as : List Ex) (env : En) : evalAs rf C (.var i :: as) env = (match evalE rf C (.var i) env with
    | some (r, env1) => match evalAs rf C as env1 with
      | some (xs, env2) => some (.v r.d :: xs, env2)
      | none => none
    | none => none) := aCons rf C _ _ _ rfl
theorem aLit (c : Const) (as : List Ex) (env : En) : evalAs rf C (.lit c :: as) env = (match evalE rf C (.lit c) env with
    | some (r, env1) => match evalAs rf C as env1 with
      | some (xs, env2) => some (.v r.d :: xs, env2)
      | none => none
    | none => none) := aCons rf C _ _ _ rfl
theorem aGlob (x : Str) (d : D) (as : List Ex) (env : En) : evalAs rf C (.glob x d :: as) env = (match evalE rf C (.glob x d) env with
    | some (r, env1) => match evalAs rf C as env1 with
      | some (xs, env2) => some (.v r.d :: xs, env2)
      | none => none
    | none => none) := aCons rf C _ _ _ rfl
theorem aOp (t : Tag) (a : List Ex) (as : List Ex) (env : En) : evalAs rf C (.op t a :: as) env = (match evalE rf C (.op t a) env with
    | some (r, env1) => match evalAs rf C as env1 with
      | some (xs, env2) => some (.v r.d :: xs, env2)
      | none => none
    | none => none) := aCons rf C _ _ _ rfl
theorem aNot (a : Ex) (as : List Ex) (env : En) : evalAs rf C (.not a :: as) env = (match evalE rf C (.not a) env with
    | some (r, env1) => match evalAs rf C as env1 with
      | some (xs, env2) => some (.v r.d :: xs, env2)
      | none => none
    | none => none) := aCons rf C _ _ _ rfl
theorem aAnd (a : List Ex) (as : List Ex) (env : En) : evalAs rf C (.and a :: as) env = (match evalE rf C (.and a) env with
    | some (r, env1) => match evalAs rf C as env1 with
      | some (xs, env2) => some (.v r.d :: xs, env2)
      | none => none
    | none => none) := aCons rf C _ _ _ rfl
theorem aOr (a : List Ex) (as : List Ex) (env : En) : evalAs rf C (.or a :: as) env = (match evalE rf C (.or a) env with
    | some (r, env1) => match evalAs rf C as env1 with
      | some (xs, env2) => some (.v r.d :: xs, env2)
      | none => none
    | none => none) := aCons rf C _ _ _ rfl
theorem aIfe (a b c : Ex) (as : List Ex) (env : En) : evalAs rf C (.ife a b c :: as) env = (match evalE rf C (.ife a b c) env with
    | some (r, env1) => match evalAs rf C as env1 with
      | some (xs, env2) => some (.v r.d :: xs, env2)
      | none => none
    | none => none) := aCons rf C _ _ _ rfl
theorem aChain (p q : CmpOp) (a b c : Ex) (as : List Ex) (env : En) : evalAs rf C (.chain p q a b c :: as) env = (match evalE rf C (.chain p q a b c) env with
    | some (r, env1) => match evalAs rf C as env1 with
      | some (xs, env2) => some (.v r.d :: xs, env2)
      | none => none
    | none => none) := aCons rf C _ _ _ rfl
end
end Ofw
namespace Ofw
open PySem L2
section
variable {rf : Nat → List Bool} {C : CallT} {wf : Nat}
theorem lc_run {ex elt : Ex} {tg : Tg} {k : ItK} {src ifs : List Ex} {vs : List Nat} (hx : ex = .lc elt tg k src ifs vs) (env env1 : En) {xs : List Av1} {ds : List D} (its : List D) (P : Nat → En → Prop) (Q : D → Prop) (h1 : evalAs rf C src env = some (xs, env1)) (h2 : valsOf xs = some ds) (h3 : itemsD k ds = some its)
    (h4 : plainSlots env1 vs = true) (h5 : its.length < sizeLine) (h0 : P 0 (wipeE env1 vs)) (step : ∀ i d en, its[i]? = some d → P i en → ∃ o en', lcTurn rf C elt tg ifs vs d en = some (some o, en') ∧ Q o ∧ P (i + 1) en') :
    ∃ out env2, evalE rf C ex env = some (.fr (.lst out), backE env1 env2 vs) ∧ (∀ x ∈ out, Q x) ∧ out.length = its.length ∧ P its.length env2 := by
  subst hx
  obtain ⟨out, en, e1, hq, hl, hp⟩ := lcLoop_nx (f := lcTurn rf C elt tg ifs vs) P Q its 0 (wipeE env1 vs) (fun i d en hi hp => by rw [Nat.zero_add] at hp ⊢; exact step i d en hi hp) h0
  rw [Nat.zero_add] at hp
  exact ⟨out, en, lc_eq h1 h2 h3 h4 h5 e1, hq, hl, hp⟩
/-- with some left out -/
theorem lc_le {ex elt : Ex} {tg : Tg} {k : ItK} {src ifs : List Ex} {vs : List Nat} (hx : ex = .lc elt tg k src ifs vs) (env env1 : En) {xs : List Av1} {ds : List D} (its : List D) (P : Nat → En → Prop) (Q : D → Prop) (h1 : evalAs rf C src env = some (xs, env1)) (h2 : valsOf xs = some ds) (h3 : itemsD k ds = some its)
    (h4 : plainSlots env1 vs = true) (h5 : its.length < sizeLine) (h0 : P 0 (wipeE env1 vs)) (step : ∀ i d en, its[i]? = some d → P i en → ∃ o en', lcTurn rf C elt tg ifs vs d en = some (o, en') ∧ (∀ x, o = some x → Q x) ∧ P (i + 1) en') :
    ∃ out env2, evalE rf C ex env = some (.fr (.lst out), backE env1 env2 vs) ∧ (∀ x ∈ out, Q x) ∧ out.length ≤ its.length ∧ P its.length env2 := by
  subst hx
  obtain ⟨out, en, e1, hq, hl, hp⟩ := lcLoop_le (f := lcTurn rf C elt tg ifs vs) P Q its 0 (wipeE env1 vs) (fun i d en hi hp => by rw [Nat.zero_add] at hp ⊢; exact step i d en hi hp) h0
  rw [Nat.zero_add] at hp
  exact ⟨out, en, lc_eq h1 h2 h3 h4 h5 e1, hq, hl, hp⟩
/-- by a function of the items alone -/
theorem lc_map {ex elt : Ex} {tg : Tg} {k : ItK} {src ifs : List Ex} {vs : List Nat} (hx : ex = .lc elt tg k src ifs vs) (env env1 : En) {xs : List Av1} {ds : List D} (its : List D) (g : D → Option D) (h1 : evalAs rf C src env = some (xs, env1)) (h2 : valsOf xs = some ds) (h3 : itemsD k ds = some its)
    (h4 : plainSlots env1 vs = true) (h5 : its.length < sizeLine) (step : ∀ d ∈ its, lcTurn rf C elt tg ifs vs d (wipeE env1 vs) = some (g d, wipeE env1 vs)) :
    evalE rf C ex env = some (.fr (.lst (its.filterMap g)), backE env1 (wipeE env1 vs) vs) := by
  subst hx
  exact lc_eq h1 h2 h3 h4 h5 (lcLoop_map g _ its step)
/-- a loop's turn -/
def loTurn (rf : Nat → List Bool) (C : CallT) (wf : Nat) (tg : Tg) (body : List Sx) (d : D) (en : En) : Option (Fl × En) := (bindT tg d en).bind (execB rf C wf body)
theorem for_run {sx : Sx} {tg : Tg} {k : ItK} {src : List Ex} {body : List Sx} (hx : sx = .for_ tg k src body) (env env1 : En) {xs : List Av1} {ds : List D} (its : List D) (P : Nat → En → Prop) (h1 : evalAs rf C src env = some (xs, env1)) (h2 : valsOf xs = some ds) (h3 : itemsD k ds = some its)
    (h0 : P 0 env1) (step : ∀ i d en, its[i]? = some d → P i en → ∃ en', loTurn rf C wf tg body d en = some (.nx, en') ∧ P (i + 1) en') : ∃ env', execS rf C wf sx env = some (.nx, env') ∧ P its.length env' := by
  subst hx
  obtain ⟨en, e1, hp⟩ := forLoop_nx (f := loTurn rf C wf tg body) P its 0 env1 (fun i d en hi hp => by rw [Nat.zero_add] at hp ⊢; exact step i d en hi hp) h0
  rw [Nat.zero_add] at hp
  exact ⟨en, (for_eq h1 h2 h3).trans e1, hp⟩
end
end Ofw
namespace Ofw
open PySem L2
section
variable (rf : Nat → List Bool) (C : CallT)
theorem tVar' (i : Nat) (env : En) : evalRet rf C (.var i) env = (match env[i]? with
    | some (.own d) => some (.fr d, env.set i .emp)
    | _ => evalE rf C (.var i) env) := rfl
theorem tLit' (c : Const) (env : En) : evalRet rf C (.lit c) env = evalE rf C (.lit c) env := rfl
theorem tGlob' (x : Str) (d : D) (env : En) : evalRet rf C (.glob x d) env = evalE rf C (.glob x d) env := rfl
theorem tOp' (t : Tag) (as : List Ex) (env : En) : evalRet rf C (.op t as) env = evalE rf C (.op t as) env := rfl
theorem tNot' (a : Ex) (env : En) : evalRet rf C (.not a) env = evalE rf C (.not a) env := rfl
theorem tAnd' (a : List Ex) (env : En) : evalRet rf C (.and a) env = evalE rf C (.and a) env := rfl
theorem tOr' (a : List Ex) (env : En) : evalRet rf C (.or a) env = evalE rf C (.or a) env := rfl
theorem tIfe' (a b c : Ex) (env : En) : evalRet rf C (.ife a b c) env = evalE rf C (.ife a b c) env := rfl
theorem tChain' (p q : CmpOp) (a b c : Ex) (env : En) : evalRet rf C (.chain p q a b c) env = evalE rf C (.chain p q a b c) env := rfl
end
end Ofw
namespace Lk11
open PySem L2 Ofw
def top (i : Nat) : Stmt := PySem.Challenge.pw_officewords_k11_worths_of_kinds.main.body.getD i (.Pass ⟨0, 0, 0, 0⟩)
/-- is_whole: 0 thing -/
def f0 : FnD := ⟨[false], 1, [
    .ret (.and [.op (.isi .int) [.peek 0], .not (.op (.isi .bool) [.peek 0])])]⟩
/-- is_between: 0 thing, 1 least, 2 most -/
def f1 : FnD := ⟨[false, false, false], 3, [
    .ret (.and [.op (.call 0) [.var 0], .chain .LtE .LtE (.var 1) (.var 0) (.var 2)])]⟩
/-- fits: 0 kind, 1 thing -/
def f2 : FnD := ⟨[false, false], 2, [
    .ife (.op (.cmp .Eq) [.op .idx [.peek 0, .lit (.int 0)], .lit (.str "yesno")]) [.ret (.op (.isi .bool) [.peek 1])] [],
    .ife (.op (.cmp .Eq) [.op .idx [.peek 0, .lit (.int 0)], .lit (.str "word")]) [.ret (.and [.op (.isi .str) [.peek 1], .op (.cmp .In) [.peek 1, .op .idx [.peek 0, .lit (.int 1)]]])] [],
    .ret (.op (.call 1) [.var 1, .op .idx [.peek 0, .lit (.int 1)], .op .idx [.peek 0, .lit (.int 2)]])]⟩
/-- _law_hand: 0 _law_script, 1 _law_k, 2 _law_cell -/
def f3 : FnD := ⟨[false, false], 3, [
    .asg 2 (.lit (.int 0)),
    .ife (.op (.cmp .Lt) [.peek 1, .op .len [.peek 0]]) [.asg 2 (.op .idx [.peek 0, .peek 1])] [],
    .ret (.op .lst [.op (.bin .Mult) [.peek 2, .op .int1 [.op (.cmp .GtE) [.peek 2, .op (.bin .Pow) [.lit (.int 10), .lit (.int 18)]]]], .op (.bin .Add) [.op (.bin .Add) [.op (.bin .Mod) [.peek 2, .lit (.int 2305843009213693951)], .op (.bin .Mult) [.lit (.int 7919), .peek 1]], .lit (.int 3)], .lit (.int 0)])]⟩
/-- _law_take: 0 _law_hand_here, 1 _law_many, 2 _law_turn, 3 _law_by, 4 _law_mixed, 5 _law_other, 6 _law_digit -/
def f4 : FnD := ⟨[true, false], 7, [
    .ife (.op (.cmp .Gt) [.op .idx [.peek 0, .lit (.int 0)], .lit (.int 0)]) [.asg 6 (.op (.bin .Mod) [.op .idx [.peek 0, .lit (.int 0)], .peek 1]), .seti 0 (.lit (.int 0)) (.op (.bin .FloorDiv) [.op .idx [.peek 0, .lit (.int 0)], .peek 1]), .ret (.var 6)] [],
    .seti 0 (.lit (.int 2)) (.op (.bin .Add) [.op .idx [.peek 0, .lit (.int 2)], .lit (.int 1)]),
    .asg 2 (.op .idx [.peek 0, .lit (.int 2)]),
    .asg 3 (.op (.bin .Add) [.op (.bin .Add) [.lit (.int 48271), .op (.bin .Mult) [.op (.bin .Mult) [.lit (.int 2), .peek 2], .peek 2]], .op (.bin .Mult) [.lit (.int 65537), .peek 2]]),
    .asg 4 (.op (.bin .Mod) [.op (.bin .Mult) [.op (.bin .Add) [.op .idx [.peek 0, .lit (.int 1)], .op (.bin .Mult) [.lit (.int 1299709), .peek 2]], .peek 3], .lit (.int 2305843009213693921)]),
    .asg 5 (.op (.bin .Add) [.op (.bin .Add) [.op (.bin .Mod) [.peek 4, .lit (.int 1000003)], .op (.bin .Mult) [.peek 2, .lit (.int 99991)]], .lit (.int 11)]),
    .asg 4 (.op (.bin .Mod) [.op (.bin .Mult) [.peek 4, .peek 5], .lit (.int 2305843009213693907)]),
    .ret (.op (.bin .Mod) [.op (.bin .Add) [.op (.bin .FloorDiv) [.peek 4, .lit (.int 97)], .op (.bin .FloorDiv) [.peek 4, .lit (.int 1000033)]], .peek 1])]⟩
/-- _law_of: 0 _law_hand_here, 1 _law_some -/
def f5 : FnD := ⟨[true, false], 2, [
    .ret (.op .idx [.peek 1, .op (.call 4) [.peek 0, .op .len [.peek 1]]])]⟩
/-- _law_names: 0 _law_hand_here, 1 _law_many, 2 _law_letters, 3 _law_shut, 4 _law_stem, 5 _law_k, 6 _law_first, 7 _law_by, 8 _law_spot, 9 _law_found, 10 _law_number, 11 _law_pair, 12 _law_name -/
def f6L1 : Ex := .lc (.op (.bin .Mult) [.op .idx [.peek 2, .op (.bin .Mod) [.peek 6, .lit (.int 26)]], .op (.bin .Add) [.peek 5, .lit (.int 1)]]) (.one 5) .rng1 [.var 1] [] [5]
theorem tf6L1 (rf : Nat → List Bool) (C : CallT) (env : En) : evalRet rf C f6L1 env = evalE rf C f6L1 env := rfl
theorem af6L1 (rf : Nat → List Bool) (C : CallT) (as : List Ex) (env : En) : evalAs rf C (f6L1 :: as) env = (match evalE rf C f6L1 env with
    | some (r, env1) => match evalAs rf C as env1 with
      | some (xs, env2) => some (.v r.d :: xs, env2)
      | none => none
    | none => none) := aCons rf C _ _ _ rfl
def f6L2 : Ex := .lc (.op (.call 5) [.peek 0, .var 2]) (.one 5) .rng1 [.op (.call 5) [.peek 0, .op .lst [.lit (.int 0), .lit (.int 0), .lit (.int 1), .lit (.int 2), .lit (.int 6)]]] [] [5]
theorem tf6L2 (rf : Nat → List Bool) (C : CallT) (env : En) : evalRet rf C f6L2 env = evalE rf C f6L2 env := rfl
theorem af6L2 (rf : Nat → List Bool) (C : CallT) (as : List Ex) (env : En) : evalAs rf C (f6L2 :: as) env = (match evalE rf C f6L2 env with
    | some (r, env1) => match evalAs rf C as env1 with
      | some (xs, env2) => some (.v r.d :: xs, env2)
      | none => none
    | none => none) := aCons rf C _ _ _ rfl
def f6F1B : List Sx := [.asg 10 (.op (.bin .Mod) [.op (.bin .Add) [.peek 6, .op (.bin .Mult) [.peek 7, .peek 5]], .lit (.int 676)]), .asg 11 (.op (.bin .Add) [.op .idx [.peek 2, .op (.bin .FloorDiv) [.peek 10, .lit (.int 26)]], .op .idx [.peek 2, .op (.bin .Mod) [.peek 10, .lit (.int 26)]]]), .asg 12 (.op (.bin .Add) [.op (.bin .Add) [.op (.slc false true) [.peek 4, .var 8], .peek 11], .op (.slc true false) [.peek 4, .var 8]]), .app 9 (.op (.bin .Add) [.peek 12, .op (.bin .Mult) [.lit (.str "x"), .op .int1 [.op (.cmp .In) [.peek 12, .peek 3]]]])]
def f6F1 : Sx := .for_ (.one 5) .rng1 [.var 1] f6F1B
def f6 : FnD := ⟨[true, false], 13, [
    .asg 2 (.lit (.str "abcdefghijklmnopqrstuvwxyz")),
    .asg 3 (.op .tup [.lit (.str "at"), .lit (.str "give"), .lit (.str "last"), .lit (.str "late"), .lit (.str "no"), .lit (.str "undone"), .lit (.str "yes")]),
    .asgT [6, 7] (.op .tup [.op (.call 4) [.peek 0, .lit (.int 676)], .op (.call 5) [.peek 0, .op .lst [.lit (.int 1), .lit (.int 3), .lit (.int 7), .lit (.int 25), .lit (.int 27), .lit (.int 51), .lit (.int 105)]]]),
    .ife (.and [.op (.cmp .Lt) [.peek 1, .lit (.int 9)], .op (.cmp .Eq) [.op (.call 4) [.peek 0, .lit (.int 4)], .lit (.int 0)]]) [.ret (f6L1)] [],
    .asg 4 (.op (.join "") [f6L2]),
    .par [8, 9] [.op (.call 4) [.peek 0, .op (.bin .Add) [.op .len [.peek 4], .lit (.int 1)]], .op .lst []],
    f6F1,
    .ret (.var 9)]⟩
/-- _law_kinds: 0 _law_hand_here, 1 _law_low, 2 _law_high, 3 _law_words -/
def f7 : FnD := ⟨[true], 4, [
    .asg 1 (.op (.call 5) [.peek 0, .op .lst [.op .neg [.lit (.int 1000000000)], .lit (.int 0), .lit (.int 1), .op (.bin .Sub) [.op (.call 4) [.peek 0, .lit (.int 2000000001)], .lit (.int 1000000000)]]]),
    .asg 2 (.op .min2 [.lit (.int 1000000000), .op (.bin .Add) [.peek 1, .op (.call 5) [.peek 0, .op .lst [.lit (.int 0), .lit (.int 1), .lit (.int 5), .op (.call 4) [.peek 0, .lit (.int 2000000001)]]]]]),
    .asg 3 (.op .tup [.lit (.str "word"), .op .tuple1 [.op (.call 6) [.peek 0, .op (.bin .Add) [.lit (.int 2), .op (.call 4) [.peek 0, .lit (.int 7)]]]]]),
    .ret (.op .lst [.op .tup [.lit (.str "yesno")], .var 3, .op .tup [.lit (.str "number"), .var 1, .var 2]])]⟩
/-- _law_nest: 0 _law_hand_here, 1 _law_thing, 2 _law_k -/
def f8F1B : List Sx := [.asg 1 (.op .idx [.op .lst [.op .tup [.var 1], .op .lst [.var 1]], .op (.call 4) [.peek 0, .lit (.int 2)]])]
def f8F1 : Sx := .for_ (.one 2) .rng1 [.op (.call 5) [.peek 0, .op .lst [.lit (.int 1), .lit (.int 2), .lit (.int 50)]]] f8F1B
def f8 : FnD := ⟨[true, false], 3, [
    f8F1,
    .ret (.var 1)]⟩
/-- _law_things: 0 _law_hand_here, 1 _law_kinds_here, 2 _law_some, 3 _law_word, 4 _law_words, 5 _law_low, 6 _law_high -/
def f9F1B : List Sx := [.asg 2 (.op (.bin .Add) [.peek 2, .op .lst [.var 3, .op (.bin .Add) [.peek 3, .lit (.str "a")], .op (.slc false true) [.peek 3, .op .neg [.lit (.int 1)]], .op .tup [.var 3], .op .upper [.peek 3]]])]
def f9F1 : Sx := .for_ (.one 3) .seq [.var 4] f9F1B
def f9 : FnD := ⟨[true, false], 7, [
    .par [4, 5, 6] [.op .idx [.op .idx [.peek 1, .lit (.int 1)], .lit (.int 1)], .op .idx [.op .idx [.peek 1, .lit (.int 2)], .lit (.int 1)], .op .idx [.op .idx [.peek 1, .lit (.int 2)], .lit (.int 2)]],
    .asg 2 (.op .lst [.lit (.bool true), .lit (.bool false), .lit .none, .lit (.int 0), .lit (.int 1), .op .neg [.lit (.int 1)], .lit (.int 2), .lit (.str ""), .lit (.str "yes"), .lit (.str "no"), .lit (.str "True"), .op .tup [], .op .lst [], .op (.dic 0) [], .var 5, .var 6, .op (.bin .Sub) [.peek 5, .lit (.int 1)], .op (.bin .Add) [.peek 6, .lit (.int 1)]]),
    .asg 2 (.op (.bin .Add) [.peek 2, .op .lst [.op (.bin .Add) [.peek 5, .op (.call 4) [.peek 0, .op (.bin .Add) [.op (.bin .Sub) [.peek 6, .peek 5], .lit (.int 1)]]], .op .str1 [.peek 5], .op (.bin .Pow) [.lit (.int 10), .lit (.int 30)], .op .neg [.op (.bin .Pow) [.lit (.int 10), .lit (.int 30)]]]]),
    .asg 2 (.op (.bin .Add) [.peek 2, .op .lst [.op .tup [.var 5], .op .lst [.var 6], .var 4, .op .list1 [.peek 4]]]),
    f9F1,
    .ret (.op (.bin .Add) [.peek 2, .op .lst [.op (.call 8) [.peek 0, .op (.call 5) [.peek 0, .op .lst [.lit (.bool true), .var 5, .op .idx [.peek 4, .lit (.int 0)]]]]]])]⟩
/-- _law_due: 0 _law_kind, 1 _law_thing -/
def f10 : FnD := ⟨[false, false], 2, [
    .ife (.op (.isi .bool) [.peek 1]) [.ret (.op (.cmp .Eq) [.peek 0, .op .tup [.lit (.str "yesno")]])] [],
    .ife (.op (.isi .str) [.peek 1]) [.ret (.and [.op (.cmp .Eq) [.op .idx [.peek 0, .lit (.int 0)], .lit (.str "word")], .op (.cmp .In) [.peek 1, .op .list1 [.op .idx [.peek 0, .lit (.int 1)]]]])] [],
    .ife (.or [.not (.op (.isi .int) [.peek 1]), .op (.cmp .NotEq) [.op .idx [.peek 0, .lit (.int 0)], .lit (.str "number")]]) [.ret (.lit (.bool false))] [],
    .ret (.and [.op (.cmp .LtE) [.op .idx [.peek 0, .lit (.int 1)], .peek 1], .op (.cmp .LtE) [.peek 1, .op .idx [.peek 0, .lit (.int 2)]]])]⟩
/-- law: 0 _law_script, 1 _law_k, 2 _law_hand_here, 3 _law_kinds_here, 4 _law_thing, 5 _law_kind, 6 _law_found -/
def f11F1B : List Sx := [.asg 6 (.op (.call 2) [.var 5, .var 4]), .ife (.or [.not (.op (.isi .bool) [.peek 6]), .op (.cmp .NotEq) [.peek 6, .op (.call 10) [.var 5, .var 4]]]) [.ret (.lit (.bool false))] []]
def f11F1 : Sx := .for_ (.one 5) .seq [.var 3] f11F1B
def f11F2B : List Sx := [f11F1]
def f11F2 : Sx := .for_ (.one 4) .seq [.op (.call 9) [.peek 2, .var 3]] f11F2B
def f11F3B : List Sx := [.asg 2 (.op (.call 3) [.var 0, .var 1]), .asg 3 (.op (.call 7) [.peek 2]), f11F2]
def f11F3 : Sx := .for_ (.one 1) .rng1 [.op .max2 [.lit (.int 1), .op .min2 [.lit (.int 4), .op .len [.peek 0]]]] f11F3B
def f11 : FnD := ⟨[false], 7, [
    f11F3,
    .ret (.lit (.bool true))]⟩
def fns : List FnD := [f0, f1, f2, f3, f4, f5, f6, f7, f8, f9, f10, f11]
theorem rf0 : rfOf fns 0 = [false] := rfl
theorem rf1 : rfOf fns 1 = [false, false, false] := rfl
theorem rf2 : rfOf fns 2 = [false, false] := rfl
theorem rf3 : rfOf fns 3 = [false, false] := rfl
theorem rf4 : rfOf fns 4 = [true, false] := rfl
theorem rf5 : rfOf fns 5 = [true, false] := rfl
theorem rf6 : rfOf fns 6 = [true, false] := rfl
theorem rf7 : rfOf fns 7 = [true] := rfl
theorem rf8 : rfOf fns 8 = [true, false] := rfl
theorem rf9 : rfOf fns 9 = [true, false] := rfl
theorem rf10 : rfOf fns 10 = [false, false] := rfl
theorem rf11 : rfOf fns 11 = [false] := rfl
def tbl : List (Str × Nat) := [("is_whole", 0), ("is_between", 1), ("fits", 2), ("_law_hand", 3), ("_law_take", 4), ("_law_of", 5), ("_law_names", 6), ("_law_kinds", 7), ("_law_nest", 8), ("_law_things", 9), ("_law_due", 10), ("law", 11)]
def blts : List Str := ["bool", "int", "isinstance", "len", "list", "max", "min", "range", "str", "tuple"]
def csts : List (Str × Const) := []
def tab : Tab := ⟨fun x => tbl.lookup x, blts, fun x => csts.lookup x⟩
end Lk11
namespace Lk11
open PySem L2 Ofw
abbrev R (n : Nat) : CallT := runF fns 1000 n
/-- a hand -/
def hd (a b t : Int) : D := .lst [.int a, .int b, .int t]
def Hd (c : Int) (d : D) : Prop := ∃ a b t, d = hd a b t ∧ 0 ≤ b ∧ b < 2 ^ 62 ∧ 0 ≤ t ∧ t ≤ c
theorem Hd.mono {c e : Int} {d : D} (h : Hd c d) (l : c ≤ e) : Hd e d := by
  obtain ⟨a, b, t, rfl, h1, h2, h3, h4⟩ := h
  exact ⟨a, b, t, rfl, h1, h2, h3, by omega⟩
theorem take_ok (n : Nat) {c m : Int} {d : D} (h : Hd c d) (hc : c < 2 ^ 30) (hm : 0 < m) (hm2 : m < 2 ^ 62) : ∃ r d', R (n + 1) 4 [d, .int m] = some (.val (.int r), [some d', none]) ∧ 0 ≤ r ∧ r < m ∧ Hd (c + 1) d' := by
  obtain ⟨a, b, t, rfl, h1, h2, h3, h4⟩ := h
  have hl : m.natAbs.log2 < 9000 := log2_lt hm (by omega)
  unfold R hd
  rw [run_fn (fd := f4) rfl rfl]
  by_cases ha : 0 < a
  · refine ⟨a % m, hd (a / m) b t, ?_, Int.emod_nonneg _ (by omega), Int.emod_lt_of_pos _ hm, ⟨_, _, _, rfl, h1, h2, h3, by omega⟩⟩
    simp [f4, eVar, eLit, eGlob, eOp, eNot, eAnd, eOr, eIfe, eChain, aNil, aPeek, aVar, aLit, aGlob, aOp, aNot, aAnd, aOr, aIfe, aChain, sIfe, sAsg, sAsgT, sPar, sSeti, sAug, sApp, sExt, sPop, sDrop, sRet, sRetN, sPass, sBrk, sCont, bNil, bCons, evSeq, evIfS, evalAnd, evalOr, evalIfs, applyT, looks, look, valsOf, borOk, putBack, putBor, primD, prBin, binD, prCmp, cmpD, prIdx, prNeg, prTup, prLst, prLen, prInt1, prBool1, prStr1, prAbs1, prMin2, prMax2, prSum1, prAll1, prAny1, prSorted1, prTuple1, prList1, prIsi, prDic0, prUpper, prJoin, prDivmod, prRepr1, prSlcFF, prSlcTF, prSlcFT, prSlcTT, slcD, storing, litD, truD, Rs.d, evAsg, evAsgT, evPar, evSeti, evAug, evApp, evExt, evPop, evDrop, evRet, tVar', tLit', tGlob', tOp', tNot', tAnd', tOr', tIfe', tChain', evalRs, setAll, ownD, putD, putSlot, slotFree, toSl, bindT, bindT.bindTs, startE, outsOf, slotD, Sl.isOwn, isLst, itemsD, itSeq, itRng1, itRng2, fin, isiD, augD, plainSlots, wipeE, backE, ix0, ix1, ix2, range1, range2, range3, ixN, ha, hm, hl, hd]
  · have k1 : (b + 1299709 * (t + 1)).natAbs < 2 ^ 64 := by omega
    have k2 : (t + 1).natAbs < 2 ^ 64 := by omega
    have l97 : (97 : Nat).log2 < 9000 := by decide
    have l33 : (1000033 : Nat).log2 < 9000 := by decide
    have key : ∀ u v : Int, u = (b + 1299709 * (t + 1)) * (48271 + 2 * (t + 1) * (t + 1) + 65537 * (t + 1)) % 2305843009213693921 → v = u * (u % 1000003 + (t + 1) * 99991 + 11) % 2305843009213693907 →
        fin f4.rf (execB (rfOf fns) (runF fns 1000 n) 1000 f4.body (startE f4.rf [D.lst [D.int a, D.int b, D.int t], D.int m] f4.ns)) = some (Rs.val (D.int ((v / 97 + v / 1000033) % m)), [some (hd a b (t + 1)), none]) := by
      intro u v hu hv
      have k3 : u.natAbs < 2 ^ 64 := by omega
      simp [f4, eVar, eLit, eGlob, eOp, eNot, eAnd, eOr, eIfe, eChain, aNil, aPeek, aVar, aLit, aGlob, aOp, aNot, aAnd, aOr, aIfe, aChain, sIfe, sAsg, sAsgT, sPar, sSeti, sAug, sApp, sExt, sPop, sDrop, sRet, sRetN, sPass, sBrk, sCont, bNil, bCons, evSeq, evIfS, evalAnd, evalOr, evalIfs, applyT, looks, look, valsOf, borOk, putBack, putBor, primD, prBin, binD, prCmp, cmpD, prIdx, prNeg, prTup, prLst, prLen, prInt1, prBool1, prStr1, prAbs1, prMin2, prMax2, prSum1, prAll1, prAny1, prSorted1, prTuple1, prList1, prIsi, prDic0, prUpper, prJoin, prDivmod, prRepr1, prSlcFF, prSlcTF, prSlcFT, prSlcTT, slcD, storing, litD, truD, Rs.d, evAsg, evAsgT, evPar, evSeti, evAug, evApp, evExt, evPop, evDrop, evRet, tVar', tLit', tGlob', tOp', tNot', tAnd', tOr', tIfe', tChain', evalRs, setAll, ownD, putD, putSlot, slotFree, toSl, bindT, bindT.bindTs, startE, outsOf, slotD, Sl.isOwn, isLst, itemsD, itSeq, itRng1, itRng2, fin, isiD, augD, plainSlots, wipeE, backE, ix0, ix1, ix2, range1, range2, range3, ixN, ha, hm, hl, hd, k1, k2, k3, l97, l33, ← hu, ← hv]
    exact ⟨_, hd a b (t + 1), key _ _ rfl rfl, Int.emod_nonneg _ (by omega), Int.emod_lt_of_pos _ hm, ⟨_, _, _, rfl, h1, h2, by omega, by omega⟩⟩
theorem hand_ok (n : Nat) (ns : List Int) (k : Nat) (hk : k < 100) : ∃ d, R (n + 1) 3 [.scr ns, .int k] = some (.fr d, [none, none]) ∧ Hd 0 d := by
  unfold R
  rw [run_fn (fd := f3) rfl rfl]
  have kk : (k : Int).natAbs < 2 ^ 64 := by omega
  have one : ∀ c : Int, (if 1000000000000000000 ≤ c then (1 : Int) else 0).natAbs < 2 ^ 64 := fun c => by split <;> decide
  have key : ∀ c : Int, (k < ns.length → ixD ns (k : Int) = some c) → (¬ k < ns.length → c = 0) →
      fin f3.rf (execB (rfOf fns) (runF fns 1000 n) 1000 f3.body (startE f3.rf [D.scr ns, D.int k] f3.ns)) = some (Rs.fr (hd (c * (if 1000000000000000000 ≤ c then 1 else 0)) (c % 2305843009213693951 + 7919 * (k : Int) + 3) 0), [none, none]) := by
    intro c h1 h2
    have m1 := one c
    by_cases hl : k < ns.length
    · simp [f3, eVar, eLit, eGlob, eOp, eNot, eAnd, eOr, eIfe, eChain, aNil, aPeek, aVar, aLit, aGlob, aOp, aNot, aAnd, aOr, aIfe, aChain, sIfe, sAsg, sAsgT, sPar, sSeti, sAug, sApp, sExt, sPop, sDrop, sRet, sRetN, sPass, sBrk, sCont, bNil, bCons, evSeq, evIfS, evalAnd, evalOr, evalIfs, applyT, looks, look, valsOf, borOk, putBack, putBor, primD, prBin, binD, prCmp, cmpD, prIdx, prNeg, prTup, prLst, prLen, prInt1, prBool1, prStr1, prAbs1, prMin2, prMax2, prSum1, prAll1, prAny1, prSorted1, prTuple1, prList1, prIsi, prDic0, prUpper, prJoin, prDivmod, prRepr1, prSlcFF, prSlcTF, prSlcFT, prSlcTT, slcD, storing, litD, truD, Rs.d, evAsg, evAsgT, evPar, evSeti, evAug, evApp, evExt, evPop, evDrop, evRet, tVar', tLit', tGlob', tOp', tNot', tAnd', tOr', tIfe', tChain', evalRs, setAll, ownD, putD, putSlot, slotFree, toSl, bindT, bindT.bindTs, startE, outsOf, slotD, Sl.isOwn, isLst, itemsD, itSeq, itRng1, itRng2, fin, isiD, augD, plainSlots, wipeE, backE, ix0, ix1, ix2, range1, range2, range3, ixN, h1 hl, hl, hd, kk, m1, sizeLine]
    · obtain rfl := h2 hl
      simp [f3, eVar, eLit, eGlob, eOp, eNot, eAnd, eOr, eIfe, eChain, aNil, aPeek, aVar, aLit, aGlob, aOp, aNot, aAnd, aOr, aIfe, aChain, sIfe, sAsg, sAsgT, sPar, sSeti, sAug, sApp, sExt, sPop, sDrop, sRet, sRetN, sPass, sBrk, sCont, bNil, bCons, evSeq, evIfS, evalAnd, evalOr, evalIfs, applyT, looks, look, valsOf, borOk, putBack, putBor, primD, prBin, binD, prCmp, cmpD, prIdx, prNeg, prTup, prLst, prLen, prInt1, prBool1, prStr1, prAbs1, prMin2, prMax2, prSum1, prAll1, prAny1, prSorted1, prTuple1, prList1, prIsi, prDic0, prUpper, prJoin, prDivmod, prRepr1, prSlcFF, prSlcTF, prSlcFT, prSlcTT, slcD, storing, litD, truD, Rs.d, evAsg, evAsgT, evPar, evSeti, evAug, evApp, evExt, evPop, evDrop, evRet, tVar', tLit', tGlob', tOp', tNot', tAnd', tOr', tIfe', tChain', evalRs, setAll, ownD, putD, putSlot, slotFree, toSl, bindT, bindT.bindTs, startE, outsOf, slotD, Sl.isOwn, isLst, itemsD, itSeq, itRng1, itRng2, fin, isiD, augD, plainSlots, wipeE, backE, ix0, ix1, ix2, range1, range2, range3, ixN, hl, hd, kk, m1, sizeLine]
  by_cases hl : k < ns.length
  · obtain ⟨c, e, _⟩ := ix_in (xs := ns) (i := (k : Int)) (by omega) (by omega)
    exact ⟨_, key c (fun _ => e) (fun h => absurd hl h), _, _, _, rfl, by omega, by omega, by omega, by omega⟩
  · exact ⟨_, key 0 (fun h => absurd h hl) (fun _ => rfl), _, _, _, rfl, by omega, by omega, by omega, by omega⟩
theorem of_lst (n : Nat) {c : Int} {d : D} {xs : List D} (h : Hd c d) (hc : c < 2 ^ 30) (h0 : 0 < xs.length) (h1 : xs.length < 2 ^ 40) : ∃ x d', R (n + 2) 5 [d, .lst xs] = some (.val x, [some d', none]) ∧ x ∈ xs ∧ Hd (c + 1) d' := by
  obtain ⟨r, d', e, r0, r1, hd'⟩ := take_ok n h hc (m := (xs.length : Int)) (by omega) (by omega)
  obtain ⟨x, ex, hx⟩ := ix_in (xs := xs) r0 r1
  refine ⟨x, d', ?_, hx, hd'⟩
  unfold R at e ⊢
  rw [run_fn (fd := f5) rfl rfl]
  simp [f5, eVar, eLit, eGlob, eOp, eNot, eAnd, eOr, eIfe, eChain, aNil, aPeek, aVar, aLit, aGlob, aOp, aNot, aAnd, aOr, aIfe, aChain, sIfe, sAsg, sAsgT, sPar, sSeti, sAug, sApp, sExt, sPop, sDrop, sRet, sRetN, sPass, sBrk, sCont, bNil, bCons, evSeq, evIfS, evalAnd, evalOr, evalIfs, applyT, looks, look, valsOf, borOk, putBack, putBor, primD, prBin, binD, prCmp, cmpD, prIdx, prNeg, prTup, prLst, prLen, prInt1, prBool1, prStr1, prAbs1, prMin2, prMax2, prSum1, prAll1, prAny1, prSorted1, prTuple1, prList1, prIsi, prDic0, prUpper, prJoin, prDivmod, prRepr1, prSlcFF, prSlcTF, prSlcFT, prSlcTT, slcD, storing, litD, truD, Rs.d, evAsg, evAsgT, evPar, evSeti, evAug, evApp, evExt, evPop, evDrop, evRet, tVar', tLit', tGlob', tOp', tNot', tAnd', tOr', tIfe', tChain', evalRs, setAll, ownD, putD, putSlot, slotFree, toSl, bindT, bindT.bindTs, startE, outsOf, slotD, Sl.isOwn, isLst, itemsD, itSeq, itRng1, itRng2, fin, isiD, augD, plainSlots, wipeE, backE, ix0, ix1, ix2, range1, range2, range3, rf4, e, ex]
theorem of_str (n : Nat) {c : Int} {d : D} {z : Str} (h : Hd c d) (hc : c < 2 ^ 30) (h0 : 0 < z.length) (h1 : z.length < 100) : ∃ x d', R (n + 2) 5 [d, .str z] = some (.val (.str ⟨#[x]⟩), [some d', none]) ∧ x ∈ z.cps.toList ∧ Hd (c + 1) d' := by
  obtain ⟨r, d', e, r0, r1, hd'⟩ := take_ok n h hc (m := (z.length : Int)) (by omega) (by omega)
  obtain ⟨x, ex, hx⟩ := ix_in (xs := z.cps.toList) r0 (by rw [Array.length_toList]; exact r1)
  refine ⟨x, d', ?_, hx, hd'⟩
  have hz : z.length ≤ sizeLine := Nat.le_trans (Nat.le_of_lt h1) (by decide)
  unfold R at e ⊢
  rw [run_fn (fd := f5) rfl rfl]
  simp [f5, eVar, eLit, eGlob, eOp, eNot, eAnd, eOr, eIfe, eChain, aNil, aPeek, aVar, aLit, aGlob, aOp, aNot, aAnd, aOr, aIfe, aChain, sIfe, sAsg, sAsgT, sPar, sSeti, sAug, sApp, sExt, sPop, sDrop, sRet, sRetN, sPass, sBrk, sCont, bNil, bCons, evSeq, evIfS, evalAnd, evalOr, evalIfs, applyT, looks, look, valsOf, borOk, putBack, putBor, primD, prBin, binD, prCmp, cmpD, prIdx, prNeg, prTup, prLst, prLen, prInt1, prBool1, prStr1, prAbs1, prMin2, prMax2, prSum1, prAll1, prAny1, prSorted1, prTuple1, prList1, prIsi, prDic0, prUpper, prJoin, prDivmod, prRepr1, prSlcFF, prSlcTF, prSlcFT, prSlcTT, slcD, storing, litD, truD, Rs.d, evAsg, evAsgT, evPar, evSeti, evAug, evApp, evExt, evPop, evDrop, evRet, tVar', tLit', tGlob', tOp', tNot', tAnd', tOr', tIfe', tChain', evalRs, setAll, ownD, putD, putSlot, slotFree, toSl, bindT, bindT.bindTs, startE, outsOf, slotD, Sl.isOwn, isLst, itemsD, itSeq, itRng1, itRng2, fin, isiD, augD, plainSlots, wipeE, backE, ix0, ix1, ix2, range1, range2, range3, rf4, e, ex, hz]
def lt : Str := "abcdefghijklmnopqrstuvwxyz"
theorem lt_eq : Str.ofString "abcdefghijklmnopqrstuvwxyz" = lt := rfl
theorem lt_len : lt.length = 26 := by decide +kernel
theorem lt_tx : Tx 26 lt := ⟨by rw [lt_len]; exact Nat.le_refl _, by decide +kernel⟩
theorem lt_at {i : Int} (h0 : 0 ≤ i) (h1 : i < 26) : ∃ z, ixD lt.cps.toList i = some z ∧ Tx 1 ⟨#[z]⟩ := by
  obtain ⟨z, e, hz⟩ := ix_in (xs := lt.cps.toList) h0 (by rw [Array.length_toList]; show i < (lt.length : Int); rw [lt_len]; exact h1)
  exact ⟨z, e, lt_tx.char hz⟩
theorem lt_sz : lt.length ≤ sizeLine := by rw [lt_len]; decide
def shut : List D := [.str "at", .str "give", .str "last", .str "late", .str "no", .str "undone", .str "yes"]
theorem shut_eq : [D.str (Str.ofString "at"), .str (Str.ofString "give"), .str (Str.ofString "last"), .str (Str.ofString "late"), .str (Str.ofString "no"), .str (Str.ofString "undone"), .str (Str.ofString "yes")] = shut := rfl
theorem flS (x : Str) : flatD (.str x) = true := rfl
theorem shut_flat : ∀ x, x ∈ shut → flatD x = true := by
  intro x hx
  simp [shut] at hx
  rcases hx with h | h | h | h | h | h | h <;> subst h <;> rfl
theorem ints_in {l : List Int} {k : Int} (hl : ∀ i ∈ l, 0 ≤ i ∧ i ≤ k) {x : D} (h : x ∈ l.map D.int) : ∃ i, x = .int i ∧ 0 ≤ i ∧ i ≤ k := by
  obtain ⟨i, hi, rfl⟩ := List.mem_map.mp h
  exact ⟨i, rfl, hl i hi⟩
/-- the frame of names -/
abbrev fr6 (d : D) (m : Int) (s4 s5 : Sl) (r b : Int) (s8 s9 s10 s11 s12 : Sl) : En := [.bor d, .val (.int m), .val (.str lt), .val (.tup shut), s4, s5, .val (.int r), .val (.int b), s8, s9, s10, s11, s12]
theorem small_of {m : Int} (hm : 0 ≤ m) (hm2 : m ≤ 100) : smallI m = true := by unfold smallI; simp; omega
theorem sz_of {k : Nat} (h : k ≤ 1000) : k < sizeLine := Nat.lt_of_le_of_lt h (by decide)
/-- the first comprehension -/
theorem names_L1 (n : Nat) (d : D) (m r b : Int) (hm : 0 ≤ m) (hm2 : m ≤ 8) (hr : 0 ≤ r) : ∃ out, evalE (rfOf fns) (R n) f6L1 (fr6 d m .emp .emp r b .emp .emp .emp .emp .emp) =
    some (.fr (.lst out), fr6 d m .emp .emp r b .emp .emp .emp .emp .emp) ∧ (∀ x ∈ out, IsTx 20 x) ∧ out.length = m.toNat := by
  have lm : (rngD 0 m).length = m.toNat := by rw [rngD_len]; simp
  have sm := small_of hm (by omega)
  obtain ⟨z, ez, hz⟩ := lt_at (i := r % 26) (by omega) (by omega)
  obtain ⟨out, en, e1, hq, hl, hp⟩ := lc_run (rf := rfOf fns) (C := R n) (ex := f6L1) rfl (fr6 d m .emp .emp r b .emp .emp .emp .emp .emp) (fr6 d m .emp .emp r b .emp .emp .emp .emp .emp) (xs := [.v (.int m)]) (ds := [.int m]) (rngD 0 m) (fun _ en => en = fr6 d m .emp .emp r b .emp .emp .emp .emp .emp) (IsTx 20)
    (by simp [eVar, eLit, eGlob, eOp, eNot, eAnd, eOr, eIfe, eChain, aNil, aPeek, aVar, aLit, aGlob, aOp, aNot, aAnd, aOr, aIfe, aChain, sIfe, sAsg, sAsgT, sPar, sSeti, sAug, sApp, sExt, sPop, sDrop, sRet, sRetN, sPass, sBrk, sCont, bNil, bCons, evSeq, evIfS, evalAnd, evalOr, evalIfs, applyT, looks, look, valsOf, borOk, putBack, putBor, primD, prBin, binD, prCmp, cmpD, prIdx, prNeg, prTup, prLst, prLen, prInt1, prBool1, prStr1, prAbs1, prMin2, prMax2, prSum1, prAll1, prAny1, prSorted1, prTuple1, prList1, prIsi, prDic0, prUpper, prJoin, prDivmod, prRepr1, prSlcFF, prSlcTF, prSlcFT, prSlcTT, slcD, storing, litD, truD, Rs.d, evAsg, evAsgT, evPar, evSeti, evAug, evApp, evExt, evPop, evDrop, evRet, tVar', tLit', tGlob', tOp', tNot', tAnd', tOr', tIfe', tChain', evalRs, setAll, ownD, putD, putSlot, slotFree, toSl, bindT, bindT.bindTs, startE, outsOf, slotD, Sl.isOwn, isLst, itemsD, itSeq, itRng1, itRng2, fin, isiD, augD, plainSlots, wipeE, backE, ix0, ix1, ix2, range1, range2, range3, fr6]) rfl (by simp [eVar, eLit, eGlob, eOp, eNot, eAnd, eOr, eIfe, eChain, aNil, aPeek, aVar, aLit, aGlob, aOp, aNot, aAnd, aOr, aIfe, aChain, sIfe, sAsg, sAsgT, sPar, sSeti, sAug, sApp, sExt, sPop, sDrop, sRet, sRetN, sPass, sBrk, sCont, bNil, bCons, evSeq, evIfS, evalAnd, evalOr, evalIfs, applyT, looks, look, valsOf, borOk, putBack, putBor, primD, prBin, binD, prCmp, cmpD, prIdx, prNeg, prTup, prLst, prLen, prInt1, prBool1, prStr1, prAbs1, prMin2, prMax2, prSum1, prAll1, prAny1, prSorted1, prTuple1, prList1, prIsi, prDic0, prUpper, prJoin, prDivmod, prRepr1, prSlcFF, prSlcTF, prSlcFT, prSlcTT, slcD, storing, litD, truD, Rs.d, evAsg, evAsgT, evPar, evSeti, evAug, evApp, evExt, evPop, evDrop, evRet, tVar', tLit', tGlob', tOp', tNot', tAnd', tOr', tIfe', tChain', evalRs, setAll, ownD, putD, putSlot, slotFree, toSl, bindT, bindT.bindTs, startE, outsOf, slotD, Sl.isOwn, isLst, itemsD, itSeq, itRng1, itRng2, fin, isiD, augD, plainSlots, wipeE, backE, ix0, ix1, ix2, range1, range2, range3, sm]) rfl (by rw [lm]; exact sz_of (by omega)) rfl (by
      intro i x en hi hp
      subst hp
      obtain ⟨rfl, hlt⟩ := rngD_get hi
      refine ⟨.str (repS ⟨#[z]⟩ (i + 1)), _, ?_, ⟨_, rfl, (hz.rep (i + 1)).mono (by omega)⟩, rfl⟩
      have l1 : ((⟨#[z]⟩ : Str)).length ≤ 1000 := Nat.le_trans hz.1 (by omega)
      have l2 : (0 : Int) ≤ (i : Int) + 1 := by omega
      have l3 : (i : Int) + 1 ≤ 10000 := by omega
      have l4 : ((i : Int) + 1).toNat = i + 1 := by omega
      simp [lcTurn, eVar, eLit, eGlob, eOp, eNot, eAnd, eOr, eIfe, eChain, aNil, aPeek, aVar, aLit, aGlob, aOp, aNot, aAnd, aOr, aIfe, aChain, sIfe, sAsg, sAsgT, sPar, sSeti, sAug, sApp, sExt, sPop, sDrop, sRet, sRetN, sPass, sBrk, sCont, bNil, bCons, evSeq, evIfS, evalAnd, evalOr, evalIfs, applyT, looks, look, valsOf, borOk, putBack, putBor, primD, prBin, binD, prCmp, cmpD, prIdx, prNeg, prTup, prLst, prLen, prInt1, prBool1, prStr1, prAbs1, prMin2, prMax2, prSum1, prAll1, prAny1, prSorted1, prTuple1, prList1, prIsi, prDic0, prUpper, prJoin, prDivmod, prRepr1, prSlcFF, prSlcTF, prSlcFT, prSlcTT, slcD, storing, litD, truD, Rs.d, evAsg, evAsgT, evPar, evSeti, evAug, evApp, evExt, evPop, evDrop, evRet, tVar', tLit', tGlob', tOp', tNot', tAnd', tOr', tIfe', tChain', evalRs, setAll, ownD, putD, putSlot, slotFree, toSl, bindT, bindT.bindTs, startE, outsOf, slotD, Sl.isOwn, isLst, itemsD, itSeq, itRng1, itRng2, fin, isiD, augD, plainSlots, wipeE, backE, ix0, ix1, ix2, range1, range2, range3, evalIfs, fr6, lt_sz, ez, l1, l2, l3, l4])
  subst hp
  exact ⟨out, e1, hq, by rw [hl, lm]⟩
theorem five_le : 5 ≤ sizeLine := by decide
theorem shut_len : shut.length ≤ sizeLine := by decide
theorem zero_le' : 0 ≤ sizeLine := Nat.zero_le _
theorem two_le : 2 ≤ sizeLine := by decide
theorem seven_le : 7 ≤ sizeLine := by decide
/-- the second one -/
theorem names_L2 (n : Nat) {c : Int} {d : D} (h : Hd c d) (hc : c < 2 ^ 20) (m r b : Int) : ∃ out d', evalE (rfOf fns) (R (n + 2)) f6L2 (fr6 d m .emp .emp r b .emp .emp .emp .emp .emp) =
    some (.fr (.lst out), fr6 d' m .emp .emp r b .emp .emp .emp .emp .emp) ∧ (∀ x ∈ out, IsTx 1 x) ∧ out.length ≤ 6 ∧ Hd (c + 7) d' := by
  obtain ⟨x, d1, e1, hx, h1⟩ := of_lst n h (by omega) (xs := [.int 0, .int 0, .int 1, .int 2, .int 6]) (by decide) (by decide)
  obtain ⟨k, rfl, k0, k6⟩ := ints_in (l := [0, 0, 1, 2, 6]) (k := 6) (by decide) (x := x) hx
  have sm := small_of k0 (by omega)
  have lm : (rngD 0 k).length = k.toNat := by rw [rngD_len]; simp
  obtain ⟨out, en, e2, hq, hl, d', rfl, h2⟩ := lc_run (rf := rfOf fns) (C := R (n + 2)) (ex := f6L2) rfl (fr6 d m .emp .emp r b .emp .emp .emp .emp .emp) (fr6 d1 m .emp .emp r b .emp .emp .emp .emp .emp) (xs := [.v (.int k)]) (ds := [.int k]) (rngD 0 k)
    (fun i en => ∃ d', en = fr6 d' m .emp .emp r b .emp .emp .emp .emp .emp ∧ Hd (c + 1 + i) d') (IsTx 1)
    (by simp [eVar, eLit, eGlob, eOp, eNot, eAnd, eOr, eIfe, eChain, aNil, aPeek, aVar, aLit, aGlob, aOp, aNot, aAnd, aOr, aIfe, aChain, sIfe, sAsg, sAsgT, sPar, sSeti, sAug, sApp, sExt, sPop, sDrop, sRet, sRetN, sPass, sBrk, sCont, bNil, bCons, evSeq, evIfS, evalAnd, evalOr, evalIfs, applyT, looks, look, valsOf, borOk, putBack, putBor, primD, prBin, binD, prCmp, cmpD, prIdx, prNeg, prTup, prLst, prLen, prInt1, prBool1, prStr1, prAbs1, prMin2, prMax2, prSum1, prAll1, prAny1, prSorted1, prTuple1, prList1, prIsi, prDic0, prUpper, prJoin, prDivmod, prRepr1, prSlcFF, prSlcTF, prSlcFT, prSlcTT, slcD, storing, litD, truD, Rs.d, evAsg, evAsgT, evPar, evSeti, evAug, evApp, evExt, evPop, evDrop, evRet, tVar', tLit', tGlob', tOp', tNot', tAnd', tOr', tIfe', tChain', evalRs, setAll, ownD, putD, putSlot, slotFree, toSl, bindT, bindT.bindTs, startE, outsOf, slotD, Sl.isOwn, isLst, itemsD, itSeq, itRng1, itRng2, fin, isiD, augD, plainSlots, wipeE, backE, ix0, ix1, ix2, range1, range2, range3, rf5, e1, fr6, five_le]) rfl (by simp [eVar, eLit, eGlob, eOp, eNot, eAnd, eOr, eIfe, eChain, aNil, aPeek, aVar, aLit, aGlob, aOp, aNot, aAnd, aOr, aIfe, aChain, sIfe, sAsg, sAsgT, sPar, sSeti, sAug, sApp, sExt, sPop, sDrop, sRet, sRetN, sPass, sBrk, sCont, bNil, bCons, evSeq, evIfS, evalAnd, evalOr, evalIfs, applyT, looks, look, valsOf, borOk, putBack, putBor, primD, prBin, binD, prCmp, cmpD, prIdx, prNeg, prTup, prLst, prLen, prInt1, prBool1, prStr1, prAbs1, prMin2, prMax2, prSum1, prAll1, prAny1, prSorted1, prTuple1, prList1, prIsi, prDic0, prUpper, prJoin, prDivmod, prRepr1, prSlcFF, prSlcTF, prSlcFT, prSlcTT, slcD, storing, litD, truD, Rs.d, evAsg, evAsgT, evPar, evSeti, evAug, evApp, evExt, evPop, evDrop, evRet, tVar', tLit', tGlob', tOp', tNot', tAnd', tOr', tIfe', tChain', evalRs, setAll, ownD, putD, putSlot, slotFree, toSl, bindT, bindT.bindTs, startE, outsOf, slotD, Sl.isOwn, isLst, itemsD, itSeq, itRng1, itRng2, fin, isiD, augD, plainSlots, wipeE, backE, ix0, ix1, ix2, range1, range2, range3, sm]) rfl (by rw [lm]; exact sz_of (by omega)) ⟨d1, rfl, by simpa using h1⟩ (by
      intro i x en hi hp
      obtain ⟨d2, rfl, h2⟩ := hp
      obtain ⟨rfl, hlt⟩ := rngD_get hi
      obtain ⟨z, d3, e3, hz, h3⟩ := of_str n h2 (by omega) (z := lt) (by rw [lt_len]; omega) (by rw [lt_len]; omega)
      refine ⟨.str ⟨#[z]⟩, _, ?_, ⟨_, rfl, lt_tx.char hz⟩, d3, rfl, h3.mono (by omega)⟩
      simp [lcTurn, eVar, eLit, eGlob, eOp, eNot, eAnd, eOr, eIfe, eChain, aNil, aPeek, aVar, aLit, aGlob, aOp, aNot, aAnd, aOr, aIfe, aChain, sIfe, sAsg, sAsgT, sPar, sSeti, sAug, sApp, sExt, sPop, sDrop, sRet, sRetN, sPass, sBrk, sCont, bNil, bCons, evSeq, evIfS, evalAnd, evalOr, evalIfs, applyT, looks, look, valsOf, borOk, putBack, putBor, primD, prBin, binD, prCmp, cmpD, prIdx, prNeg, prTup, prLst, prLen, prInt1, prBool1, prStr1, prAbs1, prMin2, prMax2, prSum1, prAll1, prAny1, prSorted1, prTuple1, prList1, prIsi, prDic0, prUpper, prJoin, prDivmod, prRepr1, prSlcFF, prSlcTF, prSlcFT, prSlcTT, slcD, storing, litD, truD, Rs.d, evAsg, evAsgT, evPar, evSeti, evAug, evApp, evExt, evPop, evDrop, evRet, tVar', tLit', tGlob', tOp', tNot', tAnd', tOr', tIfe', tChain', evalRs, setAll, ownD, putD, putSlot, slotFree, toSl, bindT, bindT.bindTs, startE, outsOf, slotD, Sl.isOwn, isLst, itemsD, itSeq, itRng1, itRng2, fin, isiD, augD, plainSlots, wipeE, backE, ix0, ix1, ix2, range1, range2, range3, evalIfs, rf5, e3, fr6])
  exact ⟨out, d', e2, hq, by omega, h2.mono (by omega)⟩
/-- the loop -/
theorem names_F1 (n : Nat) (d : D) (m r b s : Int) (st : Str) (hm : 0 ≤ m) (hm2 : m ≤ 8) (hr : 0 ≤ r) (hb : 0 ≤ b ∧ b ≤ 105) (hst : Tx 6 st) : ∃ out s5 s10 s11 s12, execS (rfOf fns) (R n) 1000 f6F1 (fr6 d m (.val (.str st)) .emp r b (.val (.int s)) (.own (.lst [])) .emp .emp .emp) =
    some (.nx, fr6 d m (.val (.str st)) s5 r b (.val (.int s)) (.own (.lst out)) s10 s11 s12) ∧ (∀ x ∈ out, IsTx 20 x) ∧ out.length = m.toNat := by
  have lm : (rngD 0 m).length = m.toNat := by rw [rngD_len]; simp
  have sm := small_of hm (by omega)
  obtain ⟨en, e1, hp⟩ := for_run (rf := rfOf fns) (C := R n) (wf := 1000) (sx := f6F1) rfl (fr6 d m (.val (.str st)) .emp r b (.val (.int s)) (.own (.lst [])) .emp .emp .emp) (fr6 d m (.val (.str st)) .emp r b (.val (.int s)) (.own (.lst [])) .emp .emp .emp) (xs := [.v (.int m)]) (ds := [.int m]) (rngD 0 m)
    (fun i en => ∃ out s5 s10 s11 s12, en = fr6 d m (.val (.str st)) s5 r b (.val (.int s)) (.own (.lst out)) s10 s11 s12 ∧ (∀ x ∈ out, IsTx 20 x) ∧ out.length = i ∧ ((s5 = .emp ∧ s10 = .emp ∧ s11 = .emp ∧ s12 = .emp) ∨ ∃ a b c e, s5 = .val a ∧ s10 = .val b ∧ s11 = .val c ∧ s12 = .val e))
    (by simp [eVar, eLit, eGlob, eOp, eNot, eAnd, eOr, eIfe, eChain, aNil, aPeek, aVar, aLit, aGlob, aOp, aNot, aAnd, aOr, aIfe, aChain, sIfe, sAsg, sAsgT, sPar, sSeti, sAug, sApp, sExt, sPop, sDrop, sRet, sRetN, sPass, sBrk, sCont, bNil, bCons, evSeq, evIfS, evalAnd, evalOr, evalIfs, applyT, looks, look, valsOf, borOk, putBack, putBor, primD, prBin, binD, prCmp, cmpD, prIdx, prNeg, prTup, prLst, prLen, prInt1, prBool1, prStr1, prAbs1, prMin2, prMax2, prSum1, prAll1, prAny1, prSorted1, prTuple1, prList1, prIsi, prDic0, prUpper, prJoin, prDivmod, prRepr1, prSlcFF, prSlcTF, prSlcFT, prSlcTT, slcD, storing, litD, truD, Rs.d, evAsg, evAsgT, evPar, evSeti, evAug, evApp, evExt, evPop, evDrop, evRet, tVar', tLit', tGlob', tOp', tNot', tAnd', tOr', tIfe', tChain', evalRs, setAll, ownD, putD, putSlot, slotFree, toSl, bindT, bindT.bindTs, startE, outsOf, slotD, Sl.isOwn, isLst, itemsD, itSeq, itRng1, itRng2, fin, isiD, augD, plainSlots, wipeE, backE, ix0, ix1, ix2, range1, range2, range3, fr6]) rfl (by simp [eVar, eLit, eGlob, eOp, eNot, eAnd, eOr, eIfe, eChain, aNil, aPeek, aVar, aLit, aGlob, aOp, aNot, aAnd, aOr, aIfe, aChain, sIfe, sAsg, sAsgT, sPar, sSeti, sAug, sApp, sExt, sPop, sDrop, sRet, sRetN, sPass, sBrk, sCont, bNil, bCons, evSeq, evIfS, evalAnd, evalOr, evalIfs, applyT, looks, look, valsOf, borOk, putBack, putBor, primD, prBin, binD, prCmp, cmpD, prIdx, prNeg, prTup, prLst, prLen, prInt1, prBool1, prStr1, prAbs1, prMin2, prMax2, prSum1, prAll1, prAny1, prSorted1, prTuple1, prList1, prIsi, prDic0, prUpper, prJoin, prDivmod, prRepr1, prSlcFF, prSlcTF, prSlcFT, prSlcTT, slcD, storing, litD, truD, Rs.d, evAsg, evAsgT, evPar, evSeti, evAug, evApp, evExt, evPop, evDrop, evRet, tVar', tLit', tGlob', tOp', tNot', tAnd', tOr', tIfe', tChain', evalRs, setAll, ownD, putD, putSlot, slotFree, toSl, bindT, bindT.bindTs, startE, outsOf, slotD, Sl.isOwn, isLst, itemsD, itSeq, itRng1, itRng2, fin, isiD, augD, plainSlots, wipeE, backE, ix0, ix1, ix2, range1, range2, range3, sm]) ⟨[], _, _, _, _, rfl, by simp, rfl, .inl ⟨rfl, rfl, rfl, rfl⟩⟩ (by
      intro i x en hi hp
      obtain ⟨out, s5, s10, s11, s12, rfl, hq, hl, hs⟩ := hp
      obtain ⟨rfl, hlt⟩ := rngD_get hi
      obtain ⟨z1, ez1, hz1⟩ := lt_at (i := (r + b * (0 + (i : Int))) % 676 / 26) (by omega) (by omega)
      obtain ⟨z2, ez2, hz2⟩ := lt_at (i := (r + b * (0 + (i : Int))) % 676 % 26) (by omega) (by omega)
      generalize hA : (⟨(cutD st.cps.toList none (some s)).toArray⟩ : Str) = A
      generalize hB : (⟨(cutD st.cps.toList (some s) none).toArray⟩ : Str) = B
      have tA : Tx 6 A := hA ▸ hst.cut none (some s)
      have tB : Tx 6 B := hB ▸ hst.cut (some s) none
      have tZ := hz1.app hz2
      have tN := (tA.app tZ).app tB
      generalize hZ1 : (⟨#[z1]⟩ : Str) = Z1 at hz1 tZ tN
      generalize hZ2 : (⟨#[z2]⟩ : Str) = Z2 at hz2 tZ tN
      have tX : Tx 1 ("x" : Str) := ⟨by decide +kernel, by decide +kernel⟩
      have sl : sizeLine = 16777216 := by decide
      have b1 : b.natAbs < 2 ^ 64 := by omega
      have l26 : (26 : Nat).log2 < 9000 := by decide
      have c0 : st.length ≤ sizeLine := by have := hst.1; omega
      have c1 : Z1.length + Z2.length ≤ sizeLine := by have := hz1.1; have := hz2.1; omega
      have c2 : A.length + (Z1 ++ Z2).length ≤ sizeLine := by have := tA.1; have := tZ.1; omega
      have c3 : (A ++ (Z1 ++ Z2)).length + B.length ≤ sizeLine := by have := (tA.app tZ).1; have := tB.1; omega
      have tE : ∀ k : Nat, k ≤ 1 → Tx 20 ((A ++ (Z1 ++ Z2)) ++ B ++ repS "x" k) := fun k hk => (tN.app (tX.rep k)).mono (by omega)
      have c4 : ∀ k : Nat, k ≤ 1 → ((A ++ (Z1 ++ Z2)) ++ B).length + (repS "x" k).length ≤ sizeLine := fun k hk => by have := tN.1; have := (tX.rep k).1; omega
      have x1 : (Str.ofString "x").length ≤ 1000 := by decide +kernel
      have c40 := c4 0 (by omega)
      have c41 := c4 1 (by omega)
      have ol : out.length < sizeLine := by omega
      rw [Int.zero_add] at ez1 ez2
      rw [show (r + b * (i : Int)) % 676 % 26 = (r + b * (i : Int)) % 26 by omega] at ez2
      cases hI : inD (.str ((A ++ (Z1 ++ Z2)) ++ B)) shut with
      | true =>
        refine ⟨fr6 d m (.val (.str st)) (.val (.int i)) r b (.val (.int s)) (.own (.lst (out ++ [.str ((A ++ (Z1 ++ Z2)) ++ B ++ repS "x" 1)]))) (.val (.int ((r + b * (i : Int)) % 676))) (.val (.str (Z1 ++ Z2))) (.val (.str ((A ++ (Z1 ++ Z2)) ++ B))), ?_, _, _, _, _, _, rfl, ?_, by simp [hl], .inr ⟨_, _, _, _, rfl, rfl, rfl, rfl⟩⟩
        · rcases hs with ⟨rfl, rfl, rfl, rfl⟩ | ⟨_, _, _, _, rfl, rfl, rfl, rfl⟩ <;>
            simp [loTurn, f6F1B, eVar, eLit, eGlob, eOp, eNot, eAnd, eOr, eIfe, eChain, aNil, aPeek, aVar, aLit, aGlob, aOp, aNot, aAnd, aOr, aIfe, aChain, sIfe, sAsg, sAsgT, sPar, sSeti, sAug, sApp, sExt, sPop, sDrop, sRet, sRetN, sPass, sBrk, sCont, bNil, bCons, evSeq, evIfS, evalAnd, evalOr, evalIfs, applyT, looks, look, valsOf, borOk, putBack, putBor, primD, prBin, binD, prCmp, cmpD, prIdx, prNeg, prTup, prLst, prLen, prInt1, prBool1, prStr1, prAbs1, prMin2, prMax2, prSum1, prAll1, prAny1, prSorted1, prTuple1, prList1, prIsi, prDic0, prUpper, prJoin, prDivmod, prRepr1, prSlcFF, prSlcTF, prSlcFT, prSlcTT, slcD, storing, litD, truD, Rs.d, evAsg, evAsgT, evPar, evSeti, evAug, evApp, evExt, evPop, evDrop, evRet, tVar', tLit', tGlob', tOp', tNot', tAnd', tOr', tIfe', tChain', evalRs, setAll, ownD, putD, putSlot, slotFree, toSl, bindT, bindT.bindTs, startE, outsOf, slotD, Sl.isOwn, isLst, itemsD, itSeq, itRng1, itRng2, fin, isiD, augD, plainSlots, wipeE, backE, ix0, ix1, ix2, range1, range2, range3, fr6, b1, l26, lt_sz, ez1, ez2, hZ1, hZ2, c0, c1, hA, hB, c2, c3, hI, flS, eq_true shut_flat, x1, c41, ol]
        · intro y hy
          rcases List.mem_append.mp hy with q | q
          · exact hq y q
          · rw [List.mem_singleton.mp q]; exact ⟨_, rfl, tE 1 (by omega)⟩
      | false =>
        refine ⟨fr6 d m (.val (.str st)) (.val (.int i)) r b (.val (.int s)) (.own (.lst (out ++ [.str ((A ++ (Z1 ++ Z2)) ++ B ++ repS "x" 0)]))) (.val (.int ((r + b * (i : Int)) % 676))) (.val (.str (Z1 ++ Z2))) (.val (.str ((A ++ (Z1 ++ Z2)) ++ B))), ?_, _, _, _, _, _, rfl, ?_, by simp [hl], .inr ⟨_, _, _, _, rfl, rfl, rfl, rfl⟩⟩
        · rcases hs with ⟨rfl, rfl, rfl, rfl⟩ | ⟨_, _, _, _, rfl, rfl, rfl, rfl⟩ <;>
            simp [loTurn, f6F1B, eVar, eLit, eGlob, eOp, eNot, eAnd, eOr, eIfe, eChain, aNil, aPeek, aVar, aLit, aGlob, aOp, aNot, aAnd, aOr, aIfe, aChain, sIfe, sAsg, sAsgT, sPar, sSeti, sAug, sApp, sExt, sPop, sDrop, sRet, sRetN, sPass, sBrk, sCont, bNil, bCons, evSeq, evIfS, evalAnd, evalOr, evalIfs, applyT, looks, look, valsOf, borOk, putBack, putBor, primD, prBin, binD, prCmp, cmpD, prIdx, prNeg, prTup, prLst, prLen, prInt1, prBool1, prStr1, prAbs1, prMin2, prMax2, prSum1, prAll1, prAny1, prSorted1, prTuple1, prList1, prIsi, prDic0, prUpper, prJoin, prDivmod, prRepr1, prSlcFF, prSlcTF, prSlcFT, prSlcTT, slcD, storing, litD, truD, Rs.d, evAsg, evAsgT, evPar, evSeti, evAug, evApp, evExt, evPop, evDrop, evRet, tVar', tLit', tGlob', tOp', tNot', tAnd', tOr', tIfe', tChain', evalRs, setAll, ownD, putD, putSlot, slotFree, toSl, bindT, bindT.bindTs, startE, outsOf, slotD, Sl.isOwn, isLst, itemsD, itSeq, itRng1, itRng2, fin, isiD, augD, plainSlots, wipeE, backE, ix0, ix1, ix2, range1, range2, range3, fr6, b1, l26, lt_sz, ez1, ez2, hZ1, hZ2, c0, c1, hA, hB, c2, c3, hI, flS, eq_true shut_flat, x1, c40, ol]
        · intro y hy
          rcases List.mem_append.mp hy with q | q
          · exact hq y q
          · rw [List.mem_singleton.mp q]; exact ⟨_, rfl, tE 0 (by omega)⟩)
  obtain ⟨out, s5, s10, s11, s12, rfl, hq, hl, _⟩ := hp
  exact ⟨out, s5, s10, s11, s12, e1, hq, by rw [hl, lm]⟩
theorem m_lt9 {m : Int} (h : m ≤ 8) : m < 9 := by omega
theorem names_ok (n : Nat) {c : Int} {d : D} (h : Hd c d) (hc : c < 2 ^ 19) {m : Int} (hm : 2 ≤ m) (hm2 : m ≤ 8) : ∃ out d', R (n + 3) 6 [d, .int m] = some (.fr (.lst out), [some d', none]) ∧ (∀ x ∈ out, IsTx 20 x) ∧ out.length = m.toNat ∧ Hd (c + 12) d' := by
  obtain ⟨r, d1, e1, r0, r1, h1⟩ := take_ok (n + 1) h (by omega) (m := 676) (by omega) (by omega)
  obtain ⟨x, d2, e2, hx, h2⟩ := of_lst n h1 (by omega) (xs := [.int 1, .int 3, .int 7, .int 25, .int 27, .int 51, .int 105]) (by decide) (by decide)
  obtain ⟨b, rfl, b0, b1⟩ := ints_in (l := [1, 3, 7, 25, 27, 51, 105]) (k := 105) (by decide) (x := x) hx
  obtain ⟨k, d3, e3, k0, k1, h3⟩ := take_ok (n + 1) h2 (by omega) (m := 4) (by omega) (by omega)
  have m9 := m_lt9 hm2
  by_cases hk : k = 0
  · obtain ⟨out, eL, hq, hl⟩ := names_L1 (n + 2) d3 m r b (by omega) hm2 r0
    refine ⟨out, d3, ?_, hq, hl, h3.mono (by omega)⟩
    unfold R
    rw [run_fn (fd := f6) rfl rfl]
    unfold fr6 at eL
    simp [f6, eVar, eLit, eGlob, eOp, eNot, eAnd, eOr, eIfe, eChain, aNil, aPeek, aVar, aLit, aGlob, aOp, aNot, aAnd, aOr, aIfe, aChain, sIfe, sAsg, sAsgT, sPar, sSeti, sAug, sApp, sExt, sPop, sDrop, sRet, sRetN, sPass, sBrk, sCont, bNil, bCons, evSeq, evIfS, evalAnd, evalOr, evalIfs, applyT, looks, look, valsOf, borOk, putBack, putBor, primD, prBin, binD, prCmp, cmpD, prIdx, prNeg, prTup, prLst, prLen, prInt1, prBool1, prStr1, prAbs1, prMin2, prMax2, prSum1, prAll1, prAny1, prSorted1, prTuple1, prList1, prIsi, prDic0, prUpper, prJoin, prDivmod, prRepr1, prSlcFF, prSlcTF, prSlcFT, prSlcTT, slcD, storing, litD, truD, Rs.d, evAsg, evAsgT, evPar, evSeti, evAug, evApp, evExt, evPop, evDrop, evRet, tVar', tLit', tGlob', tOp', tNot', tAnd', tOr', tIfe', tChain', evalRs, setAll, ownD, putD, putSlot, slotFree, toSl, bindT, bindT.bindTs, startE, outsOf, slotD, Sl.isOwn, isLst, itemsD, itSeq, itRng1, itRng2, fin, isiD, augD, plainSlots, wipeE, backE, ix0, ix1, ix2, range1, range2, range3, tf6L1, rf4, rf5, e1, e2, e3, hk, m9, eqD, scalD, eqv, lt_eq, shut_eq, shut_len, seven_le, two_le, eL]
  · obtain ⟨o2, d4, eL, hq2, hl2, h4⟩ := names_L2 n h3 (by omega) m r b
    obtain ⟨ys, rfl, es, hys⟩ := strs_of hq2
    have hst := Tx.join0 hys
    have hly : ys.length ≤ 6 := by simpa using hl2
    have hst6 : Tx 6 (Txt.join "" ys) := hst.mono (by omega)
    generalize hS : Txt.join (Str.ofString "") ys = S at hst hst6
    obtain ⟨s, d5, e5, s0, s1, h5⟩ := take_ok (n + 1) h4 (by omega) (m := (S.length : Int) + 1) (by omega) (by have := hst6.1; omega)
    obtain ⟨out, s5, s10, s11, s12, eF, hq, hl⟩ := names_F1 (n + 2) d5 m r b s S (by omega) hm2 r0 ⟨b0, b1⟩ hst6
    refine ⟨out, d5, ?_, hq, hl, h5.mono (by omega)⟩
    unfold R
    rw [run_fn (fd := f6) rfl rfl]
    unfold fr6 at eL eF
    have hk' : (k == 0) = false := by simpa using hk
    have cJ : (ys.map (fun x => x.length)).sum + ys.length * (Str.ofString "").length ≤ 16777216 := by
      have := tx_sum hys
      have e0 : (Str.ofString "").length = 0 := by decide +kernel
      rw [e0]
      omega
    have hS0 : S.length ≤ sizeLine := by have := hst6.1; exact Nat.le_of_lt (sz_of (by omega))
    simp [f6, eVar, eLit, eGlob, eOp, eNot, eAnd, eOr, eIfe, eChain, aNil, aPeek, aVar, aLit, aGlob, aOp, aNot, aAnd, aOr, aIfe, aChain, sIfe, sAsg, sAsgT, sPar, sSeti, sAug, sApp, sExt, sPop, sDrop, sRet, sRetN, sPass, sBrk, sCont, bNil, bCons, evSeq, evIfS, evalAnd, evalOr, evalIfs, applyT, looks, look, valsOf, borOk, putBack, putBor, primD, prBin, binD, prCmp, cmpD, prIdx, prNeg, prTup, prLst, prLen, prInt1, prBool1, prStr1, prAbs1, prMin2, prMax2, prSum1, prAll1, prAny1, prSorted1, prTuple1, prList1, prIsi, prDic0, prUpper, prJoin, prDivmod, prRepr1, prSlcFF, prSlcTF, prSlcFT, prSlcTT, slcD, storing, litD, truD, Rs.d, evAsg, evAsgT, evPar, evSeti, evAug, evApp, evExt, evPop, evDrop, evRet, tVar', tLit', tGlob', tOp', tNot', tAnd', tOr', tIfe', tChain', evalRs, setAll, ownD, putD, putSlot, slotFree, toSl, bindT, bindT.bindTs, startE, outsOf, slotD, Sl.isOwn, isLst, itemsD, itSeq, itRng1, itRng2, fin, isiD, augD, plainSlots, wipeE, backE, ix0, ix1, ix2, range1, range2, range3, af6L2, rf4, rf5, e1, e2, e3, hk', m9, eqD, scalD, eqv, lt_eq, shut_eq, shut_len, seven_le, two_le, eL, es, cJ, hS, e5, eF, zero_le', hS0]
/-- the three kinds -/
abbrev kYes : D := .tup [.str "yesno"]
abbrev kWord (ws : List D) : D := .tup [.str "word", .tup ws]
abbrev kNum (lo hi : Int) : D := .tup [.str "number", .int lo, .int hi]
theorem one_le : 1 ≤ sizeLine := by decide
theorem three_le : 3 ≤ sizeLine := by decide
theorem four_le : 4 ≤ sizeLine := by decide
theorem kinds_ok (n : Nat) {c : Int} {d : D} (h : Hd c d) (hc : c < 2 ^ 18) : ∃ ws lo hi d', R (n + 4) 7 [d] = some (.fr (.lst [kYes, kWord ws, kNum lo hi]), [some d']) ∧ (∀ x ∈ ws, IsTx 20 x) ∧ 2 ≤ ws.length ∧ ws.length ≤ 8 ∧ lo ≤ hi ∧ -1000000000 ≤ lo ∧ hi ≤ 1000000000 ∧ Hd (c + 20) d' := by
  obtain ⟨r, d1, e1, r0, r1, h1⟩ := take_ok (n + 2) h (by omega) (m := 2000000001) (by omega) (by omega)
  obtain ⟨x, d2, e2, hx, h2⟩ := of_lst (n + 1) h1 (by omega) (xs := [.int (-1000000000), .int 0, .int 1, .int (r - 1000000000)]) (by show 0 < 4; decide) (by show 4 < 2 ^ 40; decide)
  obtain ⟨lo, rfl, l0, l1⟩ : ∃ i, x = .int i ∧ -1000000000 ≤ i ∧ i ≤ 1000000000 := by
    simp at hx
    rcases hx with rfl | rfl | rfl | rfl
    · exact ⟨_, rfl, by omega, by omega⟩
    · exact ⟨_, rfl, by omega, by omega⟩
    · exact ⟨_, rfl, by omega, by omega⟩
    · exact ⟨_, rfl, by omega, by omega⟩
  obtain ⟨r2, d3, e3, s0, s1, h3⟩ := take_ok (n + 2) h2 (by omega) (m := 2000000001) (by omega) (by omega)
  obtain ⟨x, d4, e4, hx2, h4⟩ := of_lst (n + 1) h3 (by omega) (xs := [.int 0, .int 1, .int 5, .int r2]) (by show 0 < 4; decide) (by show 4 < 2 ^ 40; decide)
  obtain ⟨v, rfl, v0⟩ : ∃ i, x = .int i ∧ 0 ≤ i := by
    simp at hx2
    rcases hx2 with rfl | rfl | rfl | rfl
    · exact ⟨_, rfl, by omega⟩
    · exact ⟨_, rfl, by omega⟩
    · exact ⟨_, rfl, by omega⟩
    · exact ⟨_, rfl, by omega⟩
  obtain ⟨k, d5, e5, k0, k1, h5⟩ := take_ok (n + 2) h4 (by omega) (m := 7) (by omega) (by omega)
  obtain ⟨ws, d6, e6, hq, hl, h6⟩ := names_ok n h5 (by omega) (m := 2 + k) (by omega) (by omega)
  refine ⟨ws, lo, if lo + v < 1000000000 then lo + v else 1000000000, d6, ?_, hq, by omega, by omega, by split <;> omega, l0, by split <;> omega, h6.mono (by omega)⟩
  unfold R
  rw [run_fn (fd := f7) rfl rfl]
  simp [f7, eVar, eLit, eGlob, eOp, eNot, eAnd, eOr, eIfe, eChain, aNil, aPeek, aVar, aLit, aGlob, aOp, aNot, aAnd, aOr, aIfe, aChain, sIfe, sAsg, sAsgT, sPar, sSeti, sAug, sApp, sExt, sPop, sDrop, sRet, sRetN, sPass, sBrk, sCont, bNil, bCons, evSeq, evIfS, evalAnd, evalOr, evalIfs, applyT, looks, look, valsOf, borOk, putBack, putBor, primD, prBin, binD, prCmp, cmpD, prIdx, prNeg, prTup, prLst, prLen, prInt1, prBool1, prStr1, prAbs1, prMin2, prMax2, prSum1, prAll1, prAny1, prSorted1, prTuple1, prList1, prIsi, prDic0, prUpper, prJoin, prDivmod, prRepr1, prSlcFF, prSlcTF, prSlcFT, prSlcTT, slcD, storing, litD, truD, Rs.d, evAsg, evAsgT, evPar, evSeti, evAug, evApp, evExt, evPop, evDrop, evRet, tVar', tLit', tGlob', tOp', tNot', tAnd', tOr', tIfe', tChain', evalRs, setAll, ownD, putD, putSlot, slotFree, toSl, bindT, bindT.bindTs, startE, outsOf, slotD, Sl.isOwn, isLst, itemsD, itSeq, itRng1, itRng2, fin, isiD, augD, plainSlots, wipeE, backE, ix0, ix1, ix2, range1, range2, range3, rf4, rf5, rf6, e1, e2, e3, e4, e5, e6, one_le, two_le, three_le, four_le, kYes, kWord, kNum]
theorem nest_ok (n : Nat) {c : Int} {d : D} (h : Hd c d) (hc : c < 2 ^ 18) (x : D) : ∃ y d', R (n + 3) 8 [d, x] = some (.val y, [some d', none]) ∧ Hd (c + 60) d' := by
  obtain ⟨z, d1, e1, hz, h1⟩ := of_lst n h (by omega) (xs := [.int 1, .int 2, .int 50]) (by decide) (by decide)
  obtain ⟨k, rfl, k0, k6⟩ := ints_in (l := [1, 2, 50]) (k := 50) (by decide) (x := z) hz
  have sm := small_of k0 (by omega)
  have lm : (rngD 0 k).length = k.toNat := by rw [rngD_len]; simp
  obtain ⟨en, eF, d', y, s2, rfl, hs, h2⟩ := for_run (rf := rfOf fns) (C := R (n + 2)) (wf := 1000) (sx := f8F1) rfl [.bor d, .val x, .emp] [.bor d1, .val x, .emp] (xs := [.v (.int k)]) (ds := [.int k]) (rngD 0 k)
    (fun i en => ∃ d' y s2, en = [.bor d', .val y, s2] ∧ (s2 = .emp ∨ ∃ q, s2 = .val q) ∧ Hd (c + 1 + i) d')
    (by simp [eVar, eLit, eGlob, eOp, eNot, eAnd, eOr, eIfe, eChain, aNil, aPeek, aVar, aLit, aGlob, aOp, aNot, aAnd, aOr, aIfe, aChain, sIfe, sAsg, sAsgT, sPar, sSeti, sAug, sApp, sExt, sPop, sDrop, sRet, sRetN, sPass, sBrk, sCont, bNil, bCons, evSeq, evIfS, evalAnd, evalOr, evalIfs, applyT, looks, look, valsOf, borOk, putBack, putBor, primD, prBin, binD, prCmp, cmpD, prIdx, prNeg, prTup, prLst, prLen, prInt1, prBool1, prStr1, prAbs1, prMin2, prMax2, prSum1, prAll1, prAny1, prSorted1, prTuple1, prList1, prIsi, prDic0, prUpper, prJoin, prDivmod, prRepr1, prSlcFF, prSlcTF, prSlcFT, prSlcTT, slcD, storing, litD, truD, Rs.d, evAsg, evAsgT, evPar, evSeti, evAug, evApp, evExt, evPop, evDrop, evRet, tVar', tLit', tGlob', tOp', tNot', tAnd', tOr', tIfe', tChain', evalRs, setAll, ownD, putD, putSlot, slotFree, toSl, bindT, bindT.bindTs, startE, outsOf, slotD, Sl.isOwn, isLst, itemsD, itSeq, itRng1, itRng2, fin, isiD, augD, plainSlots, wipeE, backE, ix0, ix1, ix2, range1, range2, range3, rf5, e1, three_le]) rfl (by simp [eVar, eLit, eGlob, eOp, eNot, eAnd, eOr, eIfe, eChain, aNil, aPeek, aVar, aLit, aGlob, aOp, aNot, aAnd, aOr, aIfe, aChain, sIfe, sAsg, sAsgT, sPar, sSeti, sAug, sApp, sExt, sPop, sDrop, sRet, sRetN, sPass, sBrk, sCont, bNil, bCons, evSeq, evIfS, evalAnd, evalOr, evalIfs, applyT, looks, look, valsOf, borOk, putBack, putBor, primD, prBin, binD, prCmp, cmpD, prIdx, prNeg, prTup, prLst, prLen, prInt1, prBool1, prStr1, prAbs1, prMin2, prMax2, prSum1, prAll1, prAny1, prSorted1, prTuple1, prList1, prIsi, prDic0, prUpper, prJoin, prDivmod, prRepr1, prSlcFF, prSlcTF, prSlcFT, prSlcTT, slcD, storing, litD, truD, Rs.d, evAsg, evAsgT, evPar, evSeti, evAug, evApp, evExt, evPop, evDrop, evRet, tVar', tLit', tGlob', tOp', tNot', tAnd', tOr', tIfe', tChain', evalRs, setAll, ownD, putD, putSlot, slotFree, toSl, bindT, bindT.bindTs, startE, outsOf, slotD, Sl.isOwn, isLst, itemsD, itSeq, itRng1, itRng2, fin, isiD, augD, plainSlots, wipeE, backE, ix0, ix1, ix2, range1, range2, range3, sm]) ⟨d1, x, _, rfl, .inl rfl, by simpa using h1⟩ (by
      intro i w en hi hp
      obtain ⟨d2, y, s2, rfl, hs, h2⟩ := hp
      obtain ⟨rfl, hlt⟩ := rngD_get hi
      obtain ⟨t, d3, e3, t0, t1, h3⟩ := take_ok (n + 1) h2 (by omega) (m := 2) (by omega) (by omega)
      obtain ⟨q, eq, _⟩ := ix_in (xs := [D.tup [y], D.lst [y]]) t0 t1
      refine ⟨[.bor d3, .val q, .val (.int i)], ?_, d3, q, _, rfl, .inr ⟨_, rfl⟩, h3.mono (by omega)⟩
      rcases hs with rfl | ⟨_, rfl⟩ <;> simp [loTurn, f8F1B, eVar, eLit, eGlob, eOp, eNot, eAnd, eOr, eIfe, eChain, aNil, aPeek, aVar, aLit, aGlob, aOp, aNot, aAnd, aOr, aIfe, aChain, sIfe, sAsg, sAsgT, sPar, sSeti, sAug, sApp, sExt, sPop, sDrop, sRet, sRetN, sPass, sBrk, sCont, bNil, bCons, evSeq, evIfS, evalAnd, evalOr, evalIfs, applyT, looks, look, valsOf, borOk, putBack, putBor, primD, prBin, binD, prCmp, cmpD, prIdx, prNeg, prTup, prLst, prLen, prInt1, prBool1, prStr1, prAbs1, prMin2, prMax2, prSum1, prAll1, prAny1, prSorted1, prTuple1, prList1, prIsi, prDic0, prUpper, prJoin, prDivmod, prRepr1, prSlcFF, prSlcTF, prSlcFT, prSlcTT, slcD, storing, litD, truD, Rs.d, evAsg, evAsgT, evPar, evSeti, evAug, evApp, evExt, evPop, evDrop, evRet, tVar', tLit', tGlob', tOp', tNot', tAnd', tOr', tIfe', tChain', evalRs, setAll, ownD, putD, putSlot, slotFree, toSl, bindT, bindT.bindTs, startE, outsOf, slotD, Sl.isOwn, isLst, itemsD, itSeq, itRng1, itRng2, fin, isiD, augD, plainSlots, wipeE, backE, ix0, ix1, ix2, range1, range2, range3, rf4, e3, eq, one_le, two_le])
  refine ⟨y, d', ?_, h2.mono (by omega)⟩
  unfold R
  rw [run_fn (fd := f8) rfl rfl]
  simp [f8, eVar, eLit, eGlob, eOp, eNot, eAnd, eOr, eIfe, eChain, aNil, aPeek, aVar, aLit, aGlob, aOp, aNot, aAnd, aOr, aIfe, aChain, sIfe, sAsg, sAsgT, sPar, sSeti, sAug, sApp, sExt, sPop, sDrop, sRet, sRetN, sPass, sBrk, sCont, bNil, bCons, evSeq, evIfS, evalAnd, evalOr, evalIfs, applyT, looks, look, valsOf, borOk, putBack, putBor, primD, prBin, binD, prCmp, cmpD, prIdx, prNeg, prTup, prLst, prLen, prInt1, prBool1, prStr1, prAbs1, prMin2, prMax2, prSum1, prAll1, prAny1, prSorted1, prTuple1, prList1, prIsi, prDic0, prUpper, prJoin, prDivmod, prRepr1, prSlcFF, prSlcTF, prSlcFT, prSlcTT, slcD, storing, litD, truD, Rs.d, evAsg, evAsgT, evPar, evSeti, evAug, evApp, evExt, evPop, evDrop, evRet, tVar', tLit', tGlob', tOp', tNot', tAnd', tOr', tIfe', tChain', evalRs, setAll, ownD, putD, putSlot, slotFree, toSl, bindT, bindT.bindTs, startE, outsOf, slotD, Sl.isOwn, isLst, itemsD, itSeq, itRng1, itRng2, fin, isiD, augD, plainSlots, wipeE, backE, ix0, ix1, ix2, range1, range2, range3, eF]
theorem yw : (Str.ofString "yesno" == Str.ofString "word") = false := by decide +kernel
theorem wy : (Str.ofString "word" == Str.ofString "yesno") = false := by decide +kernel
theorem wn : (Str.ofString "word" == Str.ofString "number") = false := by decide +kernel
theorem nw : (Str.ofString "number" == Str.ofString "word") = false := by decide +kernel
theorem ny : (Str.ofString "number" == Str.ofString "yesno") = false := by decide +kernel
theorem yn : (Str.ofString "yesno" == Str.ofString "number") = false := by decide +kernel
theorem whole_ok (n : Nat) (x : D) : R (n + 1) 0 [x] = some (.val (.bl (isiD .int x && !isiD .bool x)), [none]) := by
  unfold R
  rw [run_fn (fd := f0) rfl rfl]
  cases x <;> simp [f0, eVar, eLit, eGlob, eOp, eNot, eAnd, eOr, eIfe, eChain, aNil, aPeek, aVar, aLit, aGlob, aOp, aNot, aAnd, aOr, aIfe, aChain, sIfe, sAsg, sAsgT, sPar, sSeti, sAug, sApp, sExt, sPop, sDrop, sRet, sRetN, sPass, sBrk, sCont, bNil, bCons, evSeq, evIfS, evalAnd, evalOr, evalIfs, applyT, looks, look, valsOf, borOk, putBack, putBor, primD, prBin, binD, prCmp, cmpD, prIdx, prNeg, prTup, prLst, prLen, prInt1, prBool1, prStr1, prAbs1, prMin2, prMax2, prSum1, prAll1, prAny1, prSorted1, prTuple1, prList1, prIsi, prDic0, prUpper, prJoin, prDivmod, prRepr1, prSlcFF, prSlcTF, prSlcFT, prSlcTT, slcD, storing, litD, truD, Rs.d, evAsg, evAsgT, evPar, evSeti, evAug, evApp, evExt, evPop, evDrop, evRet, tVar', tLit', tGlob', tOp', tNot', tAnd', tOr', tIfe', tChain', evalRs, setAll, ownD, putD, putSlot, slotFree, toSl, bindT, bindT.bindTs, startE, outsOf, slotD, Sl.isOwn, isLst, itemsD, itSeq, itRng1, itRng2, fin, isiD, augD, plainSlots, wipeE, backE, ix0, ix1, ix2, range1, range2, range3]
def inNum (lo hi : Int) : D → Bool
  | .int i => decide (lo ≤ i) && decide (i ≤ hi)
  | _ => false
def inWord (ws : List D) : D → Bool
  | .str w => inD (.str w) ws
  | _ => false
theorem betw_ok (n : Nat) (lo hi : Int) (x : D) : R (n + 2) 1 [x, .int lo, .int hi] = some (.val (.bl (inNum lo hi x)), [none, none, none]) := by
  have e := whole_ok n x
  unfold R
  rw [run_fn (fd := f1) rfl rfl]
  cases x <;> simp [f1, eVar, eLit, eGlob, eOp, eNot, eAnd, eOr, eIfe, eChain, aNil, aPeek, aVar, aLit, aGlob, aOp, aNot, aAnd, aOr, aIfe, aChain, sIfe, sAsg, sAsgT, sPar, sSeti, sAug, sApp, sExt, sPop, sDrop, sRet, sRetN, sPass, sBrk, sCont, bNil, bCons, evSeq, evIfS, evalAnd, evalOr, evalIfs, applyT, looks, look, valsOf, borOk, putBack, putBor, primD, prBin, binD, prCmp, cmpD, prIdx, prNeg, prTup, prLst, prLen, prInt1, prBool1, prStr1, prAbs1, prMin2, prMax2, prSum1, prAll1, prAny1, prSorted1, prTuple1, prList1, prIsi, prDic0, prUpper, prJoin, prDivmod, prRepr1, prSlcFF, prSlcTF, prSlcFT, prSlcTT, slcD, storing, litD, truD, Rs.d, evAsg, evAsgT, evPar, evSeti, evAug, evApp, evExt, evPop, evDrop, evRet, tVar', tLit', tGlob', tOp', tNot', tAnd', tOr', tIfe', tChain', evalRs, setAll, ownD, putD, putSlot, slotFree, toSl, bindT, bindT.bindTs, startE, outsOf, slotD, Sl.isOwn, isLst, itemsD, itSeq, itRng1, itRng2, fin, isiD, augD, plainSlots, wipeE, backE, ix0, ix1, ix2, range1, range2, range3, rf0, e, isiD, inNum]
  rename_i i
  by_cases h : lo ≤ i <;> simp [h]
theorem ws_flat {ws : List D} (h : ∀ x ∈ ws, IsTx 20 x) : ∀ x, x ∈ ws → flatD x = true := fun x hx => by
  obtain ⟨y, rfl, _⟩ := h x hx
  rfl
theorem fits_yes (n : Nat) (x : D) : R (n + 3) 2 [kYes, x] = some (.val (.bl (isiD .bool x)), [none, none]) := by
  unfold R
  rw [run_fn (fd := f2) rfl rfl]
  simp [f2, eVar, eLit, eGlob, eOp, eNot, eAnd, eOr, eIfe, eChain, aNil, aPeek, aVar, aLit, aGlob, aOp, aNot, aAnd, aOr, aIfe, aChain, sIfe, sAsg, sAsgT, sPar, sSeti, sAug, sApp, sExt, sPop, sDrop, sRet, sRetN, sPass, sBrk, sCont, bNil, bCons, evSeq, evIfS, evalAnd, evalOr, evalIfs, applyT, looks, look, valsOf, borOk, putBack, putBor, primD, prBin, binD, prCmp, cmpD, prIdx, prNeg, prTup, prLst, prLen, prInt1, prBool1, prStr1, prAbs1, prMin2, prMax2, prSum1, prAll1, prAny1, prSorted1, prTuple1, prList1, prIsi, prDic0, prUpper, prJoin, prDivmod, prRepr1, prSlcFF, prSlcTF, prSlcFT, prSlcTT, slcD, storing, litD, truD, Rs.d, evAsg, evAsgT, evPar, evSeti, evAug, evApp, evExt, evPop, evDrop, evRet, tVar', tLit', tGlob', tOp', tNot', tAnd', tOr', tIfe', tChain', evalRs, setAll, ownD, putD, putSlot, slotFree, toSl, bindT, bindT.bindTs, startE, outsOf, slotD, Sl.isOwn, isLst, itemsD, itSeq, itRng1, itRng2, fin, isiD, augD, plainSlots, wipeE, backE, ix0, ix1, ix2, range1, range2, range3, eqD, scalD, eqv, kYes]
theorem fits_word (n : Nat) {ws : List D} (h : ∀ x ∈ ws, IsTx 20 x) (x : D) : R (n + 3) 2 [kWord ws, x] = some (.val (.bl (inWord ws x)), [none, none]) := by
  have hf := ws_flat h
  unfold R
  rw [run_fn (fd := f2) rfl rfl]
  cases x <;> simp [f2, eVar, eLit, eGlob, eOp, eNot, eAnd, eOr, eIfe, eChain, aNil, aPeek, aVar, aLit, aGlob, aOp, aNot, aAnd, aOr, aIfe, aChain, sIfe, sAsg, sAsgT, sPar, sSeti, sAug, sApp, sExt, sPop, sDrop, sRet, sRetN, sPass, sBrk, sCont, bNil, bCons, evSeq, evIfS, evalAnd, evalOr, evalIfs, applyT, looks, look, valsOf, borOk, putBack, putBor, primD, prBin, binD, prCmp, cmpD, prIdx, prNeg, prTup, prLst, prLen, prInt1, prBool1, prStr1, prAbs1, prMin2, prMax2, prSum1, prAll1, prAny1, prSorted1, prTuple1, prList1, prIsi, prDic0, prUpper, prJoin, prDivmod, prRepr1, prSlcFF, prSlcTF, prSlcFT, prSlcTT, slcD, storing, litD, truD, Rs.d, evAsg, evAsgT, evPar, evSeti, evAug, evApp, evExt, evPop, evDrop, evRet, tVar', tLit', tGlob', tOp', tNot', tAnd', tOr', tIfe', tChain', evalRs, setAll, ownD, putD, putSlot, slotFree, toSl, bindT, bindT.bindTs, startE, outsOf, slotD, Sl.isOwn, isLst, itemsD, itSeq, itRng1, itRng2, fin, isiD, augD, plainSlots, wipeE, backE, ix0, ix1, ix2, range1, range2, range3, eqD, scalD, eqv, kWord, wy, inWord, flS, eq_true hf]
theorem fits_num (n : Nat) (lo hi : Int) (x : D) : R (n + 3) 2 [kNum lo hi, x] = some (.val (.bl (inNum lo hi x)), [none, none]) := by
  have e := betw_ok n lo hi x
  unfold R
  rw [run_fn (fd := f2) rfl rfl]
  simp [f2, eVar, eLit, eGlob, eOp, eNot, eAnd, eOr, eIfe, eChain, aNil, aPeek, aVar, aLit, aGlob, aOp, aNot, aAnd, aOr, aIfe, aChain, sIfe, sAsg, sAsgT, sPar, sSeti, sAug, sApp, sExt, sPop, sDrop, sRet, sRetN, sPass, sBrk, sCont, bNil, bCons, evSeq, evIfS, evalAnd, evalOr, evalIfs, applyT, looks, look, valsOf, borOk, putBack, putBor, primD, prBin, binD, prCmp, cmpD, prIdx, prNeg, prTup, prLst, prLen, prInt1, prBool1, prStr1, prAbs1, prMin2, prMax2, prSum1, prAll1, prAny1, prSorted1, prTuple1, prList1, prIsi, prDic0, prUpper, prJoin, prDivmod, prRepr1, prSlcFF, prSlcTF, prSlcFT, prSlcTT, slcD, storing, litD, truD, Rs.d, evAsg, evAsgT, evPar, evSeti, evAug, evApp, evExt, evPop, evDrop, evRet, tVar', tLit', tGlob', tOp', tNot', tAnd', tOr', tIfe', tChain', evalRs, setAll, ownD, putD, putSlot, slotFree, toSl, bindT, bindT.bindTs, startE, outsOf, slotD, Sl.isOwn, isLst, itemsD, itSeq, itRng1, itRng2, fin, isiD, augD, plainSlots, wipeE, backE, ix0, ix1, ix2, range1, range2, range3, eqD, scalD, eqv, kNum, ny, nw, rf1, e]
theorem tx_okDs {k : Nat} : ∀ {ws : List D}, (∀ x ∈ ws, IsTx k x) → okDs ws = true ∧ depDs ws = 0
  | [], _ => ⟨by simp [okDs], by simp [depDs]⟩
  | w :: ws, h => by
    obtain ⟨y, rfl, hy⟩ := h w List.mem_cons_self
    obtain ⟨h1, h2⟩ := tx_okDs (ws := ws) fun z hz => h z (List.mem_cons_of_mem _ hz)
    exact ⟨by simp [okDs, okD, hy.2, h1], by simp [depDs, depD, h2]⟩
theorem ok_s : PyData.strOk (Str.ofString "yesno") = true ∧ PyData.strOk (Str.ofString "word") = true ∧ PyData.strOk (Str.ofString "number") = true := by decide +kernel
theorem fit_yes : fitD kYes = true := by simp [fitD, okD, okDs, depD, depDs, ok_s]
theorem fit_num (lo hi : Int) : fitD (kNum lo hi) = true := by simp [fitD, okD, okDs, depD, depDs, ok_s]
theorem fit_word {ws : List D} (h : ∀ x ∈ ws, IsTx 20 x) : fitD (kWord ws) = true := by
  obtain ⟨h1, h2⟩ := tx_okDs h
  simp [fitD, okD, okDs, depD, depDs, ok_s, h1, h2]
theorem eq_yy : eqD kYes kYes = some true := by simp [eqD, fit_yes, scalD, eqv, eqvs]
theorem eq_wy {ws : List D} (h : ∀ x ∈ ws, IsTx 20 x) : eqD (kWord ws) kYes = some false := by
  have := fit_word h
  simp [eqD, fit_yes, this, scalD, eqv, eqvs, wy]
theorem eq_ny (lo hi : Int) : eqD (kNum lo hi) kYes = some false := by
  simp [eqD, fit_yes, fit_num, scalD, eqv, eqvs, ny]
theorem eqS (x y : Str) : eqD (.str x) (.str y) = some (x == y) := by simp [eqD, scalD, eqv]
theorem due_yes (n : Nat) (x : D) : R (n + 1) 10 [kYes, x] = some (.val (.bl (isiD .bool x)), [none, none]) := by
  have e := eq_yy
  unfold kYes at e
  unfold R
  rw [run_fn (fd := f10) rfl rfl]
  cases x <;> simp [f10, eVar, eLit, eGlob, eOp, eNot, eAnd, eOr, eIfe, eChain, aNil, aPeek, aVar, aLit, aGlob, aOp, aNot, aAnd, aOr, aIfe, aChain, sIfe, sAsg, sAsgT, sPar, sSeti, sAug, sApp, sExt, sPop, sDrop, sRet, sRetN, sPass, sBrk, sCont, bNil, bCons, evSeq, evIfS, evalAnd, evalOr, evalIfs, applyT, looks, look, valsOf, borOk, putBack, putBor, primD, prBin, binD, prCmp, cmpD, prIdx, prNeg, prTup, prLst, prLen, prInt1, prBool1, prStr1, prAbs1, prMin2, prMax2, prSum1, prAll1, prAny1, prSorted1, prTuple1, prList1, prIsi, prDic0, prUpper, prJoin, prDivmod, prRepr1, prSlcFF, prSlcTF, prSlcFT, prSlcTT, slcD, storing, litD, truD, Rs.d, evAsg, evAsgT, evPar, evSeti, evAug, evApp, evExt, evPop, evDrop, evRet, tVar', tLit', tGlob', tOp', tNot', tAnd', tOr', tIfe', tChain', evalRs, setAll, ownD, putD, putSlot, slotFree, toSl, bindT, bindT.bindTs, startE, outsOf, slotD, Sl.isOwn, isLst, itemsD, itSeq, itRng1, itRng2, fin, isiD, augD, plainSlots, wipeE, backE, ix0, ix1, ix2, range1, range2, range3, kYes, one_le, e, eqS, yw, yn]
theorem due_word (n : Nat) {ws : List D} (h : ∀ x ∈ ws, IsTx 20 x) (x : D) : R (n + 1) 10 [kWord ws, x] = some (.val (.bl (inWord ws x)), [none, none]) := by
  have e := eq_wy h
  have hf := ws_flat h
  unfold kYes kWord at e
  unfold R
  rw [run_fn (fd := f10) rfl rfl]
  cases x <;> simp [f10, eVar, eLit, eGlob, eOp, eNot, eAnd, eOr, eIfe, eChain, aNil, aPeek, aVar, aLit, aGlob, aOp, aNot, aAnd, aOr, aIfe, aChain, sIfe, sAsg, sAsgT, sPar, sSeti, sAug, sApp, sExt, sPop, sDrop, sRet, sRetN, sPass, sBrk, sCont, bNil, bCons, evSeq, evIfS, evalAnd, evalOr, evalIfs, applyT, looks, look, valsOf, borOk, putBack, putBor, primD, prBin, binD, prCmp, cmpD, prIdx, prNeg, prTup, prLst, prLen, prInt1, prBool1, prStr1, prAbs1, prMin2, prMax2, prSum1, prAll1, prAny1, prSorted1, prTuple1, prList1, prIsi, prDic0, prUpper, prJoin, prDivmod, prRepr1, prSlcFF, prSlcTF, prSlcFT, prSlcTT, slcD, storing, litD, truD, Rs.d, evAsg, evAsgT, evPar, evSeti, evAug, evApp, evExt, evPop, evDrop, evRet, tVar', tLit', tGlob', tOp', tNot', tAnd', tOr', tIfe', tChain', evalRs, setAll, ownD, putD, putSlot, slotFree, toSl, bindT, bindT.bindTs, startE, outsOf, slotD, Sl.isOwn, isLst, itemsD, itSeq, itRng1, itRng2, fin, isiD, augD, plainSlots, wipeE, backE, ix0, ix1, ix2, range1, range2, range3, kWord, one_le, e, eqS, wn, wy, inWord, flS, eq_true hf]
theorem due_num (n : Nat) (lo hi : Int) (x : D) : R (n + 1) 10 [kNum lo hi, x] = some (.val (.bl (inNum lo hi x)), [none, none]) := by
  have e := eq_ny lo hi
  unfold kYes kNum at e
  unfold R
  rw [run_fn (fd := f10) rfl rfl]
  cases x <;> simp [f10, eVar, eLit, eGlob, eOp, eNot, eAnd, eOr, eIfe, eChain, aNil, aPeek, aVar, aLit, aGlob, aOp, aNot, aAnd, aOr, aIfe, aChain, sIfe, sAsg, sAsgT, sPar, sSeti, sAug, sApp, sExt, sPop, sDrop, sRet, sRetN, sPass, sBrk, sCont, bNil, bCons, evSeq, evIfS, evalAnd, evalOr, evalIfs, applyT, looks, look, valsOf, borOk, putBack, putBor, primD, prBin, binD, prCmp, cmpD, prIdx, prNeg, prTup, prLst, prLen, prInt1, prBool1, prStr1, prAbs1, prMin2, prMax2, prSum1, prAll1, prAny1, prSorted1, prTuple1, prList1, prIsi, prDic0, prUpper, prJoin, prDivmod, prRepr1, prSlcFF, prSlcTF, prSlcFT, prSlcTT, slcD, storing, litD, truD, Rs.d, evAsg, evAsgT, evPar, evSeti, evAug, evApp, evExt, evPop, evDrop, evRet, tVar', tLit', tGlob', tOp', tNot', tAnd', tOr', tIfe', tChain', evalRs, setAll, ownD, putD, putSlot, slotFree, toSl, bindT, bindT.bindTs, startE, outsOf, slotD, Sl.isOwn, isLst, itemsD, itSeq, itRng1, itRng2, fin, isiD, augD, plainSlots, wipeE, backE, ix0, ix1, ix2, range1, range2, range3, kNum, one_le, e, eqS, nw, ny, inNum]
  rename_i i
  by_cases h : lo ≤ i <;> simp [h]
end Lk11
namespace Lk11
open PySem L2 Ofw
abbrev kds (ws : List D) (lo hi : Int) : D := .lst [kYes, kWord ws, kNum lo hi]
theorem lens : 18 ≤ sizeLine ∧ 22 ≤ sizeLine ∧ 26 ≤ sizeLine := by decide
theorem p18 : (18 + 4 : Nat) ≤ sizeLine := by decide
theorem p22 : (22 + 4 : Nat) ≤ sizeLine := by decide
theorem log_lt {m : Int} (h0 : -1000000000 ≤ m) (h1 : m ≤ 1000000000) : m.natAbs.log2 < 1920 := by
  rcases Nat.eq_zero_or_pos m.natAbs with e | e
  · rw [e]; decide
  · have := (Nat.log2_lt (n := m.natAbs) (k := 64) (by omega)).mpr (by omega)
    omega
theorem things_F1 (n : Nat) (d : D) (kd : D) (ws : List D) (lo hi : Int) (os : List D) (ho : os.length = 26) (hw : ∀ x ∈ ws, IsTx 20 x) (hl : ws.length ≤ 8) : ∃ out s3, execS (rfOf fns) (R n) 1000 f9F1 [.bor d, .val kd, .own (.lst os), .emp, .val (.tup ws), .val (.int lo), .val (.int hi)] =
    some (.nx, [.bor d, .val kd, .own (.lst out), s3, .val (.tup ws), .val (.int lo), .val (.int hi)]) ∧ out.length ≤ 66 := by
  obtain ⟨en, e1, out, s3, rfl, hs, hp⟩ := for_run (rf := rfOf fns) (C := R n) (wf := 1000) (sx := f9F1) rfl [.bor d, .val kd, .own (.lst os), .emp, .val (.tup ws), .val (.int lo), .val (.int hi)] [.bor d, .val kd, .own (.lst os), .emp, .val (.tup ws), .val (.int lo), .val (.int hi)] (xs := [.v (.tup ws)]) (ds := [.tup ws]) ws
    (fun i en => ∃ out s3, en = [.bor d, .val kd, .own (.lst out), s3, .val (.tup ws), .val (.int lo), .val (.int hi)] ∧ (s3 = .emp ∨ ∃ q, s3 = .val q) ∧ out.length = 26 + 5 * i)
    (by simp [eVar, eLit, eGlob, eOp, eNot, eAnd, eOr, eIfe, eChain, aNil, aPeek, aVar, aLit, aGlob, aOp, aNot, aAnd, aOr, aIfe, aChain, sIfe, sAsg, sAsgT, sPar, sSeti, sAug, sApp, sExt, sPop, sDrop, sRet, sRetN, sPass, sBrk, sCont, bNil, bCons, evSeq, evIfS, evalAnd, evalOr, evalIfs, applyT, looks, look, valsOf, borOk, putBack, putBor, primD, prBin, binD, prCmp, cmpD, prIdx, prNeg, prTup, prLst, prLen, prInt1, prBool1, prStr1, prAbs1, prMin2, prMax2, prSum1, prAll1, prAny1, prSorted1, prTuple1, prList1, prIsi, prDic0, prUpper, prJoin, prDivmod, prRepr1, prSlcFF, prSlcTF, prSlcFT, prSlcTT, slcD, storing, litD, truD, Rs.d, evAsg, evAsgT, evPar, evSeti, evAug, evApp, evExt, evPop, evDrop, evRet, tVar', tLit', tGlob', tOp', tNot', tAnd', tOr', tIfe', tChain', evalRs, setAll, ownD, putD, putSlot, slotFree, toSl, bindT, bindT.bindTs, startE, outsOf, slotD, Sl.isOwn, isLst, itemsD, itSeq, itRng1, itRng2, fin, isiD, augD, plainSlots, wipeE, backE, ix0, ix1, ix2, range1, range2, range3]) rfl (by simp [eVar, eLit, eGlob, eOp, eNot, eAnd, eOr, eIfe, eChain, aNil, aPeek, aVar, aLit, aGlob, aOp, aNot, aAnd, aOr, aIfe, aChain, sIfe, sAsg, sAsgT, sPar, sSeti, sAug, sApp, sExt, sPop, sDrop, sRet, sRetN, sPass, sBrk, sCont, bNil, bCons, evSeq, evIfS, evalAnd, evalOr, evalIfs, applyT, looks, look, valsOf, borOk, putBack, putBor, primD, prBin, binD, prCmp, cmpD, prIdx, prNeg, prTup, prLst, prLen, prInt1, prBool1, prStr1, prAbs1, prMin2, prMax2, prSum1, prAll1, prAny1, prSorted1, prTuple1, prList1, prIsi, prDic0, prUpper, prJoin, prDivmod, prRepr1, prSlcFF, prSlcTF, prSlcFT, prSlcTT, slcD, storing, litD, truD, Rs.d, evAsg, evAsgT, evPar, evSeti, evAug, evApp, evExt, evPop, evDrop, evRet, tVar', tLit', tGlob', tOp', tNot', tAnd', tOr', tIfe', tChain', evalRs, setAll, ownD, putD, putSlot, slotFree, toSl, bindT, bindT.bindTs, startE, outsOf, slotD, Sl.isOwn, isLst, itemsD, itSeq, itRng1, itRng2, fin, isiD, augD, plainSlots, wipeE, backE, ix0, ix1, ix2, range1, range2, range3]) ⟨os, .emp, rfl, .inl rfl, by omega⟩ (by
      intro i x en hix hp
      obtain ⟨out, s3, rfl, hs, ho⟩ := hp
      have hil : i < ws.length := (List.getElem?_eq_some_iff.mp hix).1
      obtain ⟨w, rfl, tw⟩ := hw x (List.mem_of_getElem? hix)
      have sl : sizeLine = 16777216 := by decide
      have l0 : w.length ≤ sizeLine := by have := tw.1; omega
      have l1 : w.length + (Str.ofString "a").length ≤ sizeLine := by
        have e : (Str.ofString "a").length = 1 := by decide +kernel
        rw [e]; have := tw.1; omega
      have l2 : w.length ≤ 5592405 := by have := tw.1; omega
      have l3 : out.length + 5 ≤ sizeLine := by omega
      refine ⟨[.bor d, .val kd, .own (.lst (out ++ [.str w, .str (w ++ Str.ofString "a"), .str ⟨(cutD w.cps.toList none (some (-1))).toArray⟩, .tup [.str w], .str (Txt.upper w)])), .val (.str w), .val (.tup ws), .val (.int lo), .val (.int hi)], ?_, _, _, rfl, .inr ⟨_, rfl⟩, by simp; omega⟩
      rcases hs with rfl | ⟨_, rfl⟩ <;> simp [loTurn, f9F1B, eVar, eLit, eGlob, eOp, eNot, eAnd, eOr, eIfe, eChain, aNil, aPeek, aVar, aLit, aGlob, aOp, aNot, aAnd, aOr, aIfe, aChain, sIfe, sAsg, sAsgT, sPar, sSeti, sAug, sApp, sExt, sPop, sDrop, sRet, sRetN, sPass, sBrk, sCont, bNil, bCons, evSeq, evIfS, evalAnd, evalOr, evalIfs, applyT, looks, look, valsOf, borOk, putBack, putBor, primD, prBin, binD, prCmp, cmpD, prIdx, prNeg, prTup, prLst, prLen, prInt1, prBool1, prStr1, prAbs1, prMin2, prMax2, prSum1, prAll1, prAny1, prSorted1, prTuple1, prList1, prIsi, prDic0, prUpper, prJoin, prDivmod, prRepr1, prSlcFF, prSlcTF, prSlcFT, prSlcTT, slcD, storing, litD, truD, Rs.d, evAsg, evAsgT, evPar, evSeti, evAug, evApp, evExt, evPop, evDrop, evRet, tVar', tLit', tGlob', tOp', tNot', tAnd', tOr', tIfe', tChain', evalRs, setAll, ownD, putD, putSlot, slotFree, toSl, bindT, bindT.bindTs, startE, outsOf, slotD, Sl.isOwn, isLst, itemsD, itSeq, itRng1, itRng2, fin, isiD, augD, plainSlots, wipeE, backE, ix0, ix1, ix2, range1, range2, range3, l0, l1, l2, l3, one_le, five_le])
  exact ⟨out, s3, e1, by omega⟩
theorem things_ok (n : Nat) {c : Int} {d : D} (h : Hd c d) (hc : c < 2 ^ 17) {ws : List D} {lo hi : Int} (hw : ∀ x ∈ ws, IsTx 20 x) (hw2 : 2 ≤ ws.length) (hw8 : ws.length ≤ 8) (hlh : lo ≤ hi) (hlo : -1000000000 ≤ lo) (hhi : hi ≤ 1000000000) :
    ∃ out d', R (n + 4) 9 [d, kds ws lo hi] = some (.fr (.lst out), [some d', none]) ∧ Hd (c + 70) d' := by
  obtain ⟨r, d1, e1, r0, r1, h1⟩ := take_ok (n + 2) h (by omega) (m := hi - lo + 1) (by omega) (by omega)
  have hl := log_lt hlo (show lo ≤ 1000000000 by omega)
  obtain ⟨out, s3, eF, ho⟩ := things_F1 (n + 3) d1 (kds ws lo hi) ws lo hi [.bl true, .bl false, .non, .int 0, .int 1, .int (-1), .int 2, .str (Str.ofString ""), .str (Str.ofString "yes"), .str (Str.ofString "no"), .str (Str.ofString "True"), .tup [], .lst [], .dic [], .int lo, .int hi, .int (lo - 1), .int (hi + 1), .int (lo + r), .str (Str.ofString lo.repr), .int 1000000000000000000000000000000, .int (-1000000000000000000000000000000), .tup [.int lo], .lst [.int hi], .tup ws, .lst ws] rfl hw hw8
  obtain ⟨w0, ew, _⟩ := ix_in (xs := ws) (i := 0) (by omega) (by omega)
  obtain ⟨y, d2, e2, hy, h2⟩ := of_lst (n + 1) h1 (by omega) (xs := [.bl true, .int lo, w0]) (by show 0 < 3; decide) (by show 3 < 2 ^ 40; decide)
  obtain ⟨z, d3, e3, h3⟩ := nest_ok n h2 (by omega) y
  have sl : sizeLine = 16777216 := by decide
  have eF' := eF
  unfold kds kYes kWord kNum at eF'
  have l4 : out.length + 1 ≤ sizeLine := by omega
  refine ⟨out ++ [z], d3, ?_, h3.mono (by omega)⟩
  unfold R
  rw [run_fn (fd := f9) rfl rfl]
  simp [f9, eVar, eLit, eGlob, eOp, eNot, eAnd, eOr, eIfe, eChain, aNil, aPeek, aVar, aLit, aGlob, aOp, aNot, aAnd, aOr, aIfe, aChain, sIfe, sAsg, sAsgT, sPar, sSeti, sAug, sApp, sExt, sPop, sDrop, sRet, sRetN, sPass, sBrk, sCont, bNil, bCons, evSeq, evIfS, evalAnd, evalOr, evalIfs, applyT, looks, look, valsOf, borOk, putBack, putBor, primD, prBin, binD, prCmp, cmpD, prIdx, prNeg, prTup, prLst, prLen, prInt1, prBool1, prStr1, prAbs1, prMin2, prMax2, prSum1, prAll1, prAny1, prSorted1, prTuple1, prList1, prIsi, prDic0, prUpper, prJoin, prDivmod, prRepr1, prSlcFF, prSlcTF, prSlcFT, prSlcTT, slcD, storing, litD, truD, Rs.d, evAsg, evAsgT, evPar, evSeti, evAug, evApp, evExt, evPop, evDrop, evRet, tVar', tLit', tGlob', tOp', tNot', tAnd', tOr', tIfe', tChain', evalRs, setAll, ownD, putD, putSlot, slotFree, toSl, bindT, bindT.bindTs, startE, outsOf, slotD, Sl.isOwn, isLst, itemsD, itSeq, itRng1, itRng2, fin, isiD, augD, plainSlots, wipeE, backE, ix0, ix1, ix2, range1, range2, range3, kds, kYes, kWord, kNum, rf4, rf5, rf8, e1, lens, p18, p22, one_le, four_le, three_le, zero_le', hl, eF', ew, e2, e3, l4]
end Lk11
namespace Lk11
open PySem L2 Ofw
def Fs (s : Sl) : Prop := s = .emp ∨ ∃ d, s = .val d
theorem kind_ok (n : Nat) {ws : List D} {lo hi : Int} (hw : ∀ x ∈ ws, IsTx 20 x) (x k : D) (hk : k ∈ [kYes, kWord ws, kNum lo hi]) : ∃ b, R (n + 4) 2 [k, x] = some (.val (.bl b), [none, none]) ∧ R (n + 4) 10 [k, x] = some (.val (.bl b), [none, none]) := by
  simp only [List.mem_cons, List.not_mem_nil, or_false] at hk
  rcases hk with rfl | rfl | rfl
  · exact ⟨_, fits_yes (n + 1) x, due_yes (n + 3) x⟩
  · exact ⟨_, fits_word (n + 1) hw x, due_word (n + 3) hw x⟩
  · exact ⟨_, fits_num (n + 1) lo hi x, due_num (n + 3) lo hi x⟩
theorem law_F1 (n : Nat) {ws : List D} {lo hi : Int} (hw : ∀ x ∈ ws, IsTx 20 x) (s0 s1 s2 : Sl) (x : D) (s5 s6 : Sl) (h5 : Fs s5) (h6 : Fs s6) : ∃ s5' s6', execS (rfOf fns) (R (n + 4)) 1000 f11F1 [s0, s1, s2, .val (kds ws lo hi), .val x, s5, s6] =
    some (.nx, [s0, s1, s2, .val (kds ws lo hi), .val x, s5', s6']) ∧ Fs s5' ∧ Fs s6' := by
  obtain ⟨en, e1, s5', s6', rfl, h1, h2⟩ := for_run (rf := rfOf fns) (C := R (n + 4)) (wf := 1000) (sx := f11F1) rfl [s0, s1, s2, .val (kds ws lo hi), .val x, s5, s6] [s0, s1, s2, .val (kds ws lo hi), .val x, s5, s6] (xs := [.v (kds ws lo hi)]) (ds := [kds ws lo hi]) [kYes, kWord ws, kNum lo hi]
    (fun i en => ∃ s5 s6, en = [s0, s1, s2, .val (kds ws lo hi), .val x, s5, s6] ∧ Fs s5 ∧ Fs s6)
    (by simp [eVar, eLit, eGlob, eOp, eNot, eAnd, eOr, eIfe, eChain, aNil, aPeek, aVar, aLit, aGlob, aOp, aNot, aAnd, aOr, aIfe, aChain, sIfe, sAsg, sAsgT, sPar, sSeti, sAug, sApp, sExt, sPop, sDrop, sRet, sRetN, sPass, sBrk, sCont, bNil, bCons, evSeq, evIfS, evalAnd, evalOr, evalIfs, applyT, looks, look, valsOf, borOk, putBack, putBor, primD, prBin, binD, prCmp, cmpD, prIdx, prNeg, prTup, prLst, prLen, prInt1, prBool1, prStr1, prAbs1, prMin2, prMax2, prSum1, prAll1, prAny1, prSorted1, prTuple1, prList1, prIsi, prDic0, prUpper, prJoin, prDivmod, prRepr1, prSlcFF, prSlcTF, prSlcFT, prSlcTT, slcD, storing, litD, truD, Rs.d, evAsg, evAsgT, evPar, evSeti, evAug, evApp, evExt, evPop, evDrop, evRet, tVar', tLit', tGlob', tOp', tNot', tAnd', tOr', tIfe', tChain', evalRs, setAll, ownD, putD, putSlot, slotFree, toSl, bindT, bindT.bindTs, startE, outsOf, slotD, Sl.isOwn, isLst, itemsD, itSeq, itRng1, itRng2, fin, isiD, augD, plainSlots, wipeE, backE, ix0, ix1, ix2, range1, range2, range3]) rfl (by simp [eVar, eLit, eGlob, eOp, eNot, eAnd, eOr, eIfe, eChain, aNil, aPeek, aVar, aLit, aGlob, aOp, aNot, aAnd, aOr, aIfe, aChain, sIfe, sAsg, sAsgT, sPar, sSeti, sAug, sApp, sExt, sPop, sDrop, sRet, sRetN, sPass, sBrk, sCont, bNil, bCons, evSeq, evIfS, evalAnd, evalOr, evalIfs, applyT, looks, look, valsOf, borOk, putBack, putBor, primD, prBin, binD, prCmp, cmpD, prIdx, prNeg, prTup, prLst, prLen, prInt1, prBool1, prStr1, prAbs1, prMin2, prMax2, prSum1, prAll1, prAny1, prSorted1, prTuple1, prList1, prIsi, prDic0, prUpper, prJoin, prDivmod, prRepr1, prSlcFF, prSlcTF, prSlcFT, prSlcTT, slcD, storing, litD, truD, Rs.d, evAsg, evAsgT, evPar, evSeti, evAug, evApp, evExt, evPop, evDrop, evRet, tVar', tLit', tGlob', tOp', tNot', tAnd', tOr', tIfe', tChain', evalRs, setAll, ownD, putD, putSlot, slotFree, toSl, bindT, bindT.bindTs, startE, outsOf, slotD, Sl.isOwn, isLst, itemsD, itSeq, itRng1, itRng2, fin, isiD, augD, plainSlots, wipeE, backE, ix0, ix1, ix2, range1, range2, range3, kds]) ⟨s5, s6, rfl, h5, h6⟩ (by
      intro i k en hi hp
      obtain ⟨s5, s6, rfl, h5, h6⟩ := hp
      obtain ⟨b, e1, e2⟩ := kind_ok n (ws := ws) (lo := lo) (hi := _) hw x k (List.mem_of_getElem? hi)
      refine ⟨[s0, s1, s2, .val (kds ws lo _), .val x, .val k, .val (.bl b)], ?_, _, _, rfl, .inr ⟨_, rfl⟩, .inr ⟨_, rfl⟩⟩
      rcases h5 with rfl | ⟨_, rfl⟩ <;> rcases h6 with rfl | ⟨_, rfl⟩ <;> simp [loTurn, f11F1B, eVar, eLit, eGlob, eOp, eNot, eAnd, eOr, eIfe, eChain, aNil, aPeek, aVar, aLit, aGlob, aOp, aNot, aAnd, aOr, aIfe, aChain, sIfe, sAsg, sAsgT, sPar, sSeti, sAug, sApp, sExt, sPop, sDrop, sRet, sRetN, sPass, sBrk, sCont, bNil, bCons, evSeq, evIfS, evalAnd, evalOr, evalIfs, applyT, looks, look, valsOf, borOk, putBack, putBor, primD, prBin, binD, prCmp, cmpD, prIdx, prNeg, prTup, prLst, prLen, prInt1, prBool1, prStr1, prAbs1, prMin2, prMax2, prSum1, prAll1, prAny1, prSorted1, prTuple1, prList1, prIsi, prDic0, prUpper, prJoin, prDivmod, prRepr1, prSlcFF, prSlcTF, prSlcFT, prSlcTT, slcD, storing, litD, truD, Rs.d, evAsg, evAsgT, evPar, evSeti, evAug, evApp, evExt, evPop, evDrop, evRet, tVar', tLit', tGlob', tOp', tNot', tAnd', tOr', tIfe', tChain', evalRs, setAll, ownD, putD, putSlot, slotFree, toSl, bindT, bindT.bindTs, startE, outsOf, slotD, Sl.isOwn, isLst, itemsD, itSeq, itRng1, itRng2, fin, isiD, augD, plainSlots, wipeE, backE, ix0, ix1, ix2, range1, range2, range3, rf2, rf10, e1, e2, eqD, scalD, eqv])
  exact ⟨s5', s6', e1, h1, h2⟩
theorem law_F2 (n : Nat) {c : Int} {d : D} (h : Hd c d) (hc : c < 2 ^ 17) {ws : List D} {lo hi : Int} (hw : ∀ x ∈ ws, IsTx 20 x) (hw2 : 2 ≤ ws.length) (hw8 : ws.length ≤ 8) (hlh : lo ≤ hi) (hlo : -1000000000 ≤ lo) (hhi : hi ≤ 1000000000) (s0 s1 s4 s5 s6 : Sl) (h4 : Fs s4) (h5 : Fs s5) (h6 : Fs s6) :
    ∃ d' s4' s5' s6', execS (rfOf fns) (R (n + 4)) 1000 f11F2 [s0, s1, .own d, .own (kds ws lo hi), s4, s5, s6] = some (.nx, [s0, s1, .own d', .val (kds ws lo hi), s4', s5', s6']) ∧ Fs s4' ∧ Fs s5' ∧ Fs s6' := by
  obtain ⟨out, d', e1, h1⟩ := things_ok n h hc hw hw2 hw8 hlh hlo hhi
  obtain ⟨en, e2, s4', s5', s6', rfl, q1, q2, q3⟩ := for_run (rf := rfOf fns) (C := R (n + 4)) (wf := 1000) (sx := f11F2) rfl [s0, s1, .own d, .own (kds ws lo hi), s4, s5, s6] [s0, s1, .own d', .val (kds ws lo hi), s4, s5, s6] (xs := [.v (.lst out)]) (ds := [.lst out]) out
    (fun i en => ∃ s4 s5 s6, en = [s0, s1, .own d', .val (kds ws lo hi), s4, s5, s6] ∧ Fs s4 ∧ Fs s5 ∧ Fs s6)
    (by simp [eVar, eLit, eGlob, eOp, eNot, eAnd, eOr, eIfe, eChain, aNil, aPeek, aVar, aLit, aGlob, aOp, aNot, aAnd, aOr, aIfe, aChain, sIfe, sAsg, sAsgT, sPar, sSeti, sAug, sApp, sExt, sPop, sDrop, sRet, sRetN, sPass, sBrk, sCont, bNil, bCons, evSeq, evIfS, evalAnd, evalOr, evalIfs, applyT, looks, look, valsOf, borOk, putBack, putBor, primD, prBin, binD, prCmp, cmpD, prIdx, prNeg, prTup, prLst, prLen, prInt1, prBool1, prStr1, prAbs1, prMin2, prMax2, prSum1, prAll1, prAny1, prSorted1, prTuple1, prList1, prIsi, prDic0, prUpper, prJoin, prDivmod, prRepr1, prSlcFF, prSlcTF, prSlcFT, prSlcTT, slcD, storing, litD, truD, Rs.d, evAsg, evAsgT, evPar, evSeti, evAug, evApp, evExt, evPop, evDrop, evRet, tVar', tLit', tGlob', tOp', tNot', tAnd', tOr', tIfe', tChain', evalRs, setAll, ownD, putD, putSlot, slotFree, toSl, bindT, bindT.bindTs, startE, outsOf, slotD, Sl.isOwn, isLst, itemsD, itSeq, itRng1, itRng2, fin, isiD, augD, plainSlots, wipeE, backE, ix0, ix1, ix2, range1, range2, range3, rf9, e1]) rfl (by simp [eVar, eLit, eGlob, eOp, eNot, eAnd, eOr, eIfe, eChain, aNil, aPeek, aVar, aLit, aGlob, aOp, aNot, aAnd, aOr, aIfe, aChain, sIfe, sAsg, sAsgT, sPar, sSeti, sAug, sApp, sExt, sPop, sDrop, sRet, sRetN, sPass, sBrk, sCont, bNil, bCons, evSeq, evIfS, evalAnd, evalOr, evalIfs, applyT, looks, look, valsOf, borOk, putBack, putBor, primD, prBin, binD, prCmp, cmpD, prIdx, prNeg, prTup, prLst, prLen, prInt1, prBool1, prStr1, prAbs1, prMin2, prMax2, prSum1, prAll1, prAny1, prSorted1, prTuple1, prList1, prIsi, prDic0, prUpper, prJoin, prDivmod, prRepr1, prSlcFF, prSlcTF, prSlcFT, prSlcTT, slcD, storing, litD, truD, Rs.d, evAsg, evAsgT, evPar, evSeti, evAug, evApp, evExt, evPop, evDrop, evRet, tVar', tLit', tGlob', tOp', tNot', tAnd', tOr', tIfe', tChain', evalRs, setAll, ownD, putD, putSlot, slotFree, toSl, bindT, bindT.bindTs, startE, outsOf, slotD, Sl.isOwn, isLst, itemsD, itSeq, itRng1, itRng2, fin, isiD, augD, plainSlots, wipeE, backE, ix0, ix1, ix2, range1, range2, range3]) ⟨s4, s5, s6, rfl, h4, h5, h6⟩ (by
      intro i x en hix hp
      obtain ⟨s4, s5, s6, rfl, h4, h5, h6⟩ := hp
      obtain ⟨s5', s6', e3, q5, q6⟩ := law_F1 n (lo := lo) (hi := hi) hw s0 s1 (.own d') x s5 s6 h5 h6
      refine ⟨[s0, s1, .own d', .val (kds ws lo hi), .val x, s5', s6'], ?_, _, _, _, rfl, .inr ⟨_, rfl⟩, q5, q6⟩
      rcases h4 with rfl | ⟨_, rfl⟩ <;> simp [loTurn, f11F2B, eVar, eLit, eGlob, eOp, eNot, eAnd, eOr, eIfe, eChain, aNil, aPeek, aVar, aLit, aGlob, aOp, aNot, aAnd, aOr, aIfe, aChain, sIfe, sAsg, sAsgT, sPar, sSeti, sAug, sApp, sExt, sPop, sDrop, sRet, sRetN, sPass, sBrk, sCont, bNil, bCons, evSeq, evIfS, evalAnd, evalOr, evalIfs, applyT, looks, look, valsOf, borOk, putBack, putBor, primD, prBin, binD, prCmp, cmpD, prIdx, prNeg, prTup, prLst, prLen, prInt1, prBool1, prStr1, prAbs1, prMin2, prMax2, prSum1, prAll1, prAny1, prSorted1, prTuple1, prList1, prIsi, prDic0, prUpper, prJoin, prDivmod, prRepr1, prSlcFF, prSlcTF, prSlcFT, prSlcTT, slcD, storing, litD, truD, Rs.d, evAsg, evAsgT, evPar, evSeti, evAug, evApp, evExt, evPop, evDrop, evRet, tVar', tLit', tGlob', tOp', tNot', tAnd', tOr', tIfe', tChain', evalRs, setAll, ownD, putD, putSlot, slotFree, toSl, bindT, bindT.bindTs, startE, outsOf, slotD, Sl.isOwn, isLst, itemsD, itSeq, itRng1, itRng2, fin, isiD, augD, plainSlots, wipeE, backE, ix0, ix1, ix2, range1, range2, range3, e3])
  exact ⟨d', s4', s5', s6', e2, q1, q2, q3⟩
theorem tells (ns : List Int) (hl : ns.length ≤ 63) (_hb : ∀ z ∈ ns, Builtin.Int.intBits z ≤ 1048576) : runF fns 1000 40 11 [.scr ns] = some (.val (.bl true), [none]) := by
  have hm : ∃ m : Int, (if (if (ns.length : Int) < 4 then (ns.length : Int) else 4) > 1 then (if (ns.length : Int) < 4 then (ns.length : Int) else 4) else 1) = m ∧ 0 ≤ m ∧ m ≤ 4 := ⟨_, rfl, by split <;> split <;> omega, by split <;> split <;> omega⟩
  obtain ⟨m, em, m0, m4⟩ := hm
  have sm := small_of m0 (by omega)
  obtain ⟨en, e1, s1, s2, s3, s4, s5, s6, rfl, _⟩ := for_run (rf := rfOf fns) (C := R 39) (wf := 1000) (sx := f11F3) rfl [.val (.scr ns), .emp, .emp, .emp, .emp, .emp, .emp] [.val (.scr ns), .emp, .emp, .emp, .emp, .emp, .emp] (xs := [.v (.int m)]) (ds := [.int m]) (rngD 0 m)
    (fun i en => ∃ s1 s2 s3 s4 s5 s6, en = [.val (.scr ns), s1, s2, s3, s4, s5, s6] ∧ ((s1 = .emp ∧ s2 = .emp ∧ s3 = .emp) ∨ ∃ a b c, s1 = .val a ∧ s2 = .own b ∧ s3 = .val c) ∧ Fs s4 ∧ Fs s5 ∧ Fs s6)
    (by simp [eVar, eLit, eGlob, eOp, eNot, eAnd, eOr, eIfe, eChain, aNil, aPeek, aVar, aLit, aGlob, aOp, aNot, aAnd, aOr, aIfe, aChain, sIfe, sAsg, sAsgT, sPar, sSeti, sAug, sApp, sExt, sPop, sDrop, sRet, sRetN, sPass, sBrk, sCont, bNil, bCons, evSeq, evIfS, evalAnd, evalOr, evalIfs, applyT, looks, look, valsOf, borOk, putBack, putBor, primD, prBin, binD, prCmp, cmpD, prIdx, prNeg, prTup, prLst, prLen, prInt1, prBool1, prStr1, prAbs1, prMin2, prMax2, prSum1, prAll1, prAny1, prSorted1, prTuple1, prList1, prIsi, prDic0, prUpper, prJoin, prDivmod, prRepr1, prSlcFF, prSlcTF, prSlcFT, prSlcTT, slcD, storing, litD, truD, Rs.d, evAsg, evAsgT, evPar, evSeti, evAug, evApp, evExt, evPop, evDrop, evRet, tVar', tLit', tGlob', tOp', tNot', tAnd', tOr', tIfe', tChain', evalRs, setAll, ownD, putD, putSlot, slotFree, toSl, bindT, bindT.bindTs, startE, outsOf, slotD, Sl.isOwn, isLst, itemsD, itSeq, itRng1, itRng2, fin, isiD, augD, plainSlots, wipeE, backE, ix0, ix1, ix2, range1, range2, range3, em]) rfl (by simp [eVar, eLit, eGlob, eOp, eNot, eAnd, eOr, eIfe, eChain, aNil, aPeek, aVar, aLit, aGlob, aOp, aNot, aAnd, aOr, aIfe, aChain, sIfe, sAsg, sAsgT, sPar, sSeti, sAug, sApp, sExt, sPop, sDrop, sRet, sRetN, sPass, sBrk, sCont, bNil, bCons, evSeq, evIfS, evalAnd, evalOr, evalIfs, applyT, looks, look, valsOf, borOk, putBack, putBor, primD, prBin, binD, prCmp, cmpD, prIdx, prNeg, prTup, prLst, prLen, prInt1, prBool1, prStr1, prAbs1, prMin2, prMax2, prSum1, prAll1, prAny1, prSorted1, prTuple1, prList1, prIsi, prDic0, prUpper, prJoin, prDivmod, prRepr1, prSlcFF, prSlcTF, prSlcFT, prSlcTT, slcD, storing, litD, truD, Rs.d, evAsg, evAsgT, evPar, evSeti, evAug, evApp, evExt, evPop, evDrop, evRet, tVar', tLit', tGlob', tOp', tNot', tAnd', tOr', tIfe', tChain', evalRs, setAll, ownD, putD, putSlot, slotFree, toSl, bindT, bindT.bindTs, startE, outsOf, slotD, Sl.isOwn, isLst, itemsD, itSeq, itRng1, itRng2, fin, isiD, augD, plainSlots, wipeE, backE, ix0, ix1, ix2, range1, range2, range3, sm]) ⟨_, _, _, _, _, _, rfl, .inl ⟨rfl, rfl, rfl⟩, .inl rfl, .inl rfl, .inl rfl⟩ (by
      intro i x en hix hp
      obtain ⟨s1, s2, s3, s4, s5, s6, rfl, h13, h4, h5, h6⟩ := hp
      obtain ⟨rfl, hlt⟩ := rngD_get hix
      obtain ⟨d, e2, hd⟩ := hand_ok 38 ns i (by omega)
      obtain ⟨ws, lo, hi, d2, e3, hw, hw2, hw8, hlh, hlo, hhi, hd2⟩ := kinds_ok 35 hd (by decide)
      obtain ⟨d3, s4', s5', s6', e4, q4, q5, q6⟩ := law_F2 35 hd2 (by decide) hw hw2 hw8 hlh hlo hhi (.val (.scr ns)) (.val (.int i)) s4 s5 s6 h4 h5 h6
      refine ⟨[.val (.scr ns), .val (.int i), .own d3, .val (kds ws lo hi), s4', s5', s6'], ?_, _, _, _, _, _, _, rfl, .inr ⟨_, _, _, rfl, rfl, rfl⟩, q4, q5, q6⟩
      rcases h13 with ⟨rfl, rfl, rfl⟩ | ⟨_, _, _, rfl, rfl, rfl⟩ <;> simp [loTurn, f11F3B, eVar, eLit, eGlob, eOp, eNot, eAnd, eOr, eIfe, eChain, aNil, aPeek, aVar, aLit, aGlob, aOp, aNot, aAnd, aOr, aIfe, aChain, sIfe, sAsg, sAsgT, sPar, sSeti, sAug, sApp, sExt, sPop, sDrop, sRet, sRetN, sPass, sBrk, sCont, bNil, bCons, evSeq, evIfS, evalAnd, evalOr, evalIfs, applyT, looks, look, valsOf, borOk, putBack, putBor, primD, prBin, binD, prCmp, cmpD, prIdx, prNeg, prTup, prLst, prLen, prInt1, prBool1, prStr1, prAbs1, prMin2, prMax2, prSum1, prAll1, prAny1, prSorted1, prTuple1, prList1, prIsi, prDic0, prUpper, prJoin, prDivmod, prRepr1, prSlcFF, prSlcTF, prSlcFT, prSlcTT, slcD, storing, litD, truD, Rs.d, evAsg, evAsgT, evPar, evSeti, evAug, evApp, evExt, evPop, evDrop, evRet, tVar', tLit', tGlob', tOp', tNot', tAnd', tOr', tIfe', tChain', evalRs, setAll, ownD, putD, putSlot, slotFree, toSl, bindT, bindT.bindTs, startE, outsOf, slotD, Sl.isOwn, isLst, itemsD, itSeq, itRng1, itRng2, fin, isiD, augD, plainSlots, wipeE, backE, ix0, ix1, ix2, range1, range2, range3, rf3, rf7, e2, e3, e4])
  rw [show (40 : Nat) = 39 + 1 from rfl, run_fn (fd := f11) rfl rfl]
  simp [f11, eVar, eLit, eGlob, eOp, eNot, eAnd, eOr, eIfe, eChain, aNil, aPeek, aVar, aLit, aGlob, aOp, aNot, aAnd, aOr, aIfe, aChain, sIfe, sAsg, sAsgT, sPar, sSeti, sAug, sApp, sExt, sPop, sDrop, sRet, sRetN, sPass, sBrk, sCont, bNil, bCons, evSeq, evIfS, evalAnd, evalOr, evalIfs, applyT, looks, look, valsOf, borOk, putBack, putBor, primD, prBin, binD, prCmp, cmpD, prIdx, prNeg, prTup, prLst, prLen, prInt1, prBool1, prStr1, prAbs1, prMin2, prMax2, prSum1, prAll1, prAny1, prSorted1, prTuple1, prList1, prIsi, prDic0, prUpper, prJoin, prDivmod, prRepr1, prSlcFF, prSlcTF, prSlcFT, prSlcTT, slcD, storing, litD, truD, Rs.d, evAsg, evAsgT, evPar, evSeti, evAug, evApp, evExt, evPop, evDrop, evRet, tVar', tLit', tGlob', tOp', tNot', tAnd', tOr', tIfe', tChain', evalRs, setAll, ownD, putD, putSlot, slotFree, toSl, bindT, bindT.bindTs, startE, outsOf, slotD, Sl.isOwn, isLst, itemsD, itSeq, itRng1, itRng2, fin, isiD, augD, plainSlots, wipeE, backE, ix0, ix1, ix2, range1, range2, range3, e1]
end Lk11
namespace Lk11
open PySem L2 Ofw
open PySem.Spec PyProof.Rows
theorem sc0 : FnScope ["thing"] ["thing"] (defScope (top 1)) := ⟨rfl, rfl, rfl, by decide +kernel, rfl, by decide +kernel, by decide +kernel⟩
theorem ck0 : chkB tab ["thing"] (defScope (top 1)) f0.body (defBody (top 1)) = true := by decide +kernel
theorem sc1 : FnScope ["thing", "least", "most"] ["thing", "least", "most"] (defScope (top 2)) := ⟨rfl, rfl, rfl, by decide +kernel, rfl, by decide +kernel, by decide +kernel⟩
theorem ck1 : chkB tab ["thing", "least", "most"] (defScope (top 2)) f1.body (defBody (top 2)) = true := by decide +kernel
theorem sc2 : FnScope ["kind", "thing"] ["kind", "thing"] (defScope (top 4)) := ⟨rfl, rfl, rfl, by decide +kernel, rfl, by decide +kernel, by decide +kernel⟩
theorem ck2 : chkB tab ["kind", "thing"] (defScope (top 4)) f2.body (defBody (top 4)) = true := by decide +kernel
theorem sc3 : FnScope ["_law_script", "_law_k", "_law_cell"] ["_law_script", "_law_k"] (defScope (top 6)) := ⟨rfl, rfl, rfl, by decide +kernel, rfl, by decide +kernel, by decide +kernel⟩
theorem ck3 : chkB tab ["_law_script", "_law_k", "_law_cell"] (defScope (top 6)) f3.body (defBody (top 6)) = true := by decide +kernel
theorem sc4 : FnScope ["_law_hand_here", "_law_many", "_law_turn", "_law_by", "_law_mixed", "_law_other", "_law_digit"] ["_law_hand_here", "_law_many"] (defScope (top 7)) := ⟨rfl, rfl, rfl, by decide +kernel, rfl, by decide +kernel, by decide +kernel⟩
theorem ck4 : chkB tab ["_law_hand_here", "_law_many", "_law_turn", "_law_by", "_law_mixed", "_law_other", "_law_digit"] (defScope (top 7)) f4.body (defBody (top 7)) = true := by decide +kernel
theorem sc5 : FnScope ["_law_hand_here", "_law_some"] ["_law_hand_here", "_law_some"] (defScope (top 8)) := ⟨rfl, rfl, rfl, by decide +kernel, rfl, by decide +kernel, by decide +kernel⟩
theorem ck5 : chkB tab ["_law_hand_here", "_law_some"] (defScope (top 8)) f5.body (defBody (top 8)) = true := by decide +kernel
theorem sc6 : FnScope ["_law_hand_here", "_law_many", "_law_letters", "_law_shut", "_law_stem", "_law_k", "_law_first", "_law_by", "_law_spot", "_law_found", "_law_number", "_law_pair", "_law_name"] ["_law_hand_here", "_law_many"] (defScope (top 9)) := ⟨rfl, rfl, rfl, by decide +kernel, rfl, by decide +kernel, by decide +kernel⟩
theorem ck6 : chkB tab ["_law_hand_here", "_law_many", "_law_letters", "_law_shut", "_law_stem", "_law_k", "_law_first", "_law_by", "_law_spot", "_law_found", "_law_number", "_law_pair", "_law_name"] (defScope (top 9)) f6.body (defBody (top 9)) = true := by decide +kernel
theorem sc7 : FnScope ["_law_hand_here", "_law_low", "_law_high", "_law_words"] ["_law_hand_here"] (defScope (top 10)) := ⟨rfl, rfl, rfl, by decide +kernel, rfl, by decide +kernel, by decide +kernel⟩
theorem ck7 : chkB tab ["_law_hand_here", "_law_low", "_law_high", "_law_words"] (defScope (top 10)) f7.body (defBody (top 10)) = true := by decide +kernel
theorem sc8 : FnScope ["_law_hand_here", "_law_thing", "_law_k"] ["_law_hand_here", "_law_thing"] (defScope (top 11)) := ⟨rfl, rfl, rfl, by decide +kernel, rfl, by decide +kernel, by decide +kernel⟩
theorem ck8 : chkB tab ["_law_hand_here", "_law_thing", "_law_k"] (defScope (top 11)) f8.body (defBody (top 11)) = true := by decide +kernel
theorem sc9 : FnScope ["_law_hand_here", "_law_kinds_here", "_law_some", "_law_word", "_law_words", "_law_low", "_law_high"] ["_law_hand_here", "_law_kinds_here"] (defScope (top 12)) := ⟨rfl, rfl, rfl, by decide +kernel, rfl, by decide +kernel, by decide +kernel⟩
theorem ck9 : chkB tab ["_law_hand_here", "_law_kinds_here", "_law_some", "_law_word", "_law_words", "_law_low", "_law_high"] (defScope (top 12)) f9.body (defBody (top 12)) = true := by decide +kernel
theorem sc10 : FnScope ["_law_kind", "_law_thing"] ["_law_kind", "_law_thing"] (defScope (top 13)) := ⟨rfl, rfl, rfl, by decide +kernel, rfl, by decide +kernel, by decide +kernel⟩
theorem ck10 : chkB tab ["_law_kind", "_law_thing"] (defScope (top 13)) f10.body (defBody (top 13)) = true := by decide +kernel
theorem sc11 : FnScope ["_law_script", "_law_k", "_law_hand_here", "_law_kinds_here", "_law_thing", "_law_kind", "_law_found"] ["_law_script"] (defScope (top 14)) := ⟨rfl, rfl, rfl, by decide +kernel, rfl, by decide +kernel, by decide +kernel⟩
theorem ck11 : chkB tab ["_law_script", "_law_k", "_law_hand_here", "_law_kinds_here", "_law_thing", "_law_kind", "_law_found"] (defScope (top 14)) f11.body (defBody (top 14)) = true := by decide +kernel
theorem at0 {K : PySem.W.Frag} {h : Heap} {mg : Str → Option Value} {a : Addr} {od an : Option Addr} {osl : Array (Option Value)} {oc kV doc pm cdv ct : Value} (X : K.In h) (G : h.Ns mainGlobals mg)
    (n : PySem.W.nsIn K mainGlobals "is_whole" = some (some (.ref a))) (l : K.lookup a = some ⟨oc, od, .func (PySem.W.fnOf "is_whole" "is_whole" (defArgs (top 1)) (defBody (top 1)) (defScope (top 1)) .none kV doc pm an cdv ct), osl⟩)
    (c : PySem.W.codeIn K cdv "is_whole" = true) (k : PySem.W.keepIn K (.ref a) = true) : ∃ a fd, FnAt K mg tab fns 0 "is_whole" a fd ["thing"] :=
  ⟨a, fn_at X G n l c k (fun _ _ _ _ _ _ us hl => match us, hl with | [_], _ => rfl) sc0 rfl rfl rfl ck0⟩
theorem at1 {K : PySem.W.Frag} {h : Heap} {mg : Str → Option Value} {a : Addr} {od an : Option Addr} {osl : Array (Option Value)} {oc kV doc pm cdv ct : Value} (X : K.In h) (G : h.Ns mainGlobals mg)
    (n : PySem.W.nsIn K mainGlobals "is_between" = some (some (.ref a))) (l : K.lookup a = some ⟨oc, od, .func (PySem.W.fnOf "is_between" "is_between" (defArgs (top 2)) (defBody (top 2)) (defScope (top 2)) .none kV doc pm an cdv ct), osl⟩)
    (c : PySem.W.codeIn K cdv "is_between" = true) (k : PySem.W.keepIn K (.ref a) = true) : ∃ a fd, FnAt K mg tab fns 1 "is_between" a fd ["thing", "least", "most"] :=
  ⟨a, fn_at X G n l c k (fun _ _ _ _ _ _ us hl => match us, hl with | [_, _, _], _ => rfl) sc1 rfl rfl rfl ck1⟩
theorem at2 {K : PySem.W.Frag} {h : Heap} {mg : Str → Option Value} {a : Addr} {od an : Option Addr} {osl : Array (Option Value)} {oc kV doc pm cdv ct : Value} (X : K.In h) (G : h.Ns mainGlobals mg)
    (n : PySem.W.nsIn K mainGlobals "fits" = some (some (.ref a))) (l : K.lookup a = some ⟨oc, od, .func (PySem.W.fnOf "fits" "fits" (defArgs (top 4)) (defBody (top 4)) (defScope (top 4)) .none kV doc pm an cdv ct), osl⟩)
    (c : PySem.W.codeIn K cdv "fits" = true) (k : PySem.W.keepIn K (.ref a) = true) : ∃ a fd, FnAt K mg tab fns 2 "fits" a fd ["kind", "thing"] :=
  ⟨a, fn_at X G n l c k (fun _ _ _ _ _ _ us hl => match us, hl with | [_, _], _ => rfl) sc2 rfl rfl rfl ck2⟩
theorem at3 {K : PySem.W.Frag} {h : Heap} {mg : Str → Option Value} {a : Addr} {od an : Option Addr} {osl : Array (Option Value)} {oc kV doc pm cdv ct : Value} (X : K.In h) (G : h.Ns mainGlobals mg)
    (n : PySem.W.nsIn K mainGlobals "_law_hand" = some (some (.ref a))) (l : K.lookup a = some ⟨oc, od, .func (PySem.W.fnOf "_law_hand" "_law_hand" (defArgs (top 6)) (defBody (top 6)) (defScope (top 6)) .none kV doc pm an cdv ct), osl⟩)
    (c : PySem.W.codeIn K cdv "_law_hand" = true) (k : PySem.W.keepIn K (.ref a) = true) : ∃ a fd, FnAt K mg tab fns 3 "_law_hand" a fd ["_law_script", "_law_k"] :=
  ⟨a, fn_at X G n l c k (fun _ _ _ _ _ _ us hl => match us, hl with | [_, _], _ => rfl) sc3 rfl rfl rfl ck3⟩
theorem at4 {K : PySem.W.Frag} {h : Heap} {mg : Str → Option Value} {a : Addr} {od an : Option Addr} {osl : Array (Option Value)} {oc kV doc pm cdv ct : Value} (X : K.In h) (G : h.Ns mainGlobals mg)
    (n : PySem.W.nsIn K mainGlobals "_law_take" = some (some (.ref a))) (l : K.lookup a = some ⟨oc, od, .func (PySem.W.fnOf "_law_take" "_law_take" (defArgs (top 7)) (defBody (top 7)) (defScope (top 7)) .none kV doc pm an cdv ct), osl⟩)
    (c : PySem.W.codeIn K cdv "_law_take" = true) (k : PySem.W.keepIn K (.ref a) = true) : ∃ a fd, FnAt K mg tab fns 4 "_law_take" a fd ["_law_hand_here", "_law_many"] :=
  ⟨a, fn_at X G n l c k (fun _ _ _ _ _ _ us hl => match us, hl with | [_, _], _ => rfl) sc4 rfl rfl rfl ck4⟩
theorem at5 {K : PySem.W.Frag} {h : Heap} {mg : Str → Option Value} {a : Addr} {od an : Option Addr} {osl : Array (Option Value)} {oc kV doc pm cdv ct : Value} (X : K.In h) (G : h.Ns mainGlobals mg)
    (n : PySem.W.nsIn K mainGlobals "_law_of" = some (some (.ref a))) (l : K.lookup a = some ⟨oc, od, .func (PySem.W.fnOf "_law_of" "_law_of" (defArgs (top 8)) (defBody (top 8)) (defScope (top 8)) .none kV doc pm an cdv ct), osl⟩)
    (c : PySem.W.codeIn K cdv "_law_of" = true) (k : PySem.W.keepIn K (.ref a) = true) : ∃ a fd, FnAt K mg tab fns 5 "_law_of" a fd ["_law_hand_here", "_law_some"] :=
  ⟨a, fn_at X G n l c k (fun _ _ _ _ _ _ us hl => match us, hl with | [_, _], _ => rfl) sc5 rfl rfl rfl ck5⟩
theorem at6 {K : PySem.W.Frag} {h : Heap} {mg : Str → Option Value} {a : Addr} {od an : Option Addr} {osl : Array (Option Value)} {oc kV doc pm cdv ct : Value} (X : K.In h) (G : h.Ns mainGlobals mg)
    (n : PySem.W.nsIn K mainGlobals "_law_names" = some (some (.ref a))) (l : K.lookup a = some ⟨oc, od, .func (PySem.W.fnOf "_law_names" "_law_names" (defArgs (top 9)) (defBody (top 9)) (defScope (top 9)) .none kV doc pm an cdv ct), osl⟩)
    (c : PySem.W.codeIn K cdv "_law_names" = true) (k : PySem.W.keepIn K (.ref a) = true) : ∃ a fd, FnAt K mg tab fns 6 "_law_names" a fd ["_law_hand_here", "_law_many"] :=
  ⟨a, fn_at X G n l c k (fun _ _ _ _ _ _ us hl => match us, hl with | [_, _], _ => rfl) sc6 rfl rfl rfl ck6⟩
theorem at7 {K : PySem.W.Frag} {h : Heap} {mg : Str → Option Value} {a : Addr} {od an : Option Addr} {osl : Array (Option Value)} {oc kV doc pm cdv ct : Value} (X : K.In h) (G : h.Ns mainGlobals mg)
    (n : PySem.W.nsIn K mainGlobals "_law_kinds" = some (some (.ref a))) (l : K.lookup a = some ⟨oc, od, .func (PySem.W.fnOf "_law_kinds" "_law_kinds" (defArgs (top 10)) (defBody (top 10)) (defScope (top 10)) .none kV doc pm an cdv ct), osl⟩)
    (c : PySem.W.codeIn K cdv "_law_kinds" = true) (k : PySem.W.keepIn K (.ref a) = true) : ∃ a fd, FnAt K mg tab fns 7 "_law_kinds" a fd ["_law_hand_here"] :=
  ⟨a, fn_at X G n l c k (fun _ _ _ _ _ _ us hl => match us, hl with | [_], _ => rfl) sc7 rfl rfl rfl ck7⟩
theorem at8 {K : PySem.W.Frag} {h : Heap} {mg : Str → Option Value} {a : Addr} {od an : Option Addr} {osl : Array (Option Value)} {oc kV doc pm cdv ct : Value} (X : K.In h) (G : h.Ns mainGlobals mg)
    (n : PySem.W.nsIn K mainGlobals "_law_nest" = some (some (.ref a))) (l : K.lookup a = some ⟨oc, od, .func (PySem.W.fnOf "_law_nest" "_law_nest" (defArgs (top 11)) (defBody (top 11)) (defScope (top 11)) .none kV doc pm an cdv ct), osl⟩)
    (c : PySem.W.codeIn K cdv "_law_nest" = true) (k : PySem.W.keepIn K (.ref a) = true) : ∃ a fd, FnAt K mg tab fns 8 "_law_nest" a fd ["_law_hand_here", "_law_thing"] :=
  ⟨a, fn_at X G n l c k (fun _ _ _ _ _ _ us hl => match us, hl with | [_, _], _ => rfl) sc8 rfl rfl rfl ck8⟩
theorem at9 {K : PySem.W.Frag} {h : Heap} {mg : Str → Option Value} {a : Addr} {od an : Option Addr} {osl : Array (Option Value)} {oc kV doc pm cdv ct : Value} (X : K.In h) (G : h.Ns mainGlobals mg)
    (n : PySem.W.nsIn K mainGlobals "_law_things" = some (some (.ref a))) (l : K.lookup a = some ⟨oc, od, .func (PySem.W.fnOf "_law_things" "_law_things" (defArgs (top 12)) (defBody (top 12)) (defScope (top 12)) .none kV doc pm an cdv ct), osl⟩)
    (c : PySem.W.codeIn K cdv "_law_things" = true) (k : PySem.W.keepIn K (.ref a) = true) : ∃ a fd, FnAt K mg tab fns 9 "_law_things" a fd ["_law_hand_here", "_law_kinds_here"] :=
  ⟨a, fn_at X G n l c k (fun _ _ _ _ _ _ us hl => match us, hl with | [_, _], _ => rfl) sc9 rfl rfl rfl ck9⟩
theorem at10 {K : PySem.W.Frag} {h : Heap} {mg : Str → Option Value} {a : Addr} {od an : Option Addr} {osl : Array (Option Value)} {oc kV doc pm cdv ct : Value} (X : K.In h) (G : h.Ns mainGlobals mg)
    (n : PySem.W.nsIn K mainGlobals "_law_due" = some (some (.ref a))) (l : K.lookup a = some ⟨oc, od, .func (PySem.W.fnOf "_law_due" "_law_due" (defArgs (top 13)) (defBody (top 13)) (defScope (top 13)) .none kV doc pm an cdv ct), osl⟩)
    (c : PySem.W.codeIn K cdv "_law_due" = true) (k : PySem.W.keepIn K (.ref a) = true) : ∃ a fd, FnAt K mg tab fns 10 "_law_due" a fd ["_law_kind", "_law_thing"] :=
  ⟨a, fn_at X G n l c k (fun _ _ _ _ _ _ us hl => match us, hl with | [_, _], _ => rfl) sc10 rfl rfl rfl ck10⟩
theorem at11 {K : PySem.W.Frag} {h : Heap} {mg : Str → Option Value} {a : Addr} {od an : Option Addr} {osl : Array (Option Value)} {oc kV doc pm cdv ct : Value} (X : K.In h) (G : h.Ns mainGlobals mg)
    (n : PySem.W.nsIn K mainGlobals "law" = some (some (.ref a))) (l : K.lookup a = some ⟨oc, od, .func (PySem.W.fnOf "law" "law" (defArgs (top 14)) (defBody (top 14)) (defScope (top 14)) .none kV doc pm an cdv ct), osl⟩)
    (c : PySem.W.codeIn K cdv "law" = true) (k : PySem.W.keepIn K (.ref a) = true) : ∃ a fd, FnAt K mg tab fns 11 "law" a fd ["_law_script"] :=
  ⟨a, fn_at X G n l c k (fun _ _ _ _ _ _ us hl => match us, hl with | [_], _ => rfl) sc11 rfl rfl rfl ck11⟩
structure Txt (K : PySem.W.Frag) (mg : Str → Option Value) : Prop where
  d0 : ∃ a fd, FnAt K mg tab fns 0 "is_whole" a fd ["thing"]
  d1 : ∃ a fd, FnAt K mg tab fns 1 "is_between" a fd ["thing", "least", "most"]
  d2 : ∃ a fd, FnAt K mg tab fns 2 "fits" a fd ["kind", "thing"]
  d3 : ∃ a fd, FnAt K mg tab fns 3 "_law_hand" a fd ["_law_script", "_law_k"]
  d4 : ∃ a fd, FnAt K mg tab fns 4 "_law_take" a fd ["_law_hand_here", "_law_many"]
  d5 : ∃ a fd, FnAt K mg tab fns 5 "_law_of" a fd ["_law_hand_here", "_law_some"]
  d6 : ∃ a fd, FnAt K mg tab fns 6 "_law_names" a fd ["_law_hand_here", "_law_many"]
  d7 : ∃ a fd, FnAt K mg tab fns 7 "_law_kinds" a fd ["_law_hand_here"]
  d8 : ∃ a fd, FnAt K mg tab fns 8 "_law_nest" a fd ["_law_hand_here", "_law_thing"]
  d9 : ∃ a fd, FnAt K mg tab fns 9 "_law_things" a fd ["_law_hand_here", "_law_kinds_here"]
  d10 : ∃ a fd, FnAt K mg tab fns 10 "_law_due" a fd ["_law_kind", "_law_thing"]
  d11 : ∃ a fd, FnAt K mg tab fns 11 "law" a fd ["_law_script"]
  b : Each (fun x => mg x = none) blts
theorem fns_ok {K : PySem.W.Frag} {mg : Str → Option Value} (t : Txt K mg) (x : Str) (g : Nat) (e : tab.fn x = some g) : ∃ a fd prs, FnAt K mg tab fns g x a fd prs :=
  Each.lookup (p := fun p => ∃ a fd prs, FnAt K mg tab fns p.2 p.1 a fd prs) (l := tbl) ⟨(let ⟨a, fd, F⟩ := t.d0; ⟨a, fd, _, F⟩), (let ⟨a, fd, F⟩ := t.d1; ⟨a, fd, _, F⟩), (let ⟨a, fd, F⟩ := t.d2; ⟨a, fd, _, F⟩), (let ⟨a, fd, F⟩ := t.d3; ⟨a, fd, _, F⟩), (let ⟨a, fd, F⟩ := t.d4; ⟨a, fd, _, F⟩), (let ⟨a, fd, F⟩ := t.d5; ⟨a, fd, _, F⟩), (let ⟨a, fd, F⟩ := t.d6; ⟨a, fd, _, F⟩), (let ⟨a, fd, F⟩ := t.d7; ⟨a, fd, _, F⟩), (let ⟨a, fd, F⟩ := t.d8; ⟨a, fd, _, F⟩), (let ⟨a, fd, F⟩ := t.d9; ⟨a, fd, _, F⟩), (let ⟨a, fd, F⟩ := t.d10; ⟨a, fd, _, F⟩), (let ⟨a, fd, F⟩ := t.d11; ⟨a, fd, _, F⟩), trivial⟩ e
theorem csts_ok {K : PySem.W.Frag} {mg : Str → Option Value} (t : Txt K mg) : ∀ (x : Str) (c : Const), tab.cst x = some c → ∃ u, mg x = some u ∧ match c with
      | .int i => ∃ t, u = .int i t
      | .str s => ∃ t, u = .str s t
      | .bool b => u = .bool b
      | _ => False := by
  intro x c e
  cases e
theorem walk {l : PySem.W.OpenLaw} {q : Program} {loose : List Str} {XP : (Str → Option Value) → Heap → Prop} {YP : World → Heap → Prop} {d : DefRec} {K : Params → PySem.W.Frag} (hn : l.most = some 63) (hdf : d.params.defaults = []) (hd : d.name = "law")
    (hY : ∀ (w : World) (h : Heap), YP w h → (K w.params).In h) (F : ∀ (w : World) (mg : Str → Option Value) (h : Heap), (K w.params).In h → h.Ns mainGlobals mg → Txt (K w.params) mg) :
    PySem.W.WalkO q loose XP YP l.row.toRowW d [] (fun f vs => PySem.call f vs) := by
  refine walk_run (T := tab) (ps := fns) (wf := 1000) (kk := 40) (f := 11) (px := "_law_script") hn hdf ⟨rfl, by decide, by decide⟩ hY rfl (fun w mg fa h X G e => ?_) tells
  have t := F w mg h X G
  refine ⟨?_, fns_ok t, fun x hx => Each.mem (p := fun x => mg x = none) (l := blts) t.b (List.contains_iff_mem.mp hx), csts_ok t⟩
  obtain ⟨a, fd, A⟩ := t.d11
  rw [hd] at e ⊢
  have := A.mg.symm.trans e
  cases this
  exact ⟨fd, A⟩
end Lk11
open PySem PySem.W PyProof.Rows
set_option maxRecDepth 100000 in
set_option maxHeartbeats 0 in
theorem PySem.Challenge.cw_officewords_k11_worths_of_kinds_holds : PySem.Challenge.rw_officewords_k11_worths_of_kinds.Holds := by
  w_on; o_law; k_head; (case hw => w_witness2)
  k_fill
  refine Lk11.walk (l := PySem.Challenge.rw_officewords_k11_worths_of_kinds) rfl rfl rfl (fun w h Y => PySem.W.kIn_of Y) ?F
  case F =>
    intro w mg h KX G
    refine Lk11.Txt.mk ?d0 ?d1 ?d2 ?d3 ?d4 ?d5 ?d6 ?d7 ?d8 ?d9 ?d10 ?d11 ?b 
    case d0 =>
      refine' Lk11.at0 KX G ?n0 ?l0 ?e0 ?k0; (case n0 => k_is); (case l0 => k_is); (case e0 => k_is); (case k0 => k_is)
    case d1 =>
      refine' Lk11.at1 KX G ?n1 ?l1 ?e1 ?k1; (case n1 => k_is); (case l1 => k_is); (case e1 => k_is); (case k1 => k_is)
    case d2 =>
      refine' Lk11.at2 KX G ?n2 ?l2 ?e2 ?k2; (case n2 => k_is); (case l2 => k_is); (case e2 => k_is); (case k2 => k_is)
    case d3 =>
      refine' Lk11.at3 KX G ?n3 ?l3 ?e3 ?k3; (case n3 => k_is); (case l3 => k_is); (case e3 => k_is); (case k3 => k_is)
    case d4 =>
      refine' Lk11.at4 KX G ?n4 ?l4 ?e4 ?k4; (case n4 => k_is); (case l4 => k_is); (case e4 => k_is); (case k4 => k_is)
    case d5 =>
      refine' Lk11.at5 KX G ?n5 ?l5 ?e5 ?k5; (case n5 => k_is); (case l5 => k_is); (case e5 => k_is); (case k5 => k_is)
    case d6 =>
      refine' Lk11.at6 KX G ?n6 ?l6 ?e6 ?k6; (case n6 => k_is); (case l6 => k_is); (case e6 => k_is); (case k6 => k_is)
    case d7 =>
      refine' Lk11.at7 KX G ?n7 ?l7 ?e7 ?k7; (case n7 => k_is); (case l7 => k_is); (case e7 => k_is); (case k7 => k_is)
    case d8 =>
      refine' Lk11.at8 KX G ?n8 ?l8 ?e8 ?k8; (case n8 => k_is); (case l8 => k_is); (case e8 => k_is); (case k8 => k_is)
    case d9 =>
      refine' Lk11.at9 KX G ?n9 ?l9 ?e9 ?k9; (case n9 => k_is); (case l9 => k_is); (case e9 => k_is); (case k9 => k_is)
    case d10 =>
      refine' Lk11.at10 KX G ?n10 ?l10 ?e10 ?k10; (case n10 => k_is); (case l10 => k_is); (case e10 => k_is); (case k10 => k_is)
    case d11 =>
      refine' Lk11.at11 KX G ?n11 ?l11 ?e11 ?k11; (case n11 => k_is); (case l11 => k_is); (case e11 => k_is); (case k11 => k_is)
    case b =>
      refine ⟨PySem.W.mg_none_of KX G ?z0, PySem.W.mg_none_of KX G ?z1, PySem.W.mg_none_of KX G ?z2, PySem.W.mg_none_of KX G ?z3, PySem.W.mg_none_of KX G ?z4, PySem.W.mg_none_of KX G ?z5, PySem.W.mg_none_of KX G ?z6, PySem.W.mg_none_of KX G ?z7, PySem.W.mg_none_of KX G ?z8, PySem.W.mg_none_of KX G ?z9, trivial⟩
      (case z0 => k_is)
      (case z1 => k_is)
      (case z2 => k_is)
      (case z3 => k_is)
      (case z4 => k_is)
      (case z5 => k_is)
      (case z6 => k_is)
      (case z7 => k_is)
      (case z8 => k_is)
      (case z9 => k_is)
