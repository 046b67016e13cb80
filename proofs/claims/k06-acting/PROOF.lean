import PyProof.Rows.All
import Wide.All
import OpenK.AllK
import Wide.FinOn
import HandS.Conv
import HandS.Dict
import HandS.EndBits
import HandS.Flow
import HandS.ForExc
import HandS.ForMost
import HandS.IsInst
import HandS.ListItems
import HandS.More
import HandS.SetFor
import HandS.SortInts
import HandS.SortKw
import HandS.Strs
import HandS.Style
import HandS.Text
import HandS.TupAny
import HandS.TupMul
import HandS.Wide
import HandS.Zip
import PyProof.CallFns
import PyProof.FitsInt
import PyProof.LongRange
import PyProof.ReprLen
import PyProof.RowDictHeap
import PyProof.Rows.SortShellAny
import PyProof.StrLawsRepr
import PyProof.StrOps2
import PySem.Challenge.RW_officewords_k06_acting_reached
set_option Elab.async false
set_option autoImplicit false
set_option linter.all false
set_option maxRecDepth 100000
set_option maxHeartbeats 4000000
/-! Ofw 1: pure data, what stands for it in the heap, slots -/
namespace Ofw
open PySem L2
inductive D where
  | non | bl (b : Bool) | int (i : Int) | str (x : Str)
  | tup (ds : List D) | lst (ds : List D) | dic (kds : List (Key × D)) | scr (ns : List Int)
abbrev Ys := Addr → Prop
/-- a tuple of the written part -/
def WrT (K : PySem.W.Frag) (a : Addr) (xs : List V) : Prop :=
  ∃ (o : Obj) (its : Array Value) (n : Nat), K.lookup a = some o ∧ o.cls = .type "tuple" ∧ o.data = .seq its n ∧ its.size ≤ sizeLine ∧ Vals xs its.toList
/-- a list of the written part -/
def WrL (K : PySem.W.Frag) (a : Addr) (xs : List V) : Prop :=
  ∃ (o : Obj) (its : Array Value) (n : Nat), K.lookup a = some o ∧ o.cls = .type "list" ∧ o.dict = none ∧ o.data = .seq its n ∧ its.size ≤ sizeLine ∧ Vals xs its.toList
mutual
inductive Rep (K : PySem.W.Frag) (H : Hp) (Y : Ys) : V → D → Prop where
  | non : Rep K H Y .non .non
  | bl (b : Bool) : Rep K H Y (.bl b) (.bl b)
  | int (i : Int) : Rep K H Y (.int i) (.int i)
  | str (x : Str) : Rep K H Y (.str x) (.str x)
  | tup {a : Addr} {vs : List V} {ds : List D} : H a = some (.tup vs) → ¬ Y a → Reps K H Y vs ds → Rep K H Y (.ref a) (.tup ds)
  | tupW {a : Addr} {vs : List V} {ds : List D} : WrT K a vs → Reps K H Y vs ds → Rep K H Y (.ref a) (.tup ds)
  | lst {a : Addr} {vs : List V} {ds : List D} : H a = some (.lst vs) → ¬ Y a → Reps K H Y vs ds → Rep K H Y (.ref a) (.lst ds)
  | dic {a : Addr} {kvs : List (Key × V)} {kds : List (Key × D)} : Rd H a (.dK kvs) → ¬ Y a → RepK K H Y kvs kds → Rep K H Y (.ref a) (.dic kds)
  | scr {a : Addr} {o : Obj} {ns : List Int} : H a = some (.frz o (.lst (ns.map V.int))) → ¬ Y a → Rep K H Y (.ref a) (.scr ns)
  | scrW {a : Addr} {ns : List Int} : WrL K a (ns.map V.int) → Rep K H Y (.ref a) (.scr ns)
inductive Reps (K : PySem.W.Frag) (H : Hp) (Y : Ys) : List V → List D → Prop where
  | nil : Reps K H Y [] []
  | cons {v : V} {d : D} {vs : List V} {ds : List D} : Rep K H Y v d → Reps K H Y vs ds → Reps K H Y (v :: vs) (d :: ds)
inductive RepK (K : PySem.W.Frag) (H : Hp) (Y : Ys) : List (Key × V) → List (Key × D) → Prop where
  | nil : RepK K H Y [] []
  | cons {k : Key} {v : V} {d : D} {vs : List (Key × V)} {ds : List (Key × D)} : Rep K H Y v d → RepK K H Y vs ds → RepK K H Y ((k, v) :: vs) ((k, d) :: ds)
end
section
variable {K : PySem.W.Frag} {H H' : Hp} {Y Y' : Ys}
/-- what is not forbidden stays, what is newly forbidden was not there -/
structure Fr1 (H H' : Hp) (Y Y' : Ys) : Prop where
  stay : ∀ a o, H a = some o → ¬ Y a → H' a = some o
  more : ∀ a, Y' a → Y a ∨ H a = none
mutual
theorem Rep.fr (f : Fr1 H H' Y Y') : ∀ {v : V} {d : D}, Rep K H Y v d → Rep K H' Y' v d
  | _, _, .non => .non
  | _, _, .bl b => .bl b
  | _, _, .int i => .int i
  | _, _, .str x => .str x
  | _, _, .tup h n r => .tup (f.stay _ _ h n) (fun y => (f.more _ y).elim n fun z => by rw [h] at z; cases z) (Reps.fr f r)
  | _, _, .tupW h r => .tupW h (Reps.fr f r)
  | _, _, .lst h n r => .lst (f.stay _ _ h n) (fun y => (f.more _ y).elim n fun z => by rw [h] at z; cases z) (Reps.fr f r)
  | _, _, .dic h n r => .dic (h.elim (fun h => .inl (f.stay _ _ h n)) fun ⟨o, h⟩ => .inr ⟨o, f.stay _ _ h n⟩) (fun y => (f.more _ y).elim n fun z => by rcases h with h | ⟨o, h⟩ <;> (rw [h] at z; cases z)) (RepK.fr f r)
  | _, _, .scr h n => .scr (f.stay _ _ h n) (fun y => (f.more _ y).elim n fun z => by rw [h] at z; cases z)
  | _, _, .scrW h => .scrW h
theorem Reps.fr (f : Fr1 H H' Y Y') : ∀ {vs : List V} {ds : List D}, Reps K H Y vs ds → Reps K H' Y' vs ds
  | _, _, .nil => .nil
  | _, _, .cons h r => .cons (Rep.fr f h) (Reps.fr f r)
theorem RepK.fr (f : Fr1 H H' Y Y') : ∀ {vs : List (Key × V)} {ds : List (Key × D)}, RepK K H Y vs ds → RepK K H' Y' vs ds
  | _, _, .nil => .nil
  | _, _, .cons h r => .cons (Rep.fr f h) (RepK.fr f r)
end
theorem Fr1.same (s : Same H H') : Fr1 H H' Y Y := ⟨fun a o h _ => s a o h, fun _ y => .inl y⟩
theorem Fr1.less (h : ∀ a, Y' a → Y a) : Fr1 H H Y Y' := ⟨fun _ _ e _ => e, fun a y => .inl (h a y)⟩
theorem Reps.len : ∀ {vs : List V} {ds : List D}, Reps K H Y vs ds → vs.length = ds.length
  | _, _, .nil => rfl
  | _, _, .cons _ r => by simp [Reps.len r]
theorem RepK.len : ∀ {vs : List (Key × V)} {ds : List (Key × D)}, RepK K H Y vs ds → vs.length = ds.length
  | _, _, .nil => rfl
  | _, _, .cons _ r => by simp [RepK.len r]
theorem Reps.get : ∀ {vs : List V} {ds : List D} {i : Nat} {d : D}, Reps K H Y vs ds → ds[i]? = some d → ∃ v, vs[i]? = some v ∧ Rep K H Y v d
  | _, _, _, _, .nil, e => by simp at e
  | _, _, 0, _, .cons h _, e => by simp at e; subst e; exact ⟨_, rfl, h⟩
  | _, _, i + 1, d, .cons _ r, e => by
    obtain ⟨v, h1, h2⟩ := Reps.get (i := i) (d := d) r (by simpa using e)
    exact ⟨v, by simpa using h1, h2⟩
theorem Reps.get' : ∀ {vs : List V} {ds : List D} {i : Nat} {v : V}, Reps K H Y vs ds → vs[i]? = some v → ∃ d, ds[i]? = some d ∧ Rep K H Y v d
  | _, _, _, _, .nil, e => by simp at e
  | _, _, 0, _, .cons h _, e => by simp at e; subst e; exact ⟨_, rfl, h⟩
  | _, _, i + 1, d, .cons _ r, e => by
    obtain ⟨v, h1, h2⟩ := Reps.get' (i := i) (v := d) r (by simpa using e)
    exact ⟨v, by simpa using h1, h2⟩
theorem Reps.app : ∀ {vs ws : List V} {ds es : List D}, Reps K H Y vs ds → Reps K H Y ws es → Reps K H Y (vs ++ ws) (ds ++ es)
  | _, _, _, _, .nil, s => s
  | _, _, _, _, .cons h r, s => .cons h (Reps.app r s)
theorem Reps.drop : ∀ {vs : List V} {ds : List D} (n : Nat), Reps K H Y vs ds → Reps K H Y (vs.drop n) (ds.drop n)
  | _, _, 0, r => r
  | _, _, _ + 1, .nil => .nil
  | _, _, n + 1, .cons _ r => Reps.drop n r
theorem Reps.take : ∀ {vs : List V} {ds : List D} (n : Nat), Reps K H Y vs ds → Reps K H Y (vs.take n) (ds.take n)
  | _, _, 0, _ => .nil
  | _, _, _ + 1, .nil => .nil
  | _, _, n + 1, .cons h r => .cons h (Reps.take n r)
theorem Reps.set : ∀ {vs : List V} {ds : List D} {v : V} {d : D} (n : Nat), Reps K H Y vs ds → Rep K H Y v d → Reps K H Y (vs.set n v) (ds.set n d)
  | _, _, _, _, _, .nil, _ => .nil
  | _, _, _, _, 0, .cons _ r, h => .cons h r
  | _, _, _, _, n + 1, .cons g r, h => .cons g (Reps.set n r h)
theorem Reps.rev {vs : List V} {ds : List D} (r : Reps K H Y vs ds) : Reps K H Y vs.reverse ds.reverse := by
  induction r using Reps.rec (motive_1 := fun _ _ _ => True) (motive_3 := fun _ _ _ => True) with
  | nil => exact .nil
  | cons h r _ ih => rw [List.reverse_cons, List.reverse_cons]; exact ih.app (.cons h .nil)
  | _ => trivial
theorem Reps.dropLast {vs : List V} {ds : List D} (r : Reps K H Y vs ds) : Reps K H Y vs.dropLast ds.dropLast := by
  rw [List.dropLast_eq_take, List.dropLast_eq_take, r.len]
  exact r.take _
theorem Reps.ints : ∀ {vs : List V} {ns : List Int}, Reps K H Y vs (ns.map D.int) → vs = ns.map V.int
  | _, [], .nil => rfl
  | _, n :: ns, .cons (.int _) r => by rw [List.map_cons, Reps.ints r]
theorem Reps.ofInts : ∀ {ns : List Int}, Reps K H Y (ns.map V.int) (ns.map D.int)
  | [] => .nil
  | n :: ns => .cons (.int n) Reps.ofInts
theorem Reps.strs : ∀ {vs : List V} {ns : List Str}, Reps K H Y vs (ns.map D.str) → vs = ns.map V.str
  | _, [], .nil => rfl
  | _, n :: ns, .cons (.str _) r => by rw [List.map_cons, Reps.strs r]
theorem Reps.ofStrs : ∀ {ns : List Str}, Reps K H Y (ns.map V.str) (ns.map D.str)
  | [] => .nil
  | n :: ns => .cons (.str n) Reps.ofStrs
theorem Reps.bls : ∀ {vs : List V} {ns : List Bool}, Reps K H Y vs (ns.map D.bl) → vs = ns.map V.bl
  | _, [], .nil => rfl
  | _, n :: ns, .cons (.bl _) r => by rw [List.map_cons, Reps.bls r]
theorem sqT_of {a : Addr} {ds : List D} (r : Rep K H Y (.ref a) (.tup ds)) : ∃ vs, SqT K H a vs ∧ Reps K H Y vs ds := by
  cases r with
  | tup h _ r => exact ⟨_, SqT.of h, r⟩
  | tupW h r => exact ⟨_, Or.inr h, r⟩
/-- what stands at an own place -/
def Bod (K : PySem.W.Frag) (H : Hp) (Y : Ys) (a : Addr) : D → Prop
  | .lst ds => ∃ vs, H a = some (.lst vs) ∧ Reps K H Y vs ds
  | .dic kds => ∃ kvs, H a = some (.dK kvs) ∧ RepK K H Y kvs kds
  | _ => False
theorem Bod.there {a : Addr} {d : D} (b : Bod K H Y a d) : ∃ o, H a = some o := by
  cases d <;> first | exact b.elim | exact ⟨_, b.choose_spec.1⟩
theorem Bod.rep {a : Addr} {d : D} (b : Bod K H Y a d) (n : ¬ Y a) : Rep K H Y (.ref a) d := by
  cases d <;> first | exact b.elim | skip
  · obtain ⟨vs, h, r⟩ := b; exact .lst h n r
  · obtain ⟨vs, h, r⟩ := b; exact .dic (.inl h) n r
/-- the items' places stand, the own one stays -/
theorem Bod.fr {a : Addr} {d : D} (f : Fr1 H H' Y Y') (s : ∀ o, H a = some o → H' a = some o) (b : Bod K H Y a d) : Bod K H' Y' a d := by
  cases d <;> first | exact b.elim | skip
  · obtain ⟨vs, h, r⟩ := b; exact ⟨vs, s _ h, r.fr f⟩
  · obtain ⟨vs, h, r⟩ := b; exact ⟨vs, s _ h, r.fr f⟩
end
/-! ### slots -/
inductive Sl where
  | emp | val (d : D) | own (d : D) | bor (d : D)
def Sl.isOwn : Sl → Bool
  | .own _ => true
  | .bor _ => true
  | _ => false
abbrev En := List Sl
/-- the places that slots own -/
def ownA (σ : St) (env : En) (a : Addr) : Prop := ∃ (i : Nat) (s : Sl), env[i]? = some s ∧ s.isOwn = true ∧ σ[i]? = some (some (.ref a))
def Av (σ : St) (env : En) (Z : Ys) (a : Addr) : Prop := ownA σ env a ∨ Z a
/-- a def's call: the heap at its entry, the borrowed places by slot -/
structure Gx where
  K : PySem.W.Frag
  H_0 : Hp
  ba : Nat → Option Addr
structure Good (G : Gx) (Z : Ys) (σ : St) (H : Hp) (env : En) : Prop where
  len : env.length = σ.length
  zdom : ∀ a, Z a → H a ≠ none
  vals : ∀ (i : Nat) (d : D), env[i]? = some (Sl.val d) → ∃ v : V, σ[i]? = some (some v) ∧ Rep G.K H (Av σ env Z) v d
  owns : ∀ (i : Nat) (d : D), env[i]? = some (Sl.own d) → ∃ a : Addr, σ[i]? = some (some (.ref a)) ∧ Bod G.K H (Av σ env Z) a d ∧ G.H_0 a = none ∧ ¬ Z a
  bors : ∀ (i : Nat) (d : D), env[i]? = some (Sl.bor d) → ∃ a : Addr, σ[i]? = some (some (.ref a)) ∧ Bod G.K H (Av σ env Z) a d ∧ G.ba i = some a ∧ ¬ Z a
  inj : ∀ (i j : Nat) (s t : Sl) (a : Addr), env[i]? = some s → env[j]? = some t → s.isOwn = true → t.isOwn = true → σ[i]? = some (some (.ref a)) → σ[j]? = some (some (.ref a)) → i = j
  held : ∀ (i : Nat) (a : Addr), G.ba i = some a → ∃ d, env[i]? = some (Sl.bor d)
  frame : ∀ a o, G.H_0 a = some o → (∀ i, G.ba i ≠ some a) → H a = some o
section
variable {G : Gx} {Z : Ys} {σ : St} {H H' : Hp} {env : En}
theorem Good.avdom (g : Good G Z σ H env) {a : Addr} (h : Av σ env Z a) : H a ≠ none := by
  rcases h with ⟨i, s, h1, h2, h3⟩ | h
  · cases s with
    | emp => cases h2
    | val d => cases h2
    | own d =>
      obtain ⟨b, e, bd, _⟩ := g.owns i d h1
      rw [h3] at e; cases e
      obtain ⟨o, ho⟩ := bd.there
      rw [ho]; exact fun z => nomatch z
    | bor d =>
      obtain ⟨b, e, bd, _⟩ := g.bors i d h1
      rw [h3] at e; cases e
      obtain ⟨o, ho⟩ := bd.there
      rw [ho]; exact fun z => nomatch z
  · exact g.zdom a h
theorem Good.ownZ (g : Good G Z σ H env) {a : Addr} (h : ownA σ env a) : ¬ Z a := by
  obtain ⟨i, s, h1, h2, h3⟩ := h
  cases s with
  | emp => cases h2
  | val d => cases h2
  | own d =>
    obtain ⟨b, e, _, _, n⟩ := g.owns i d h1
    rw [h3] at e; cases e; exact n
  | bor d =>
    obtain ⟨b, e, _, _, n⟩ := g.bors i d h1
    rw [h3] at e; cases e; exact n
/-- what was there stays; the forbidden ones may be more by new places, or fewer -/
theorem Good.ext {Z' : Ys} (g : Good G Z σ H env) (s : Same H H') (hz : ∀ a, Z' a → Z a ∨ H a = none) (hd : ∀ a, Z' a → H' a ≠ none) : Good G Z' σ H' env where
  len := g.len
  zdom := hd
  vals := fun i d h => by
    obtain ⟨v, e, r⟩ := g.vals i d h
    exact ⟨v, e, r.fr ⟨fun a o q _ => s a o q, fun a y => y.elim (fun z => .inl (.inl z)) fun z => (hz a z).elim (fun q => .inl (.inr q)) .inr⟩⟩
  owns := fun i d h => by
    obtain ⟨v, e, r, n, nz⟩ := g.owns i d h
    refine ⟨v, e, r.fr ⟨fun a o q _ => s a o q, fun a y => y.elim (fun z => .inl (.inl z)) fun z => (hz a z).elim (fun q => .inl (.inr q)) .inr⟩ (fun o q => s _ o q), n, fun z => ?_⟩
    obtain ⟨o, ho⟩ := r.there
    exact (hz v z).elim nz fun q => by rw [ho] at q; cases q
  bors := fun i d h => by
    obtain ⟨v, e, r, n, nz⟩ := g.bors i d h
    refine ⟨v, e, r.fr ⟨fun a o q _ => s a o q, fun a y => y.elim (fun z => .inl (.inl z)) fun z => (hz a z).elim (fun q => .inl (.inr q)) .inr⟩ (fun o q => s _ o q), n, fun z => ?_⟩
    obtain ⟨o, ho⟩ := r.there
    exact (hz v z).elim nz fun q => by rw [ho] at q; cases q
  inj := g.inj
  held := g.held
  frame := fun a o h n => s a o (g.frame a o h n)
theorem Good.same (g : Good G Z σ H env) (s : Same H H') : Good G Z σ H' env :=
  g.ext s (fun _ z => .inl z) fun a z => by
    have h := g.zdom a z
    cases e : H a with
    | none => exact absurd e h
    | some o => rw [s a o e]; exact fun q => nomatch q
theorem Good.less {Z' : Ys} (g : Good G Z σ H env) (h : ∀ a, Z' a → Z a) : Good G Z' σ H env :=
  g.ext (Same.refl H) (fun a z => .inl (h a z)) fun a z => g.zdom a (h a z)
end
/-! ### results -/
inductive Rs where
  | val (d : D) | fr (d : D)
def Rs.d : Rs → D
  | .val d => d
  | .fr d => d
/-- one place more -/
def zad (Z : Ys) (p : Addr) : Ys := fun a => Z a ∨ a = p
/-- what is known of a result: a value apart from what slots own; a new place that nothing else has -/
def ResOk (G : Gx) (Z : Ys) (σ : St) (H H' : Hp) (env : En) (v : V) : Rs → Prop
  | .val d => Rep G.K H' (Av σ env Z) v d
  | .fr d => ∃ p, v = .ref p ∧ H p = none ∧ Good G (zad Z p) σ H' env ∧ Bod G.K H' (Av σ env (zad Z p)) p d
/-- all but what slots own is as it was; what they own besides is new -/
structure Post (G : Gx) (Z : Ys) (σ : St) (H : Hp) (env : En) (σ' : St) (H' : Hp) (env' : En) : Prop where
  good : Good G Z σ' H' env'
  step : ∀ a o, H a = some o → ¬ ownA σ env a → H' a = some o
  own : ∀ a, ownA σ' env' a → ownA σ env a ∨ H a = none
  there : ∀ a, H' a = none → H a = none
theorem same_there {H H' : Hp} (s : Same H H') (a : Addr) (h : H' a = none) : H a = none := s.free h
section
variable {G : Gx} {Z : Ys} {σ σ' σ2 : St} {H H' H2 : Hp} {env env' env2 : En} {v : V} {r : Rs} {d : D}
theorem Post.refl (g : Good G Z σ H env) : Post G Z σ H env σ H env := ⟨g, fun _ _ h _ => h, fun _ h => .inl h, fun _ h => h⟩
theorem Post.same (g : Good G Z σ H env) (s : Same H H') : Post G Z σ H env σ H' env := ⟨g.same s, fun a o h _ => s a o h, fun _ h => .inl h, same_there s⟩
theorem Post.trans (a : Post G Z σ H env σ' H' env') (b : Post G Z σ' H' env' σ2 H2 env2) : Post G Z σ H env σ2 H2 env2 := by
  have no : ∀ c o, H c = some o → ¬ ownA σ env c → ¬ ownA σ' env' c := fun c o h n z => (a.own c z).elim n fun q => by rw [h] at q; cases q
  refine ⟨b.good, fun c o h n => b.step c o (a.step c o h n) (no c o h n), fun c z => ?_, fun c z => a.there c (b.there c z)⟩
  rcases b.own c z with z | z
  · exact a.own c z
  · cases h : H c with
    | none => exact .inr rfl
    | some o =>
      refine .inl (Classical.byContradiction fun n => ?_)
      rw [a.step c o h n] at z; cases z
/-- the frame, whatever is forbidden besides -/
theorem Post.frZ (p : Post G Z σ H env σ' H' env') (Z' : Ys) : Fr1 H H' (Av σ env Z') (Av σ' env' Z') :=
  ⟨fun a o h n => p.step a o h fun z => n (.inl z), fun a y => y.elim (fun z => (p.own a z).elim (fun q => .inl (.inl q)) .inr) fun z => .inl (.inr z)⟩
theorem Post.rep (p : Post G Z σ H env σ' H' env') (h : Rep G.K H (Av σ env Z) v d) : Rep G.K H' (Av σ' env' Z) v d := h.fr (p.frZ Z)
theorem Post.reps (p : Post G Z σ H env σ' H' env') {vs : List V} {ds : List D} (h : Reps G.K H (Av σ env Z) vs ds) : Reps G.K H' (Av σ' env' Z) vs ds := h.fr (p.frZ Z)
/-- a new thing may be seen as any other -/
theorem ResOk.rep (g0 : Good G Z σ H env) (h : ResOk G Z σ' H H' env' v r) : Rep G.K H' (Av σ' env' Z) v r.d := by
  cases r with
  | val d => exact h
  | fr d =>
    obtain ⟨q, rfl, hq, g, b⟩ := h
    have b' : Bod G.K H' (Av σ' env' Z) q d := b.fr (Fr1.less fun a y => y.elim .inl fun z => .inr (.inl z)) fun o h => h
    refine b'.rep fun y => ?_
    rcases y with y | y
    · exact g.ownZ y (.inr rfl)
    · exact g0.zdom q y hq
end
end Ofw
/-! Ofw 2: the small language, its evaluator -/
namespace Ofw
open PySem L2
inductive Ty where
  | bool | int | str | tuple | list | dict
  deriving DecidableEq
/-- operations on values: strict in all arguments -/
inductive Tag where
  | bin (op : Operator) | cmp (op : CmpOp) | neg
  | tup | lst | dic (n : Nat)
  | idx | slc (lo hi : Bool) | rev
  | len | int1 | bool1 | str1 | repr1 | abs1 | min2 | max2 | min1 | max1 | sum1 | sum2 | all1 | any1
  | sorted1 | sortedSet | lenSet | tuple1 | list1 | divmod2 | ord1 | chr1
  | listR1 | listR2 | tupR1 | tupR2 | dict1 | revS | minD | pyset1
  | isi (T : Ty)
  | get1 | get2 | upper | join (sep : Str) | index1
  | call (f : Nat) | callK (f np : Nat) (ks : List Str) (pm : List Nat)
  deriving DecidableEq
def isCall : Tag → Bool
  | .call _ => true | .callK _ _ _ _ => true | _ => false
/-- so placed -/
def permL {α : Type} : List Nat → List α → Option (List α)
  | [], _ => some []
  | i :: r, xs => match xs[i]?, permL r xs with
    | some x, some ys => some (x :: ys)
    | _, _ => none
inductive Tg where
  | one (i : Nat) | tup (is : List Nat)
  deriving DecidableEq
inductive ItK where
  | seq | rng1 | rng2 | rng3 | enum | zip2 | items | keys
  deriving DecidableEq
inductive Ex where
  | var (i : Nat) | peek (i : Nat) | lit (c : Const) | glob (x : Str) (d : D)
  | op (t : Tag) (as : List Ex)
  | not (a : Ex) | and (as : List Ex) | or (as : List Ex) | ife (c a b : Ex)
  | chain (p q : CmpOp) (a b c : Ex)
  | chain3 (p q r : CmpOp) (a b c d : Ex) | popE (i : Nat)
  | lc (elt : Ex) (tg : Tg) (k : ItK) (src ifs : List Ex) (vs : List Nat)
inductive Sx where
  | asg (i : Nat) (e : Ex) | asgT (is : List Nat) (e : Ex) | par (is : List Nat) (es : List Ex)
  | seti (i : Nat) (k e : Ex) | aug (i : Nat) (op : Operator) (e : Ex)
  | app (i : Nat) (e : Ex) | ext (i : Nat) (e : Ex) | upd (i : Nat) (e : Ex) | popA (j i : Nat)
  | drop (e : Ex) | ret (e : Ex) | retN
  | ife (c : Ex) (a b : List Sx)
  | for_ (tg : Tg) (k : ItK) (src : List Ex) (body : List Sx)
  | whl (c : Ex) (body : List Sx)
  | pass | brk | cont
/-! ### data -/
def litD : Const → Option D
  | .none => some .non
  | .bool b => some (.bl b)
  | .int i => some (.int i)
  | .str x => some (.str x)
  | _ => none
def truD : D → Option Bool
  | .non => some false
  | .bl b => some b
  | .int i => some (i != 0)
  | .str x => if x.length ≤ sizeLine then some ((x.length : Int) != 0) else none
  | .tup ds => some !ds.isEmpty
  | .lst ds => some !ds.isEmpty
  | .dic _ => none
  | .scr ns => some !ns.isEmpty
mutual
/-- == of data -/
def eqv : D → D → Bool
  | .non, .non => true
  | .bl a, .bl b => a == b
  | .bl a, .int j => (if a then 1 else 0) == j
  | .int i, .bl b => i == (if b then 1 else 0)
  | .int i, .int j => i == j
  | .str x, .str y => x == y
  | .lst xs, .lst ys => eqvs xs ys
  | .tup xs, .tup ys => eqvs xs ys
  | _, _ => false
def eqvs : List D → List D → Bool
  | [], [] => true
  | x :: xs, y :: ys => eqv x y && eqvs xs ys
  | _, _ => false
end
mutual
/-- what == is told of -/
def okD : D → Bool
  | .non => true | .bl _ => true | .int _ => true
  | .str x => PyData.strOk x
  | .tup ds => okDs ds
  | .lst ds => okDs ds
  | .dic _ => false | .scr _ => false
def okDs : List D → Bool
  | [] => true
  | x :: xs => okD x && okDs xs
end
mutual
def toP : D → PyData
  | .non => .none | .bl b => .bool b | .int i => .int i | .str x => .str x
  | .tup ds => .tuple (toPs ds)
  | .lst ds => .list (toPs ds)
  | .dic kds => .dict (toPk kds) | .scr _ => .none
def toPs : List D → List PyData
  | [] => []
  | d :: ds => toP d :: toPs ds
def toPk : List (Key × D) → List (PyData × PyData)
  | [] => []
  | (k, d) :: ds => (match k with | .inl i => .int i | .inr x => .str x, toP d) :: toPk ds
end
mutual
/-- no list within -/
def noLst : D → Bool
  | .lst _ => false
  | .tup ds => noLsts ds
  | .dic ds => noLstk ds
  | _ => true
def noLsts : List D → Bool
  | [] => true
  | x :: xs => noLst x && noLsts xs
def noLstk : List (Key × D) → Bool
  | [] => true
  | (_, x) :: xs => noLst x && noLstk xs
end
def keyD : Key → D
  | .inl i => .int i
  | .inr x => .str x
mutual
/-- what repr is told of -/
def okR : D → Bool
  | .non => true | .bl _ => true | .int _ => true
  | .str x => PyData.strOk x
  | .tup ds => okRs ds
  | .lst ds => okRs ds
  | .dic kds => okRk kds | .scr _ => false
def okRs : List D → Bool
  | [] => true
  | x :: xs => okR x && okRs xs
def okRk : List (Key × D) → Bool
  | [] => true
  | (k, x) :: xs => (match k with | .inl _ => true | .inr x => PyData.strOk x) && okR x && okRk xs
end
def repS (x : Str) (n : Nat) : Str := ⟨(List.replicate n x.cps).foldl (· ++ ·) #[]⟩
mutual
def depD : D → Nat
  | .tup ds => depDs ds + 1
  | .lst ds => depDs ds + 1
  | .dic ds => depDk ds + 1
  | _ => 0
def depDs : List D → Nat
  | [] => 0
  | x :: xs => max (depD x) (depDs xs)
def depDk : List (Key × D) → Nat
  | [] => 0
  | (_, x) :: xs => max (depD x) (depDk xs)
end
def fitD (d : D) : Bool := okD d && decide (depD d ≤ 64)
/-- scalars of one kind, or of kinds that == tells apart at once -/
def scalD : D → D → Bool
  | .non, .non => true | .non, .int _ => true | .int _, .non => true | .non, .bl _ => true | .bl _, .non => true | .non, .str _ => true | .str _, .non => true
  | .int _, .int _ => true | .bl _, .bl _ => true | .str _, .str _ => true
  | .int _, .str _ => true | .str _, .int _ => true | .bl _, .str _ => true | .str _, .bl _ => true
  | _, _ => false
def eqD (a b : D) : Option Bool := if scalD a b then some (eqv a b) else if fitD a && fitD b then some (eqv a b) else none
def isiD : Ty → D → Bool
  | .bool, .bl _ => true
  | .int, .bl _ => true
  | .int, .int _ => true
  | .str, .str _ => true
  | .tuple, .tup _ => true
  | .list, .lst _ => true
  | .list, .scr _ => true
  | .dict, .dic _ => true
  | _, _ => false
def flatD : D → Bool
  | .non => true | .bl _ => true | .int _ => true | .str _ => true
  | _ => false
def intsD : List D → Option (List Int)
  | [] => some []
  | .int i :: r => (intsD r).map (i :: ·)
  | _ => none
def strsD : List D → Option (List Str)
  | [] => some []
  | .str i :: r => (strsD r).map (i :: ·)
  | _ => none
def blsD : List D → Option (List Bool)
  | [] => some []
  | .bl i :: r => (blsD r).map (i :: ·)
  | _ => none
/-- a list or a tuple -/
def seqD : D → Option (List D)
  | .lst ds => some ds
  | .tup ds => some ds
  | _ => none
def ixD {α : Type} (xs : List α) (i : Int) : Option α := atI xs i
def cutD {α : Type} (xs : List α) (lo hi : Option Int) : List α := (xs.drop (HT.sIx xs.length 0 lo)).take (HT.sIx xs.length xs.length hi - HT.sIx xs.length 0 lo)
def partD : D → Option Int
  | .int i => some i
  | _ => none
/-- ints in order, each once -/
def insD (x : Int) : List Int → List Int
  | [] => [x]
  | y :: r => if x ≤ y then x :: y :: r else y :: insD x r
def sortI : List Int → List Int
  | [] => []
  | x :: r => insD x (sortI r)
def dedI : List Int → List Int
  | [] => []
  | x :: r => if r.contains x then dedI r else x :: dedI r
def getK (kds : List (Key × D)) (k : Key) : Option D := (kds.find? fun kv => decide (kv.1 = k)).map (·.2)
def putKD (kds : List (Key × D)) (k : Key) (v : D) : List (Key × D) :=
  if (kds.any fun kv => decide (kv.1 = k)) = true then kds.map (fun kv => if kv.1 = k then (kv.1, v) else kv) else kds ++ [(k, v)]
def mergeKD (kds more : List (Key × D)) : List (Key × D) := more.foldl (fun acc kv => putKD acc kv.1 kv.2) kds
def inD (x : D) (ds : List D) : Bool := ds.any fun y => eqv y x
/-- a text of one sign -/
def signOf (x : Str) : Option Nat := match x.cps.toList with
  | [c] => some c
  | _ => none
/-- pairs of a key and a thing -/
def pairsD : List D → Option (List (Key × D))
  | [] => some []
  | .tup [.int k, v] :: r => (pairsD r).map ((Sum.inl k, v) :: ·)
  | .tup [.str k, v] :: r => (pairsD r).map ((Sum.inr k, v) :: ·)
  | _ => none
def leS (x y : Str) : Bool := decide (¬ y.cps.toList < x.cps.toList)
def insS (x : Str) : List Str → List Str
  | [] => [x]
  | y :: r => if leS x y then x :: y :: r else y :: insS x r
def sortS : List Str → List Str
  | [] => []
  | x :: r => insS x (sortS r)
def dedS : List Str → List Str
  | [] => []
  | x :: r => if r.contains x then dedS r else x :: dedS r
def repL (xs : List D) (n : Nat) : List D := (List.replicate n xs).flatten
def binD : Operator → D → D → Option Rs
  | .Add, .int i, .int j => some (.val (.int (i + j)))
  | .Add, .str x, .str y => if x.length + y.length ≤ sizeLine then some (.val (.str (x ++ y))) else none
  | .Add, .tup xs, .tup ys => if xs.length + ys.length ≤ sizeLine then some (.val (.tup (xs ++ ys))) else none
  | .Add, .lst xs, .lst ys => if xs.length + ys.length ≤ sizeLine then some (.fr (.lst (xs ++ ys))) else none
  | .Sub, .int i, .int j => some (.val (.int (i - j)))
  | .Mult, .int i, .int j => if (i.natAbs < 2 ^ 64 ∨ j.natAbs < 2 ^ 64) ∨ i.natAbs.log2 + j.natAbs.log2 < 1000000 then some (.val (.int (i * j))) else none
  | .Mult, .str x, .int j => if 0 ≤ j ∧ j ≤ 10000 ∧ x.length ≤ 1000 then some (.val (.str (repS x j.toNat))) else none
  | .Mult, .lst xs, .int j => if 0 ≤ j ∧ j ≤ 100000 ∧ xs.length * j.toNat ≤ sizeLine then some (.fr (.lst (repL xs j.toNat))) else none
  | .Mult, .tup xs, .int j => if xs.isEmpty = false ∧ 2 ≤ j ∧ j ≤ 1000 ∧ xs.length ≤ 1000 then some (.val (.tup (repL xs j.toNat))) else none
  | .FloorDiv, .int i, .int j => if 0 < j ∧ j.natAbs.log2 < 9000 then some (.val (.int (i / j))) else none
  | .Mod, .int i, .int j => if 0 < j then some (.val (.int (i % j))) else none
  | .Pow, .int i, .int j => if 0 ≤ j ∧ j ≤ 1000000 ∧ i.natAbs < 2 ^ 64 then some (.val (.int (i ^ j.toNat))) else none
  | _, _, _ => none
def cmpD : CmpOp → D → D → Option Bool
  | .Eq, a, b => eqD a b
  | .NotEq, a, b => (eqD a b).map (!·)
  | .Lt, .str x, .str y => some (decide (x.cps.toList < y.cps.toList))
  | .In, .str x, .str y => (signOf x).map fun c => decide (c ∈ y.cps.toList)
  | .NotIn, .str x, .str y => (signOf x).map fun c => !decide (c ∈ y.cps.toList)
  | .Lt, .int i, .int j => some (decide (i < j))
  | .LtE, .int i, .int j => some (decide (i ≤ j))
  | .Gt, .int i, .int j => some (decide (j < i))
  | .GtE, .int i, .int j => some (decide (j ≤ i))
  | .Is, .non, .non => some true
  | .Is, .bl _, .non => some false
  | .Is, .int _, .non => some false
  | .Is, .str _, .non => some false
  | .Is, .tup _, .non => some false
  | .Is, .lst _, .non => some false
  | .Is, .dic _, .non => some false
  | .Is, .bl a, .bl b => some (a == b)
  | .IsNot, .non, .non => some false
  | .IsNot, .bl _, .non => some true
  | .IsNot, .int _, .non => some true
  | .IsNot, .str _, .non => some true
  | .IsNot, .tup _, .non => some true
  | .IsNot, .lst _, .non => some true
  | .IsNot, .dic _, .non => some true
  | .IsNot, .bl a, .bl b => some (!(a == b))
  | .In, x, .lst ds => if flatD x && ds.all flatD then some (inD x ds) else none
  | .In, x, .tup ds => if flatD x && ds.all flatD then some (inD x ds) else none
  | .In, .int i, .dic kds => some (getK kds (Sum.inl i : Key)).isSome
  | .In, .str i, .dic kds => some (getK kds (Sum.inr i : Key)).isSome
  | .NotIn, x, .lst ds => if flatD x && ds.all flatD then some (!inD x ds) else none
  | .NotIn, x, .tup ds => if flatD x && ds.all flatD then some (!inD x ds) else none
  | .NotIn, .int i, .dic kds => some !(getK kds (Sum.inl i : Key)).isSome
  | .NotIn, .str i, .dic kds => some !(getK kds (Sum.inr i : Key)).isSome
  | _, _, _ => none
def slcD (d : D) (lo hi : Option Int) : Option Rs := match d with
  | .lst ds => some (.fr (.lst (cutD ds lo hi)))
  | .scr ns => some (.fr (.lst ((cutD ns lo hi).map D.int)))
  | .tup ds => some (.val (.tup (cutD ds lo hi)))
  | .str z => if z.length ≤ sizeLine then some (.val (.str ⟨(cutD z.cps.toList lo hi).toArray⟩)) else none
  | _ => none
def prBin (op : Operator) : List D → Option Rs
  | [a, b] => binD op a b
  | _ => none
def prCmp (op : CmpOp) : List D → Option Rs
  | [a, b] => (cmpD op a b).map fun k => .val (.bl k)
  | _ => none
def prNeg : List D → Option Rs
  | [.int i] => some (.val (.int (-i)))
  | _ => none
def prTup : List D → Option Rs
  | ds => if ds.length ≤ sizeLine then some (.val (.tup ds)) else none
def prLst : List D → Option Rs
  | ds => if ds.length ≤ sizeLine then some (.fr (.lst ds)) else none
def prIdx : List D → Option Rs
  | [.lst ds, .int i] => (ixD ds i).map .val
  | [.tup ds, .int i] => (ixD ds i).map .val
  | [.scr ns, .int i] => (ixD ns i).map fun n => .val (.int n)
  | [.str z, .int i] => if z.length ≤ sizeLine then (ixD z.cps.toList i).map fun c => .val (.str ⟨#[c]⟩) else none
  | [.dic kds, .int i] => (getK kds (Sum.inl i : Key)).map .val
  | [.dic kds, .str i] => (getK kds (Sum.inr i : Key)).map .val
  | _ => none
def prSlcFF : List D → Option Rs
  | [d] => slcD d none none
  | _ => none
def prSlcTF : List D → Option Rs
  | [d, .int i] => slcD d (some i) none
  | _ => none
def prSlcFT : List D → Option Rs
  | [d, .int j] => slcD d none (some j)
  | _ => none
def prSlcTT : List D → Option Rs
  | [d, .int i, .int j] => slcD d (some i) (some j)
  | _ => none
def prRev : List D → Option Rs
  | [.lst ds] => some (.fr (.lst ds.reverse))
  | _ => none
def prLen : List D → Option Rs
  | [.lst ds] => some (.val (.int ds.length))
  | [.tup ds] => some (.val (.int ds.length))
  | [.scr ds] => some (.val (.int ds.length))
  | [.dic ds] => some (.val (.int ds.length))
  | [.str z] => if z.length ≤ sizeLine then some (.val (.int z.length)) else none
  | _ => none
def prInt1 : List D → Option Rs
  | [.int i] => some (.val (.int i))
  | [.bl b] => some (.val (.int (if b then 1 else 0)))
  | _ => none
def prBool1 : List D → Option Rs
  | [.int i] => some (.val (.bl (i != 0)))
  | [.bl b] => some (.val (.bl b))
  | _ => none
def prStr1 : List D → Option Rs
  | [.int i] => if i.natAbs.log2 < 1920 then some (.val (.str (toString i))) else none
  | _ => none
def prAbs1 : List D → Option Rs
  | [.int i] => some (.val (.int (if i < 0 then -i else i)))
  | _ => none
def prMin2 : List D → Option Rs
  | [.int i, .int j] => some (.val (.int (if j < i then j else i)))
  | _ => none
def prMax2 : List D → Option Rs
  | [.int i, .int j] => some (.val (.int (if j > i then j else i)))
  | _ => none
def prSum1 : List D → Option Rs
  | [.lst ds] => (intsD ds).map fun ns => .val (.int ns.sum)
  | _ => none
def prSum2 : List D → Option Rs
  | [.lst ds, .int c] => (intsD ds).map fun ns => .val (.int (c + ns.sum))
  | _ => none
def prAll1 : List D → Option Rs
  | [.lst ds] => (blsD ds).map fun bs => .val (.bl (bs.all id))
  | _ => none
def prAny1 : List D → Option Rs
  | [.lst ds] => (blsD ds).map fun bs => .val (.bl (bs.any id))
  | _ => none
/-- the keys, all ints -/
def keysI : List (Key × D) → Option (List Int)
  | [] => some []
  | (.inl i, _) :: r => (keysI r).map (i :: ·)
  | _ => none
def prSorted1 : List D → Option Rs
  | [.lst ds] => (intsD ds).map fun ns => .fr (.lst ((sortI ns).map D.int))
  | [.dic kds] => (keysI kds).map fun ns => .fr (.lst ((sortI ns).map D.int))
  | _ => none
def prSortedS : List D → Option Rs
  | [.lst ds] => (strsD ds).bind fun ys => if ys.length < 64 then some (.fr (.lst ((sortS ys).map D.str))) else none
  | _ => none
/-- sorted(set(xs)) of ints -/
def prSortedSet : List D → Option Rs
  | [.lst ds] => (intsD ds).bind fun ns => if ns.length + 1 < scanBound then some (.fr (.lst ((sortI (dedI ns)).map D.int))) else none
  | [.tup ds] => (intsD ds).bind fun ns => if ns.length + 1 < scanBound then some (.fr (.lst ((sortI (dedI ns)).map D.int))) else none
  | _ => none
def prSortedSetS : List D → Option Rs
  | [.lst ds] => (strsD ds).bind fun ns => if ns.length + 1 < scanBound then some (.fr (.lst ((sortS (dedS ns)).map D.str))) else none
  | _ => none
def prIndex1 : List D → Option Rs
  | [.lst ds, x] => if flatD x && ds.all flatD then (ds.findIdx? fun y => eqv y x).map fun (j : Nat) => Rs.val (.int (j : Int)) else none
  | _ => none
def rgOkD (a b : Int) : Bool := decide (-(2 ^ 62) ≤ a) && decide (a < 2 ^ 62) && decide (-(2 ^ 62) ≤ b) && decide (b < 2 ^ 62) && decide (b - a ≤ 16777216)
def rngD (lo hi : Int) : List D := (List.range (hi - lo).toNat).map fun (k : Nat) => D.int (lo + (k : Int))
def prListR1 : List D → Option Rs
  | [.int j] => if rgOkD 0 j then some (.fr (.lst (rngD 0 j))) else none
  | _ => none
def prListR2 : List D → Option Rs
  | [.int i, .int j] => if rgOkD i j then some (.fr (.lst (rngD i j))) else none
  | _ => none
def prTupR1 : List D → Option Rs
  | [.int j] => if rgOkD 0 j then some (.val (.tup (rngD 0 j))) else none
  | _ => none
def prTupR2 : List D → Option Rs
  | [.int i, .int j] => if rgOkD i j then some (.val (.tup (rngD i j))) else none
  | _ => none
def prDict1 : List D → Option Rs
  | [.dic kds] => some (.fr (.dic kds))
  | [.lst ds] => (pairsD ds).map fun kds => .fr (.dic (mergeKD [] kds))
  | _ => none
def prTuple1 : List D → Option Rs
  | [.lst ds] => some (.val (.tup ds))
  | [.tup ds] => some (.val (.tup ds))
  | _ => none
def prList1 : List D → Option Rs
  | [.lst ds] => some (.fr (.lst ds))
  | [.tup ds] => some (.fr (.lst ds))
  | [.scr ns] => some (.fr (.lst (ns.map D.int)))
  | [.dic kds] => some (.fr (.lst (kds.map fun kd => keyD kd.1)))
  | _ => none
def prIsi (T : Ty) : List D → Option Rs
  | [d] => some (.val (.bl (isiD T d)))
  | _ => none
def prGet1 : List D → Option Rs
  | [.dic kds, .int i] => some (.val ((getK kds (Sum.inl i : Key)).getD .non))
  | [.dic kds, .str i] => some (.val ((getK kds (Sum.inr i : Key)).getD .non))
  | _ => none
def prGet2 : List D → Option Rs
  | [.dic kds, .int i, x] => some (.val ((getK kds (Sum.inl i : Key)).getD x))
  | [.dic kds, .str i, x] => some (.val ((getK kds (Sum.inr i : Key)).getD x))
  | _ => none
def prDic0 : List D → Option Rs
  | [] => some (.fr (.dic []))
  | _ => none
def prUpper : List D → Option Rs
  | [.str x] => if x.length ≤ 5592405 then some (.val (.str (PySem.Txt.upper x))) else none
  | _ => none
def prJoin (sep : Str) : List D → Option Rs
  | [.lst ds] => (strsD ds).bind fun ys => if (ys.map (·.length)).sum + ys.length * sep.length ≤ 16777216 then some (.val (.str (PySem.Txt.join sep ys))) else none
  | [.tup ds] => (strsD ds).bind fun ys => if (ys.map (·.length)).sum + ys.length * sep.length ≤ 16777216 then some (.val (.str (PySem.Txt.join sep ys))) else none
  | _ => none
def boxD : D → Bool
  | .lst _ => true
  | .tup _ => true
  | _ => false
def prRepr1 : List D → Option Rs
  | [d] => if (okR d && (okD d || noLst d)) = true ∧ (toP d).showable = true ∧ (toP d).shown.length ≤ sizeLine ∧ depD d ≤ 60 then some (.val (.str (toP d).shown)) else none
  | _ => none
def prDivmod : List D → Option Rs
  | [.int i, .int j] => if 0 < j ∧ j < 1073741824 then some (.val (.tup [.int (i / j), .int (i % j)])) else none
  | _ => none
def primD (t : Tag) (ds : List D) : Option Rs := match t with
  | .bin op => prBin op ds
  | .cmp op => prCmp op ds
  | .neg => prNeg ds
  | .tup => prTup ds
  | .lst => prLst ds
  | .idx => prIdx ds
  | .slc false false => prSlcFF ds
  | .slc true false => prSlcTF ds
  | .slc false true => prSlcFT ds
  | .slc true true => prSlcTT ds
  | .rev => prRev ds
  | .len => prLen ds
  | .int1 => prInt1 ds
  | .bool1 => prBool1 ds
  | .str1 => prStr1 ds
  | .abs1 => prAbs1 ds
  | .min2 => prMin2 ds
  | .max2 => prMax2 ds
  | .sum1 => prSum1 ds
  | .sum2 => prSum2 ds
  | .all1 => prAll1 ds
  | .any1 => prAny1 ds
  | .sorted1 => match prSorted1 ds with
    | some r => some r
    | none => prSortedS ds
  | .index1 => prIndex1 ds
  | .listR1 => prListR1 ds
  | .listR2 => prListR2 ds
  | .tupR1 => prTupR1 ds
  | .tupR2 => prTupR2 ds
  | .dict1 => prDict1 ds
  | .sortedSet => match prSortedSet ds with
    | some r => some r
    | none => prSortedSetS ds
  | .tuple1 => prTuple1 ds
  | .list1 => prList1 ds
  | .isi T => prIsi T ds
  | .get1 => prGet1 ds
  | .get2 => prGet2 ds
  | .dic 0 => prDic0 ds
  | .upper => prUpper ds
  | .join sep => prJoin sep ds
  | .repr1 => prRepr1 ds
  | .divmod2 => prDivmod ds
  | _ => none
/-- operations that keep their arguments -/
def storing : Tag → Bool
  | .tup => true | .lst => true | .dic _ => true | .get2 => true | .get1 => true | .index1 => true
  | _ => false
/-! ### the evaluator -/
/-- an argument: a value, or a slot looked at when all are there -/
inductive Av1 where
  | v (d : D) | r (i : Nat)
def slotD : Sl → Option D
  | .emp => none
  | .val d => some d
  | .own d => some d
  | .bor d => some d
def look (env : En) : Av1 → Option D
  | .v d => some d
  | .r i => (env[i]?).bind slotD
def looks (env : En) : List Av1 → Option (List D)
  | [] => some []
  | x :: r => match look env x, looks env r with
    | some d, some ds => some (d :: ds)
    | _, _ => none
/-- a def's call: what it gives, what its borrowed arguments are then -/
abbrev CallT := Nat → List D → Option (Rs × List (Option D))
def putBor : Sl → D → Sl
  | .own _, d => .own d
  | .bor _, d => .bor d
  | s, _ => s
/-- the borrowed slots as they are behind a call -/
def putBack : En → List Av1 → List (Option D) → En
  | env, .r i :: xs, some d :: ds => putBack (env.set i (putBor (env.getD i .emp) d)) xs ds
  | env, _ :: xs, _ :: ds => putBack env xs ds
  | env, _, _ => env
/-- each borrowed argument is an own slot, no slot twice; the others are values -/
def borOk (env : En) : List Bool → List Av1 → List Nat → Bool
  | [], [], _ => true
  | true :: fs, .r i :: xs, seen => (match env[i]? with | some s => s.isOwn | none => false) && !seen.contains i && borOk env fs xs (i :: seen)
  | false :: fs, .v _ :: xs, seen => borOk env fs xs seen
  | _, _, _ => false
def valsOf : List Av1 → Option (List D)
  | [] => some []
  | .v d :: r => (valsOf r).map (d :: ·)
  | _ => none
def applyC (rf : Nat → List Bool) (C : CallT) (f : Nat) (xs : List Av1) (env : En) : Option (Rs × En) := if borOk env (rf f) xs [] then match looks env xs with
      | some ds => match C f ds with
        | some (r, outs) => some (r, putBack env xs outs)
        | none => none
      | none => none
    else none
def applyT (rf : Nat → List Bool) (C : CallT) (t : Tag) (xs : List Av1) (env : En) : Option (Rs × En) :=
  match t with
  | .call f => if borOk env (rf f) xs [] then match looks env xs with
      | some ds => match C f ds with
        | some (r, outs) => some (r, putBack env xs outs)
        | none => none
      | none => none
    else none
  | .callK f _ _ pm => match permL pm xs with
    | some ys => applyC rf C f ys env
    | none => none
  | t => match (if storing t then valsOf xs else looks env xs) with
    | some ds => (primD t ds).map fun r => (r, env)
    | none => none
def bindT : Tg → D → En → Option En
  | .one i, d, env => match env[i]? with
    | some (.bor _) => none
    | some _ => some (env.set i (.val d))
    | none => none
  | .tup is, .tup ds, env => if is.length = ds.length then bindTs is ds env else none
  | _, _, _ => none
where bindTs : List Nat → List D → En → Option En
  | [], [], env => some env
  | i :: is, d :: ds, env => match env[i]? with
    | some (.bor _) => none
    | some _ => bindTs is ds (env.set i (.val d))
    | none => none
  | _, _, _ => none
def lcLoop (f : D → En → Option (Option D × En)) : List D → En → Option (List D × En)
  | [], env => some ([], env)
  | d :: ds, env => match f d env with
    | some (o, env1) => match lcLoop f ds env1 with
      | some (r, env2) => some (o.toList ++ r, env2)
      | none => none
    | none => none
def smallI (i : Int) : Bool := decide (-(2 ^ 62) ≤ i) && decide (i < 2 ^ 62)
def enumD (ds : List D) : List D := (List.range ds.length).map fun (k : Nat) => D.tup [.int (k : Int), ds.getD k .non]
def zipD (xs ys : List D) : List D := (List.range (min xs.length ys.length)).map fun (k : Nat) => D.tup [xs.getD k .non, ys.getD k .non]
/-- what is walked -/
def itSeq : List D → Option (List D)
  | [.lst ds] => some ds
  | [.tup ds] => some ds
  | [.scr ns] => some (ns.map D.int)
  | [.str x] => some (x.cps.toList.map fun c => D.str ⟨#[c]⟩)
  | _ => none
def itRng1 : List D → Option (List D)
  | [.int j] => if smallI j then some (rngD 0 j) else none
  | _ => none
def itRng2 : List D → Option (List D)
  | [.int i, .int j] => some (rngD i j)
  | _ => none
def itRng3 : List D → Option (List D)
  | [.int i, .int j, .int c] => if c = -1 ∧ smallI i = true ∧ smallI j = true then some ((List.range (i - j).toNat).map fun (k : Nat) => D.int (i + (k : Int) * c)) else none
  | _ => none
def itKeys : List D → Option (List D)
  | [.dic kds] => some (kds.map fun kd => keyD kd.1)
  | _ => none
def itEnum : List D → Option (List D)
  | [.lst ds] => some (enumD ds)
  | _ => none
def itZip2 : List D → Option (List D)
  | [.lst xs, .lst ys] => some (zipD xs ys)
  | [.tup xs, .tup ys] => some (zipD xs ys)
  | _ => none
def itemsD (k : ItK) (ds : List D) : Option (List D) := match k with
  | .seq => itSeq ds
  | .rng1 => itRng1 ds
  | .rng2 => itRng2 ds
  | .rng3 => itRng3 ds
  | .keys => itKeys ds
  | .enum => itEnum ds
  | .zip2 => itZip2 ds
  | .items => none
/-- the block's own slots, forgotten; taken back -/
def wipeE (env : En) : List Nat → En
  | [] => env
  | v :: vs => (wipeE env vs).set v .emp
def backE (old : En) (env : En) : List Nat → En
  | [] => env
  | v :: vs => (backE old env vs).set v (old.getD v .emp)
def plainSlots (env : En) (vs : List Nat) : Bool := vs.all fun i => match env[i]? with | some s => !s.isOwn | none => false
/-- what a slot owns -/
def ownD (env : En) (i : Nat) : Option D := match env[i]? with
  | some (.own d) => some d
  | some (.bor d) => some d
  | _ => none
def putSlot (env : En) (i : Nat) (d : D) : En := env.set i (putBor (env.getD i .emp) d)
def popIt (i : Nat) (env : En) : Option (Rs × En) := match ownD env i with
  | some (.lst ds) => match ds[ds.length - 1]? with
    | some d => some (.val d, putSlot env i (.lst ds.dropLast))
    | none => none
  | _ => none
section
variable (rf : Nat → List Bool) (C : CallT)
mutual
def evalE : Ex → En → Option (Rs × En)
  | .var i, env => match env[i]? with
    | some (.val d) => some (.val d, env)
    | some (.own d) => some (.val d, env.set i (.val d))
    | _ => none
  | .peek _, _ => none
  | .lit c, env => (litD c).map fun d => (.val d, env)
  | .glob _ d, env => some (.val d, env)
  | .op t as, env => match evalAs as env with
    | some (xs, env1) => applyT rf C t xs env1
    | none => none
  | .not a, env => match evalE a env with
    | some (r, env1) => (truD r.d).map fun b => (.val (.bl (!b)), env1)
    | none => none
  | .and as, env => evalAnd as env
  | .or as, env => evalOr as env
  | .ife c a b, env => match evalE c env with
    | some (r, env1) => match truD r.d with
      | some true => evalE a env1
      | some false => evalE b env1
      | none => none
    | none => none
  | .chain p q a b c, env => match evalE a env with
    | some (ra, env1) => match evalE b env1 with
      | some (rb, env2) => match cmpD p ra.d rb.d with
        | some true => match evalE c env2 with
          | some (rc, env3) => (cmpD q rb.d rc.d).map fun k => (.val (.bl k), env3)
          | none => none
        | some false => some (.val (.bl false), env2)
        | none => none
      | none => none
    | none => none
  | .chain3 p q r a b c d, env => match evalE a env with
    | some (ra, env1) => match evalE b env1 with
      | some (rb, env2) => match cmpD p ra.d rb.d with
        | some true => match evalE c env2 with
          | some (rc, env3) => match cmpD q rb.d rc.d with
            | some true => match evalE d env3 with
              | some (rd, env4) => (cmpD r rc.d rd.d).map fun k => (.val (.bl k), env4)
              | none => none
            | some false => some (.val (.bl false), env3)
            | none => none
          | none => none
        | some false => some (.val (.bl false), env2)
        | none => none
      | none => none
    | none => none
  | .popE i, env => popIt i env
  | .lc elt tg k src ifs vs, env => match evalAs src env with
    | some (xs, env1) => match valsOf xs with
      | some ds => match itemsD k ds with
        | some its => if plainSlots env1 vs && decide (its.length < sizeLine) then
            match lcLoop (fun d en => match bindT tg d en with
              | some en1 => match evalIfs ifs en1 with
                | some (true, en2) => match evalE elt en2 with
                  | some (r, en3) => if plainSlots en3 vs then some (some r.d, wipeE en3 vs) else none
                  | none => none
                | some (false, en2) => if plainSlots en2 vs then some (none, wipeE en2 vs) else none
                | none => none
              | none => none) its (wipeE env1 vs) with
            | some (out, env2) => some (.fr (.lst out), backE env1 env2 vs)
            | none => none
          else none
        | none => none
      | none => none
    | none => none
def evalAs : List Ex → En → Option (List Av1 × En)
  | [], env => some ([], env)
  | .peek i :: as, env => match env[i]? with
    | some .emp => none
    | none => none
    | some _ => match evalAs as env with
      | some (xs, env2) => some (.r i :: xs, env2)
      | none => none
  | a :: as, env => match evalE a env with
    | some (r, env1) => match evalAs as env1 with
      | some (xs, env2) => some (.v r.d :: xs, env2)
      | none => none
    | none => none
def evalAnd : List Ex → En → Option (Rs × En)
  | [], _ => none
  | [a], env => evalE a env
  | a :: as, env => match evalE a env with
    | some (r, env1) => match truD r.d with
      | some true => evalAnd as env1
      | some false => some (.val r.d, env1)
      | none => none
    | none => none
def evalOr : List Ex → En → Option (Rs × En)
  | [], _ => none
  | [a], env => evalE a env
  | a :: as, env => match evalE a env with
    | some (r, env1) => match truD r.d with
      | some true => some (.val r.d, env1)
      | some false => evalOr as env1
      | none => none
    | none => none
def evalIfs : List Ex → En → Option (Bool × En)
  | [], env => some (true, env)
  | a :: _, env => match evalE a env with
    | some (r, env1) => (truD r.d).map fun b => (b, env1)
    | none => none
end
end
end Ofw
/-! Ofw 3: arguments, operations -/
namespace Ofw
open PySem L2
section
variable {X : Cx} {e : Expr} {t t' : TE} {es : List Expr}
theorem _root_.L2.PE.imp (h : PE X e t) (f : ∀ σ H Q, t' σ H Q → t σ H Q) : PE X e t' := ⟨fun pins s σ H Q I q => h.run pins s σ H Q I (f σ H Q q)⟩
theorem _root_.L2.PT.imp {t t' : TT} (h : PT X e t) (f : ∀ σ H Q, t' σ H Q → t σ H Q) : PT X e t' := ⟨fun pins s σ H Q I q => h.run pins s σ H Q I (f σ H Q q)⟩
theorem _root_.L2.PW.imp {t t' : TT} (h : PW X e t) (f : ∀ σ H Q, t' σ H Q → t σ H Q) : PW X e t' := ⟨fun w pins s σ H Q I q => h.run w pins s σ H Q I (f σ H Q q)⟩
theorem _root_.L2.PA.imp {t t' : TA} (h : PA X es t) (f : ∀ σ H Q, t' σ H Q → t σ H Q) : PA X es t' := ⟨fun po pins s σ H Q I q => h.run po pins s σ H Q I (f σ H Q q)⟩
theorem _root_.L2.PS.imp {st : Stmt} {t t' : TS} (h : PS X st t) (f : ∀ D σ H, t' D σ H → t D σ H) : PS X st t' := ⟨fun pins s σ H D I q => h.run pins s σ H D I (f D σ H q)⟩
theorem _root_.L2.PSs.imp {st : List Stmt} {t t' : TS} (h : PSs X st t) (f : ∀ D σ H, t' D σ H → t D σ H) : PSs X st t' := ⟨fun pins s σ H D I q => h.run pins s σ H D I (f D σ H q)⟩
theorem _root_.L2.PI.or {tg it : Expr} {w1 w2 : TI} (h1 : PI X tg it w1) (h2 : PI X tg it w2) : PI X tg it (fun σ H R => w1 σ H R ∨ w2 σ H R) :=
  ⟨fun pins s σ H R I q => q.elim (h1.run pins s σ H R I) (h2.run pins s σ H R I)⟩
theorem _root_.L2.PI.imp {tg it : Expr} {w w' : TI} (h : PI X tg it w) (f : ∀ σ H R, w' σ H R → w σ H R) : PI X tg it w' := ⟨fun pins s σ H R I q => h.run pins s σ H R I (f σ H R q)⟩
end
/-! ### what an expression's value is -/
section
variable (G : Gx) (rf : Nat → List Bool) (C : CallT)
def tE (e : Ex) : TE := fun σ H Q => ∃ Z env r env', Good G Z σ H env ∧ evalE rf C e env = some (r, env') ∧
  ∀ v H', Post G Z σ H env σ H' env' → ResOk G Z σ H H' env' v r → Q v H'
def tArg : Ex → TE
  | .peek i => tVar i
  | e => tE G rf C e
def tArgs : List Ex → TA
  | [] => tNil
  | a :: as => tCons (tArg G rf C a) (tArgs as)
end
/-- arguments that came -/
inductive ArgP (K : PySem.W.Frag) (σ : St) (H : Hp) (Y : Ys) : List V → List Av1 → Prop where
  | nil : ArgP K σ H Y [] []
  | v {v : V} {d : D} {vs : List V} {xs : List Av1} : Rep K H Y v d → ArgP K σ H Y vs xs → ArgP K σ H Y (v :: vs) (.v d :: xs)
  | r {v : V} {i : Nat} {vs : List V} {xs : List Av1} : σ[i]? = some (some v) → ArgP K σ H Y vs xs → ArgP K σ H Y (v :: vs) (.r i :: xs)
theorem ArgP.fr {K : PySem.W.Frag} {σ : St} {H H' : Hp} {Y Y' : Ys} (f : Fr1 H H' Y Y') : ∀ {vs : List V} {xs : List Av1}, ArgP K σ H Y vs xs → ArgP K σ H' Y' vs xs
  | _, _, .nil => .nil
  | _, _, .v h t => .v (h.fr f) (ArgP.fr f t)
  | _, _, .r h t => .r h (ArgP.fr f t)
section
variable {G : Gx} {rf : Nat → List Bool} {C : CallT}
theorem Good.slot {Z : Ys} {σ : St} {H : Hp} {env : En} (g : Good G Z σ H env) {i : Nat} {s : Sl} {d : D} (h : env[i]? = some s) (hd : slotD s = some d) : ∃ v, σ[i]? = some (some v) := by
  cases s with
  | emp => cases hd
  | val d => obtain ⟨v, e, _⟩ := g.vals i d h; exact ⟨v, e⟩
  | own d => obtain ⟨v, e, _⟩ := g.owns i d h; exact ⟨_, e⟩
  | bor d => obtain ⟨v, e, _⟩ := g.bors i d h; exact ⟨_, e⟩
theorem tArg_of {a : Ex} (h : ∀ i, a ≠ .peek i) : tArg G rf C a = tE G rf C a := by
  cases a <;> first | rfl | exact absurd rfl (h _)
theorem evalAs_cons {a : Ex} {as : List Ex} {env : En} (h : ∀ i, a ≠ .peek i) : evalAs rf C (a :: as) env = (match evalE rf C a env with
    | some (r, env1) => match evalAs rf C as env1 with
      | some (xs, env2) => some (.v r.d :: xs, env2)
      | none => none
    | none => none) := by
  cases a <;> first | rfl | exact absurd rfl (h _)
theorem args_ok : ∀ (as : List Ex) {env env' : En} {xs : List Av1} {σ : St} {H : Hp} {Z : Ys} {Q : List V → Hp → Prop}, Good G Z σ H env → evalAs rf C as env = some (xs, env') →
    (∀ vs H', Post G Z σ H env σ H' env' → ArgP G.K σ H' (Av σ env' Z) vs xs → Q vs H') → tArgs G rf C as σ H Q
  | [], env, env', xs, σ, H, Z, Q, g, h, q => by
    simp only [evalAs, Option.some.injEq, Prod.mk.injEq] at h
    obtain ⟨rfl, rfl⟩ := h
    exact q [] H (Post.refl g) .nil
  | a :: as, env, env', xs, σ, H, Z, Q, g, h, q => by
    by_cases hp : ∃ i, a = .peek i
    · obtain ⟨i, rfl⟩ := hp
      simp only [evalAs] at h
      cases hs : env[i]? with
      | none => rw [hs] at h; cases h
      | some s =>
        rw [hs] at h
        have hd : ∃ d, slotD s = some d := by cases s <;> first | exact ⟨_, rfl⟩ | cases h
        obtain ⟨d, hd⟩ := hd
        obtain ⟨v, hv⟩ := g.slot hs hd
        have h' : (match evalAs rf C as env with
          | some (xs, env2) => some (Av1.r i :: xs, env2)
          | none => none) = some (xs, env') := by cases s <;> first | exact h | cases hd
        cases h1 : evalAs rf C as env with
        | none => rw [h1] at h'; cases h'
        | some p =>
          obtain ⟨ys, env2⟩ := p
          rw [h1] at h'
          simp only [Option.some.injEq, Prod.mk.injEq] at h'
          obtain ⟨rfl, rfl⟩ := h'
          show tVar i σ H fun x H1 => tArgs G rf C as σ H1 fun xs H2 => Q (x :: xs) H2
          exact ⟨v, hv, args_ok as g h1 fun vs H' p r => q (v :: vs) H' p (.r hv r)⟩
    · have hp' : ∀ i, a ≠ .peek i := fun i e => hp ⟨i, e⟩
      rw [evalAs_cons hp'] at h
      cases h1 : evalE rf C a env with
      | none => rw [h1] at h; cases h
      | some p =>
        obtain ⟨r, env1⟩ := p
        rw [h1] at h
        cases h2 : evalAs rf C as env1 with
        | none => simp only [h2] at h; cases h
        | some p2 =>
          obtain ⟨ys, env2⟩ := p2
          simp only [h2, Option.some.injEq, Prod.mk.injEq] at h
          obtain ⟨rfl, rfl⟩ := h
          show tArg G rf C a σ H fun x H1 => tArgs G rf C as σ H1 fun xs H2 => Q (x :: xs) H2
          rw [tArg_of hp']
          refine ⟨Z, env, r, env1, g, h1, fun v H1 p1 r1 => ?_⟩
          have rp : Rep G.K H1 (Av σ env1 Z) v r.d := r1.rep g
          exact args_ok as p1.good h2 fun vs H' p2 rs => q (v :: vs) H' (p1.trans p2) (.v (p2.rep rp) rs)
/-! ### operations -/
/-- an argument as an operation sees it: a value, or what stands at an own place -/
def AR (K : PySem.W.Frag) (H : Hp) (Y : Ys) (v : V) (d : D) : Prop := Rep K H Y v d ∨ ∃ a, v = .ref a ∧ Bod K H Y a d
inductive ARs (K : PySem.W.Frag) (H : Hp) (Y : Ys) : List V → List D → Prop where
  | nil : ARs K H Y [] []
  | cons {v : V} {d : D} {vs : List V} {ds : List D} : AR K H Y v d → ARs K H Y vs ds → ARs K H Y (v :: vs) (d :: ds)
theorem looks_ok {Z : Ys} {σ : St} {H : Hp} {env : En} (g : Good G Z σ H env) : ∀ {vs : List V} {xs : List Av1} {ds : List D}, ArgP G.K σ H (Av σ env Z) vs xs → looks env xs = some ds → ARs G.K H (Av σ env Z) vs ds
  | _, _, ds, .nil, h => by simp only [looks, Option.some.injEq] at h; subst h; exact .nil
  | _, _, ds, .v (d := d) (xs := xs) hr r, h => by
    simp only [looks, look] at h
    cases h1 : looks env xs with
    | none => rw [h1] at h; cases h
    | some es =>
      rw [h1] at h
      simp only [Option.some.injEq] at h
      subst h
      exact .cons (.inl hr) (looks_ok g r h1)
  | _, _, ds, .r (v := v) (i := i) (xs := xs) hv r, h => by
    simp only [looks, look] at h
    cases hs : env[i]? with
    | none => rw [hs] at h; cases h
    | some s =>
      rw [hs] at h
      simp only [Option.bind_some] at h
      cases hd : slotD s with
      | none => rw [hd] at h; cases h
      | some d =>
        rw [hd] at h
        cases h1 : looks env xs with
        | none => rw [h1] at h; cases h
        | some es =>
          rw [h1] at h
          simp only [Option.some.injEq] at h
          subst h
          refine .cons ?_ (looks_ok g r h1)
          cases s with
          | emp => cases hd
          | val d' =>
            cases hd
            obtain ⟨w, e, rp⟩ := g.vals i d hs
            rw [hv] at e; cases e
            exact .inl rp
          | own d' =>
            cases hd
            obtain ⟨w, e, rp, _⟩ := g.owns i d hs
            rw [hv] at e; cases e
            exact .inr ⟨w, rfl, rp⟩
          | bor d' =>
            cases hd
            obtain ⟨w, e, rp, _⟩ := g.bors i d hs
            rw [hv] at e; cases e
            exact .inr ⟨w, rfl, rp⟩
/-- what an operation gives -/
def PRes (K : PySem.W.Frag) (H H' : Hp) (Y : Ys) (v : V) : Rs → Prop
  | .val d => Rep K H' Y v d
  | .fr d => ∃ p, v = .ref p ∧ H p = none ∧ Bod K H' (fun a => Y a ∨ a = p) p d
/-- an operation on values that changes nothing that stands -/
def rTag (K : PySem.W.Frag) (t : Tag) : List V → Hp → VK → Prop := fun vs H Q => ∃ (Y : Ys) (ds : List D) (res : Rs), (∀ a, Y a → H a ≠ none) ∧ ARs K H Y vs ds ∧ primD t ds = some res ∧
  ∀ v H', Same H H' → PRes K H H' Y v res → Q v H'
theorem post_prim {Z : Ys} {σ : St} {H H' : Hp} {env : En} {v : V} {r : Rs} (g : Good G Z σ H env) (s : Same H H') (h : PRes G.K H H' (Av σ env Z) v r) : Post G Z σ H env σ H' env ∧ ResOk G Z σ H H' env v r := by
  refine ⟨Post.same g s, ?_⟩
  cases r with
  | val d => exact h
  | fr d =>
    obtain ⟨p, rfl, hp, b⟩ := h
    obtain ⟨o, ho⟩ := b.there
    refine ⟨p, rfl, hp, g.ext s (fun a z => z.elim .inl fun e => .inr (by rw [e]; exact hp)) (fun a z => ?_), b.fr (Fr1.less fun a y => ?_) fun o h => h⟩
    · rcases z with z | z
      · exact (g.same s).zdom a z
      · rw [z, ho]; exact fun q => nomatch q
    · rcases y with y | y | y
      · exact .inl (.inl y)
      · exact .inl (.inr y)
      · exact .inr y
theorem vals_ok {K : PySem.W.Frag} {σ : St} {H : Hp} {Y : Ys} : ∀ {vs : List V} {xs : List Av1} {ds : List D}, ArgP K σ H Y vs xs → valsOf xs = some ds → Reps K H Y vs ds
  | _, _, ds, .nil, h => by simp only [valsOf, Option.some.injEq] at h; subst h; exact .nil
  | _, _, ds, .v (d := d) (xs := xs) hr r, h => by
    simp only [valsOf] at h
    cases h1 : valsOf xs with
    | none => rw [h1] at h; cases h
    | some es =>
      rw [h1] at h
      simp only [Option.map_some, Option.some.injEq] at h
      subst h
      exact .cons hr (vals_ok r h1)
  | _, _, ds, .r _ _, h => by simp only [valsOf] at h; cases h
theorem ARs.of {K : PySem.W.Frag} {H : Hp} {Y : Ys} : ∀ {vs : List V} {ds : List D}, Reps K H Y vs ds → ARs K H Y vs ds
  | _, _, .nil => .nil
  | _, _, .cons h r => .cons (.inl h) (ARs.of r)
/-- .. one that keeps its arguments -/
def rTagV (K : PySem.W.Frag) (t : Tag) : List V → Hp → VK → Prop := fun vs H Q => ∃ (Y : Ys) (ds : List D) (res : Rs), (∀ a, Y a → H a ≠ none) ∧ Reps K H Y vs ds ∧ primD t ds = some res ∧
  ∀ v H', Same H H' → PRes K H H' Y v res → Q v H'
theorem op_red0 {t : Tag} {as : List Ex} (ht : isCall t = false) {σ : St} {H : Hp} {Q : VK} (h : tE G rf C (.op t as) σ H Q) :
    ∃ Z env xs env1 ds res, Good G Z σ H env ∧ evalAs rf C as env = some (xs, env1) ∧ (if storing t then valsOf xs else looks env1 xs) = some ds ∧ primD t ds = some res ∧
      ∀ H1, Post G Z σ H env σ H1 env1 → ∀ v H', Same H1 H' → PRes G.K H1 H' (Av σ env1 Z) v res → Q v H' := by
  obtain ⟨Z, env, r, env', g, h, q⟩ := h
  simp only [evalE] at h
  cases h1 : evalAs rf C as env with
  | none => rw [h1] at h; cases h
  | some p =>
    obtain ⟨xs, env1⟩ := p
    rw [h1] at h
    have h' : (match (if storing t then valsOf xs else looks env1 xs) with
      | some ds => (primD t ds).map fun r => (r, env1)
      | none => none) = some (r, env') := by
      cases t <;> first | exact h | cases ht
    cases h2 : (if storing t then valsOf xs else looks env1 xs) with
    | none => rw [h2] at h'; cases h'
    | some ds =>
      rw [h2] at h'
      cases h3 : primD t ds with
      | none => simp only [h3, Option.map_none] at h'; cases h'
      | some res =>
        simp only [h3, Option.map_some, Option.some.injEq, Prod.mk.injEq] at h'
        obtain ⟨rfl, rfl⟩ := h'
        refine ⟨Z, env, xs, env1, ds, res, g, h1, h2, h3, fun H1 p1 v H' s pr => ?_⟩
        obtain ⟨p2, ro⟩ := post_prim p1.good s pr
        refine q v H' (p1.trans p2) ?_
        cases res with
        | val d => exact ro
        | fr d =>
          obtain ⟨p, e, hp, gg, b⟩ := ro
          exact ⟨p, e, p1.there p hp, gg, b⟩
theorem op_red {t : Tag} {as : List Ex} (ht : isCall t = false) (hs : storing t = false) {σ : St} {H : Hp} {Q : VK} (h : tE G rf C (.op t as) σ H Q) : tArgs G rf C as σ H (fun vs H1 => rTag G.K t vs H1 Q) := by
  obtain ⟨Z, env, xs, env1, ds, res, g, h1, h2, h3, q⟩ := op_red0 ht h
  rw [hs] at h2
  exact args_ok as g h1 fun vs H1 p1 ar => ⟨Av σ env1 Z, ds, res, fun a y => p1.good.avdom y, looks_ok p1.good ar h2, h3, q H1 p1⟩
theorem op_redV {t : Tag} {as : List Ex} (ht : isCall t = false) (hs : storing t = true) {σ : St} {H : Hp} {Q : VK} (h : tE G rf C (.op t as) σ H Q) : tArgs G rf C as σ H (fun vs H1 => rTagV G.K t vs H1 Q) := by
  obtain ⟨Z, env, xs, env1, ds, res, g, h1, h2, h3, q⟩ := op_red0 ht h
  rw [hs] at h2
  exact args_ok as g h1 fun vs H1 p1 ar => ⟨Av σ env1 Z, ds, res, fun a y => p1.good.avdom y, vals_ok ar h2, h3, q H1 p1⟩
end
end Ofw
/-! Ofw 4: each operation's rule -/
namespace Ofw
open PySem L2
section
variable {K : PySem.W.Frag} {H : Hp} {Y : Ys} {v : V}
theorem AR.int {i : Int} (h : AR K H Y v (.int i)) : v = .int i := by
  rcases h with h | ⟨_, _, h⟩
  · cases h; rfl
  · exact h.elim
theorem AR.bl {i : Bool} (h : AR K H Y v (.bl i)) : v = .bl i := by
  rcases h with h | ⟨_, _, h⟩
  · cases h; rfl
  · exact h.elim
theorem AR.str {i : Str} (h : AR K H Y v (.str i)) : v = .str i := by
  rcases h with h | ⟨_, _, h⟩
  · cases h; rfl
  · exact h.elim
theorem AR.non (h : AR K H Y v .non) : v = .non := by
  rcases h with h | ⟨_, _, h⟩
  · cases h; rfl
  · exact h.elim
theorem AR.tup {ds : List D} (h : AR K H Y v (.tup ds)) : ∃ a vs, v = .ref a ∧ SqT K H a vs ∧ Reps K H Y vs ds ∧ Rep K H Y v (.tup ds) := by
  rcases h with h | ⟨_, _, h⟩
  · have h0 := h
    cases h with
    | tup e _ r => exact ⟨_, _, rfl, SqT.of e, r, h0⟩
    | tupW e r => exact ⟨_, _, rfl, Or.inr e, r, h0⟩
  · exact h.elim
theorem AR.lst {ds : List D} (h : AR K H Y v (.lst ds)) : ∃ a vs, v = .ref a ∧ H a = some (.lst vs) ∧ Reps K H Y vs ds := by
  rcases h with h | ⟨a, e, vs, h, r⟩
  · cases h with
    | lst e _ r => exact ⟨_, _, rfl, e, r⟩
  · exact ⟨a, vs, e, h, r⟩
theorem AR.dic {ds : List (Key × D)} (h : AR K H Y v (.dic ds)) : ∃ a vs, v = .ref a ∧ Rd H a (.dK vs) ∧ RepK K H Y vs ds := by
  rcases h with h | ⟨a, e, vs, h, r⟩
  · cases h with
    | dic e _ r => exact ⟨_, _, rfl, e, r⟩
  · exact ⟨a, vs, e, .inl h, r⟩
theorem AR.scr {ns : List Int} (h : AR K H Y v (.scr ns)) : ∃ a, v = .ref a ∧ SqL K H a (ns.map V.int) := by
  rcases h with h | ⟨_, _, h⟩
  · cases h with
    | scr e _ => exact ⟨_, rfl, Or.inl (Or.inr ⟨_, e⟩)⟩
    | scrW e => exact ⟨_, rfl, Or.inr e⟩
  · exact h.elim
theorem ARs.two {vs : List V} {a b : D} (h : ARs K H Y vs [a, b]) : ∃ x y, vs = [x, y] ∧ AR K H Y x a ∧ AR K H Y y b := by
  cases h with
  | cons h r => cases r with
    | cons h2 r => cases r; exact ⟨_, _, rfl, h, h2⟩
theorem ARs.one {vs : List V} {a : D} (h : ARs K H Y vs [a]) : ∃ x, vs = [x] ∧ AR K H Y x a := by
  cases h with
  | cons h r => cases r; exact ⟨_, rfl, h⟩
theorem ARs.len : ∀ {vs : List V} {ds : List D}, ARs K H Y vs ds → vs.length = ds.length
  | _, _, .nil => rfl
  | _, _, .cons _ r => by simp [ARs.len r]
theorem same_new {p : Addr} {o : HO} (hp : H p = none) : Same H (upd H p o) := fun a u e => by rw [upd_ne (ne_of_none e hp)]; exact e
theorem new_tup {p : Addr} {vs : List V} {ds : List D} (hY : ∀ a, Y a → H a ≠ none) (hp : H p = none) (r : Reps K H Y vs ds) : PRes K H (upd H p (.tup vs)) Y (.ref p) (.val (.tup ds)) :=
  show Rep K (upd H p (.tup vs)) Y (.ref p) (.tup ds) from .tup upd_same (fun y => hY p y hp) (r.fr (Fr1.same (same_new hp)))
theorem new_lst {p : Addr} {vs : List V} {ds : List D} (hp : H p = none) (r : Reps K H Y vs ds) : PRes K H (upd H p (.lst vs)) Y (.ref p) (.fr (.lst ds)) :=
  ⟨p, rfl, hp, vs, upd_same, r.fr ⟨fun a o e _ => same_new hp a o e, fun a y => y.elim .inl fun e => .inr (by rw [e]; exact hp)⟩⟩
theorem new_dic {p : Addr} {vs : List (Key × V)} {ds : List (Key × D)} (hp : H p = none) (r : RepK K H Y vs ds) : PRes K H (upd H p (.dK vs)) Y (.ref p) (.fr (.dic ds)) :=
  ⟨p, rfl, hp, vs, upd_same, r.fr ⟨fun a o e _ => same_new hp a o e, fun a y => y.elim .inl fun e => .inr (by rw [e]; exact hp)⟩⟩
theorem ixN_len {vs : List V} {ds : List D} {i : Int} {d : D} (r : Reps K H Y vs ds) (h : ixD ds i = some d) : ∃ v, atI vs i = some v ∧ Rep K H Y v d := by
  unfold ixD atI at h
  cases e : ixN ds.length i with
  | none => rw [e] at h; cases h
  | some j =>
    rw [e] at h
    obtain ⟨v, hv, rv⟩ := r.get (show ds[j]? = some d from h)
    refine ⟨v, ?_, rv⟩
    unfold atI
    rw [r.len, e]
    exact hv
theorem cut_reps {vs : List V} {ds : List D} (lo hi : Option Int) (r : Reps K H Y vs ds) : Reps K H Y (cutV vs lo hi) (cutD ds lo hi) := by
  unfold cutV cutD
  rw [r.len]
  exact (r.drop _).take _
theorem intsD_ok : ∀ {ds : List D} {ns : List Int}, intsD ds = some ns → ds = ns.map D.int
  | [], _, h => by simp only [intsD, Option.some.injEq] at h; subst h; rfl
  | .int i :: r, ns, h => by
    simp only [intsD] at h
    cases e : intsD r with
    | none => rw [e] at h; cases h
    | some ms =>
      rw [e] at h
      simp only [Option.map_some, Option.some.injEq] at h
      subst h
      rw [List.map_cons, ← intsD_ok e]
  | .non :: _, _, h => by cases h
  | .bl _ :: _, _, h => by cases h
  | .str _ :: _, _, h => by cases h
  | .tup _ :: _, _, h => by cases h
  | .lst _ :: _, _, h => by cases h
  | .dic _ :: _, _, h => by cases h
  | .scr _ :: _, _, h => by cases h
theorem blsD_ok : ∀ {ds : List D} {ns : List Bool}, blsD ds = some ns → ds = ns.map D.bl
  | [], _, h => by simp only [blsD, Option.some.injEq] at h; subst h; rfl
  | .bl i :: r, ns, h => by
    simp only [blsD] at h
    cases e : blsD r with
    | none => rw [e] at h; cases h
    | some ms =>
      rw [e] at h
      simp only [Option.map_some, Option.some.injEq] at h
      subst h
      rw [List.map_cons, ← blsD_ok e]
  | .non :: _, _, h => by cases h
  | .int _ :: _, _, h => by cases h
  | .str _ :: _, _, h => by cases h
  | .tup _ :: _, _, h => by cases h
  | .lst _ :: _, _, h => by cases h
  | .dic _ :: _, _, h => by cases h
  | .scr _ :: _, _, h => by cases h
theorem strsD_ok : ∀ {ds : List D} {ns : List Str}, strsD ds = some ns → ds = ns.map D.str
  | [], _, h => by simp only [strsD, Option.some.injEq] at h; subst h; rfl
  | .str i :: r, ns, h => by
    simp only [strsD] at h
    cases e : strsD r with
    | none => rw [e] at h; cases h
    | some ms =>
      rw [e] at h
      simp only [Option.map_some, Option.some.injEq] at h
      subst h
      rw [List.map_cons, ← strsD_ok e]
  | .non :: _, _, h => by cases h
  | .int _ :: _, _, h => by cases h
  | .bl _ :: _, _, h => by cases h
  | .tup _ :: _, _, h => by cases h
  | .lst _ :: _, _, h => by cases h
  | .dic _ :: _, _, h => by cases h
  | .scr _ :: _, _, h => by cases h
end
/-! ### sorting ints -/
theorem insD_perm (x : Int) : ∀ l : List Int, (insD x l).Perm (x :: l)
  | [] => .refl _
  | y :: r => by
    unfold insD
    split
    · exact .refl _
    · exact ((insD_perm x r).cons y).trans (.swap x y r)
theorem sortI_perm : ∀ l : List Int, (sortI l).Perm l
  | [] => .refl _
  | x :: r => (insD_perm x _).trans ((sortI_perm r).cons x)
theorem insD_sorted (x : Int) : ∀ {l : List Int}, l.Pairwise (· ≤ ·) → (insD x l).Pairwise (· ≤ ·)
  | [], _ => List.pairwise_singleton _ _
  | y :: r, h => by
    unfold insD
    split
    · rename_i hxy
      refine List.pairwise_cons.mpr ⟨fun z hz => ?_, h⟩
      rcases List.mem_cons.mp hz with rfl | hz
      · exact hxy
      · exact Int.le_trans hxy ((List.pairwise_cons.mp h).1 z hz)
    · rename_i hxy
      refine List.pairwise_cons.mpr ⟨fun z hz => ?_, insD_sorted x (List.pairwise_cons.mp h).2⟩
      rcases List.mem_cons.mp ((insD_perm x r).mem_iff.mp hz) with rfl | hz
      · omega
      · exact (List.pairwise_cons.mp h).1 z hz
theorem sortI_sorted : ∀ l : List Int, (sortI l).Pairwise (· ≤ ·)
  | [] => .nil
  | x :: r => insD_sorted x (sortI_sorted r)
theorem sorted_unique : ∀ {a b : List Int}, a.Perm b → a.Pairwise (· ≤ ·) → b.Pairwise (· ≤ ·) → a = b := fun p ha hb =>
  p.eq_of_pairwise (fun _ _ _ _ h1 h2 => Int.le_antisymm h1 h2) ha hb
end Ofw
/-! Ofw G: defs where no repr is under way -/
namespace Ofw
open PySem L2
open PySem.Spec PyProof.Rows
theorem deeper_guards {A : Around} (env : Env) (h : A.guards = some []) : (A.deeper env).guards = some [] := by
  exact h
/-- a def's promise, called where no repr is under way -/
structure FnG (P : Program) (w : World) (K : PySem.W.Frag) (mg : Str → Option Value) (base : Heap) (k : Nat) (f : Addr) (fd : FuncData) (ps : List Str) (sp : Sp) : Prop where
  len : ∀ vs H Q E, sp vs H Q E → vs.length = ps.length
  run : ∀ (A : Around) (outer : List Env) (s : Shared) (H : Hp) (args : Args) (us : List Value) (vs : List V) (Q : VK) (E : XK), A.guards = some [] → Room k A → Env0 P w K mg base A outer s H → BindsTo s fd args (ps.zip us) → Vals vs us → sp vs H Q E →
    codeAny (model P w) A (.call (.ref f) args) (CR CX0 outer P w H s Q E) s
section
variable {P : Program} {w : World} {K : PySem.W.Frag} {mg : Str → Option Value} {base : Heap} {k : Nat} {f : Addr} {fd : FuncData} {ps : List Str} {sp : Sp}
theorem fnG_of {x qual : Str} {st : Stmt} {N : List Str} (F : Fun K x qual st f fd) (S : FnScope N ps (defScope st)) (len : ∀ vs H Q E, sp vs H Q E → vs.length = ps.length)
    (body : ∀ (cdv : Value) (A : Around) (outer : List Env) (s : Shared) (H : Hp) (vs : List V) (Q : VK) (E : XK), A.guards = some [] → Room k (A.deeper (envOfC qual (defScope st) s.heap.objs.size f cdv)) → sp vs H Q E →
      ∃ t, PSs (cxOf CX0 P w K mg base N qual (defScope st) f cdv A outer s H E).nox (defBody st) t ∧ t { nx := fun _ H' => Q .non H', rt := Q } (L2.start N vs) H) : FnG P w K mg base (k + 1) f fd ps sp := by
  obtain ⟨oc, od, kV, doc, pm, an, cdv, ct, osl, e, look, hcd⟩ := F.ex
  subst e
  refine ⟨len, fun A outer s H args us vs Q E gu room en hb rv q => ?_⟩
  have n := len vs H Q E q
  have ki : K.In s.heap := en.mod.kin.keeps fun b o e => (en.bs b o e).1
  have li : s.heap.NoLimit := en.mod.nolimit.keeps fun b o e => (en.bs b o e).1
  have kinds : ∀ y ∈ ps.zip us, (defScope st).names.lookup y.1 = some .local ∨ ((defScope st).names.lookup y.1 = some .cell ∧ ((cellsFrom (s.heap.objs.size + 1) (defScope st).names []).lookup y.1).isSome = true) := by
    rintro ⟨y, v⟩ hy
    cases S.par y (List.of_mem_zip hy).1 with
    | inl q => exact .inl q
    | inr q => exact .inr ⟨q, PySem.W.cellsFrom_some _ _ _ (.inl q)⟩
  apply codeAny_call_function room.depth (ki _ _ look) rfl S.co S.gen rfl (PySem.W.codeRec_of ki hcd)
  apply hb
  apply wpAny_newFunctionEnv_cells S.kind kinds
  intro env he s1 inc
  cases he
  refine ⟨li.keeps inc.toInCall.keep, codeAny_func ?_⟩
  obtain ⟨t, pt, hq⟩ := body cdv A outer s H vs Q E gu (room.deeper _) q
  have inv : Inv (cxOf CX0 P w K mg base N qual (defScope st) f cdv A outer s H E) [] (L2.start N vs) H s1 := inv_start S room.hd en n rv inc
  have pt' : PSs (cxOf CX0 P w K mg base N qual (defScope st) f cdv A outer s H E) (defBody st) t := pt.nox
  refine wpAny_mono (pt'.run [] s1 _ H _ inv hq) ?_ (fun _ _ h => h)
  intro fl s' hs
  cases fl with
  | ret u => obtain ⟨v, σ', H', J, r, z⟩ := hs; exact ⟨v, H', J.os, J.bare, J.base, J.hok, r, z⟩
  | next => obtain ⟨σ', H', J, z⟩ := hs; exact ⟨V.non, H', J.os, J.bare, J.base, J.hok, rfl, z⟩
  | brk => obtain ⟨_, _, _, z⟩ := hs; exact z.elim
  | cont => obtain ⟨_, _, _, z⟩ := hs; exact z.elim
end
section
variable {X : Cx} {k : Nat} {f : Addr} {fd : FuncData} {ps : List Str} {sp : Sp} {x : Str} {p pos : Pos} {e : Expr} {es : List Expr} {t : TA}
theorem runG {pins : List (Addr × Obj)} {σ : L2.St} {H : Hp} {s : Shared} {Q : VK} {ws : List Value} {vs : List V} {args : Args} (F : FnG X.prog X.w X.K X.mg X.base k f fd ps sp) (gu : X.A.guards = some []) (room : Room k X.A) (hb : BindsTo s fd args (ps.zip ws))
    (I : Inv X pins σ H s) (r : Vals vs ws) (q : sp vs H Q E0) : codeAny (model X.prog X.w) X.A (.call (.ref f) args) (fun r s' => match r with | .ok (.ret u) => EP X pins σ Q u s' | _ => False) s := by
  refine codeAny_mono (F.run X.A X.stack s H args ws vs Q E0 gu room I.env0 hb r q) ?_
  intro r s' h
  match r, h with
  | .ok (.ret u), h => exact I.after h
  | .ok .next, h => exact h.elim
  | .ok .brk, h => exact h.elim
  | .ok .cont, h => exact h.elim
  | .error e, h => exact h.elim
theorem wp_of_code {pins : List (Addr × Obj)} {σ : L2.St} {Q : VK} {s : Shared} {us : List Value} {kw : List (Str × Value)} (h : codeAny (model X.prog X.w) X.A (.call (.ref f) ⟨us, kw⟩) (fun r s' => match r with | .ok (.ret u) => EP X pins σ Q u s' | _ => False) s) :
    wpAny (model X.prog X.w) X.A (call (.ref f) us kw) (EP X pins σ Q) X.xe s := by
  refine wpAny_call (codeAny_mono h ?_)
  intro r s' h
  match r, h with
  | .ok (.ret u), h => exact h
  | .ok .next, h => exact h.elim
  | .ok .brk, h => exact h.elim
  | .ok .cont, h => exact h.elim
  | .error e, h => exact h.elim
/-- f(e, ..) -/
theorem peG_call (F : FnG X.prog X.w X.K X.mg X.base k f fd ps sp) (gu : X.A.guards = some []) (room : Room k X.A) (hg : Gl X x) (hm : X.mg x = some (.ref f)) (hk : PySem.W.keepIn X.K (.ref f) = true) (hb : Binds X.K fd ps [])
    (ha : PA X (e :: es) t) (hdb : (x == ("__debug__" : Str)) = false) (he : starEach (e :: es) X.env = (false, eval e X.env) :: starEach es X.env) (hpl : (backTo pos (starEach es X.env)).any (·.1) = false) :
    PE X (.Call (.Name x p) (e :: es) [] pos) (fun σ H Q => t σ H fun vs H1 => sp vs H1 Q E0) := by
  refine ⟨fun pins s σ H Q I h => wpAny_Call_Name_kw (ld_glob I hg hm ?_ hdb)⟩
  apply PySem.W.callWith_K (h₀ := X.base) I.ok.mod.kin hk _ he hpl
  refine thn (ha.run pos pins s σ H _ I h) ?_
  rintro us s1 ⟨vs, H1, I1, r, q⟩
  refine ⟨I1.kIn, wp_of_code (runG (ws := us) F gu room ?_ I1 r q)⟩
  have := hb s1 us I1.kIn (by rw [List.append_nil, ← r.length]; exact F.len _ _ _ _ q)
  rw [List.append_nil] at this
  exact this
end
end Ofw
/-! Ofw G2: defs called with keywords -/
namespace Ofw
open PySem L2
open PySem.Spec PyProof.Rows
/-- so a call with np values by place and the keywords ks finds its parameters -/
def KB (K : PySem.W.Frag) (fd : FuncData) (ps : List Str) (np : Nat) (ks : List Str) (pm : List Nat) : Prop :=
  ∀ (s : Shared) (us ws : List Value), K.In s.heap → us.length = np → ws.length = ks.length → ∃ zs, permL pm (us ++ ws) = some zs ∧ BindsTo s fd ⟨us, ks.zip ws⟩ (ps.zip zs)
theorem vals_at : ∀ {vs : List V} {us : List Value}, Vals vs us → ∀ {i : Nat} {v : V}, vs[i]? = some v → ∃ u, us[i]? = some u ∧ RelV v u
  | _, _, .nil, i, v, h => by simp at h
  | _, _, .cons r t, i, v, h => by
    cases i with
    | zero => simp at h; subst h; exact ⟨_, rfl, r⟩
    | succ i => simp at h ⊢; exact vals_at t h
theorem vals_perm {vs : List V} {us : List Value} (r : Vals vs us) : ∀ {pm : List Nat} {ys : List V}, permL pm vs = some ys → ∃ zs, permL pm us = some zs ∧ Vals ys zs
  | [], ys, h => by cases h; exact ⟨[], rfl, .nil⟩
  | i :: pr, ys, h => by
    unfold permL at h
    cases h1 : vs[i]? with
    | none => rw [h1] at h; cases h
    | some x =>
      cases h2 : permL pr vs with
      | none => rw [h1, h2] at h; cases h
      | some y =>
        rw [h1, h2] at h
        cases h
        obtain ⟨zs, e, a⟩ := vals_perm r h2
        obtain ⟨u, hu, ru⟩ := vals_at r h1
        exact ⟨u :: zs, by unfold permL; rw [hu, e], .cons ru a⟩
theorem vals_app : ∀ {vs zs : List V} {us ws : List Value}, Vals vs us → Vals zs ws → Vals (vs ++ zs) (us ++ ws)
  | _, _, _, _, .nil, b => b
  | _, _, _, _, .cons r t, b => .cons r (vals_app t b)
theorem kw_named {pos : Pos} {env : Env} : ∀ {kws : List Keyword} {ks : List Str}, kws.map (·.arg) = ks.map some → (backToKw pos (keywordEach kws env)).all (·.1.isSome) = true ∧ (backToKw pos (keywordEach kws env)).any (·.1.isNone) = false ∧ (backToKw pos (keywordEach kws env)).filterMap (·.1) = ks
  | [], [], _ => ⟨rfl, rfl, rfl⟩
  | [], _ :: _, h => by cases h
  | _ :: _, [], h => by cases h
  | ⟨nm, e, kp⟩ :: kws, k :: ks, h => by
    simp only [List.map_cons, List.cons.injEq] at h
    obtain ⟨rfl, h⟩ := h
    obtain ⟨h1, h2, h3⟩ := kw_named (pos := pos) (env := env) h
    have e0 : backToKw pos (keywordEach (⟨some k, e, kp⟩ :: kws) env) = (some k, do let v ← eval e env; standAt pos; pure v) :: backToKw pos (keywordEach kws env) := rfl
    rw [e0]
    refine ⟨?_, ?_, ?_⟩
    · rw [List.all_cons, h1]; rfl
    · rw [List.any_cons, h2]; rfl
    · rw [List.filterMap_cons]; simp only [h3]
section
variable {X : Cx} {k : Nat} {f : Addr} {fd : FuncData} {ps ks : List Str} {np : Nat} {pm : List Nat} {sp : Sp} {x : Str} {p pos : Pos} {e : Expr} {es : List Expr} {kws : List Keyword} {t tk : TA}
theorem runGK {pins : List (Addr × Obj)} {σ : L2.St} {H : Hp} {s : Shared} {Q : VK} {us ws : List Value} {vs zs ys : List V} (F : FnG X.prog X.w X.K X.mg X.base k f fd ps sp) (gu : X.A.guards = some []) (room : Room k X.A) (kb : KB X.K fd ps np ks pm)
    (I : Inv X pins σ H s) (r : Vals vs us) (rz : Vals zs ws) (h1 : vs.length = np) (h2 : zs.length = ks.length) (hp : permL pm (vs ++ zs) = some ys) (q : sp ys H Q E0) : wpAny (model X.prog X.w) X.A (call (.ref f) us (ks.zip ws)) (EP X pins σ Q) X.xe s := by
  obtain ⟨xs, e1, hb⟩ := kb s us ws I.kIn (by rw [← r.length]; exact h1) (by rw [← rz.length]; exact h2)
  obtain ⟨xs', e2, rv⟩ := vals_perm (vals_app r rz) hp
  rw [e1] at e2
  cases e2
  exact wp_of_code (runG (ws := xs) F gu room hb I rv q)
/-- f(e, .., k = v, ..) -/
theorem peG_callK (F : FnG X.prog X.w X.K X.mg X.base k f fd ps sp) (gu : X.A.guards = some []) (room : Room k X.A) (hg : Gl X x) (hm : X.mg x = some (.ref f)) (hk : PySem.W.keepIn X.K (.ref f) = true) (kb : KB X.K fd ps np ks pm)
    (ha : PA X (e :: es) t) (hkw : PK X kws tk) (hn : kws.map (·.arg) = ks.map some) (hdb : (x == ("__debug__" : Str)) = false) (he : starEach (e :: es) X.env = (false, eval e X.env) :: starEach es X.env) (hpl : (backTo pos (starEach (e :: es) X.env)).any (·.1) = false) :
    PE X (.Call (.Name x p) (e :: es) kws pos) (fun σ H Q => t σ H fun vs H1 => tk σ H1 fun zs H2 => vs.length = np ∧ zs.length = ks.length ∧ ∃ ys, permL pm (vs ++ zs) = some ys ∧ sp ys H2 Q E0) := by
  refine ⟨fun pins s σ H Q I h => wpAny_Call_Name_kw (ld_glob I hg hm ?_ hdb)⟩
  obtain ⟨h1, h2, h3⟩ := kw_named (pos := pos) (env := X.env) hn
  refine PySem.W.callWith_KW (h₀ := X.base) I.ok.mod.kin hk h1 (thn (ha.run pos pins s σ H _ I h) fun us s1 ⟨vs, H1, I1, r, q⟩ => ?_) (by rw [hpl, h2]; rfl) he
  refine thn (hkw.run pos pins s1 σ H1 _ I1 q) fun ws s2 ⟨zs, H2, I2, rz, q2⟩ => ⟨I2.kIn, ?_⟩
  rw [h3]
  obtain ⟨l1, l2, ys, hp, q3⟩ := q2
  exact runGK F gu room kb I2 r rz l1 l2 hp q3
/-- f(k = v, ..) -/
theorem peG_callK0 (F : FnG X.prog X.w X.K X.mg X.base k f fd ps sp) (gu : X.A.guards = some []) (room : Room k X.A) (hg : Gl X x) (hm : X.mg x = some (.ref f)) (hk : PySem.W.keepIn X.K (.ref f) = true) (kb : KB X.K fd ps 0 ks pm)
    (hkw : PK X kws tk) (hn : kws.map (·.arg) = ks.map some) (hdb : (x == ("__debug__" : Str)) = false) :
    PE X (.Call (.Name x p) [] kws pos) (fun σ H Q => tk σ H fun zs H2 => zs.length = ks.length ∧ ∃ ys, permL pm zs = some ys ∧ sp ys H2 Q E0) := by
  refine ⟨fun pins s σ H Q I h => wpAny_Call_Name_kw (ld_glob I hg hm ?_ hdb)⟩
  obtain ⟨h1, h2, h3⟩ := kw_named (pos := pos) (env := X.env) hn
  refine PySem.W.callWith_KW0 (h₀ := X.base) I.ok.mod.kin hk h1 ?_ (by rw [h2]; rfl)
  refine thn (hkw.run pos pins s σ H _ I h) fun ws s2 ⟨zs, H2, I2, rz, q2⟩ => ⟨I2.kIn, ?_⟩
  rw [h3]
  obtain ⟨l2, ys, hp, q3⟩ := q2
  exact runGK (us := []) (vs := []) F gu room kb I2 .nil rz rfl l2 hp q3
end
end Ofw
/-! Ofw G1: rules on texts that lacked -/
namespace Ofw
open PySem L2
theorem repS_one (x : Str) : repS x 1 = x := by
  unfold repS
  simp
theorem repS_nil (x : Str) (h : x.length = 0) (n : Nat) : repS x n = x := by
  have e : x.cps = #[] := by
    have : x.cps.size = 0 := h
    exact Array.eq_empty_of_size_eq_zero this
  have : ∀ n : Nat, (List.replicate n x.cps).foldl (· ++ ·) #[] = #[] := fun n => by
    induction n with
    | zero => rfl
    | succ n ih => rw [List.replicate_succ, List.foldl_cons, e]; rw [e] at ih; exact ih
  unfold repS
  rw [this, ← e]
theorem repS_len (x : Str) (n : Nat) : (repS x n).length = x.length * n := by
  have : ∀ (n : Nat) (acc : Array Nat), ((List.replicate n x.cps).foldl (· ++ ·) acc).size = acc.size + x.cps.size * n := fun n => by
    induction n with
    | zero => intro acc; simp
    | succ n ih => intro acc; rw [List.replicate_succ, List.foldl_cons, ih, Array.size_append, Nat.mul_succ]; omega
  show ((List.replicate n x.cps).foldl (· ++ ·) #[]).size = _
  rw [this]
  simp [Str.length]
section
variable {X : Cx}
/-- x * n, a text -/
theorem op_mulS : OpR X (binaryOp .Mult) (fun x y H Q => ∃ (a : Str) (n : Int), x = .str a ∧ y = .int n ∧ 0 ≤ n ∧ n ≤ 10000 ∧ a.length ≤ 1000 ∧ Q (.str (repS a n.toNat)) H) := by
  intro pins s σ H x y v u Q I rx ry h
  obtain ⟨a, n, rfl, rfl, h0, h1, h2, q⟩ := h
  obtain ⟨t, rfl⟩ := rx
  obtain ⟨t', rfl⟩ := ry
  have ok : ∀ (u : Value) (k : Nat), RelV (.str (repS a n.toNat)) u → EP X pins σ Q u { s with toks := k } := fun u k r => ⟨.str (repS a n.toNat), H, I.tok k, r, q⟩
  have hz : a.length * n.toNat ≤ 1000 * 10000 := Nat.mul_le_mul h2 (by omega)
  refine PySem.P.mul_str ?_ (fun _ _ => ?_) (fun _ _ => ?_) ?_
  · rw [decide_eq_false (by omega), decide_eq_false (by omega)]; rfl
  · have : (2 ^ 63 - 1 : Int) / n ≥ (2 ^ 63 - 1) / 10000 := by
      rcases Int.lt_or_le 0 n with hp | hp
      · apply Int.le_ediv_of_mul_le hp
        omega
      · omega
    omega
  · unfold Builtin.Str.tooLong
    rw [decide_eq_false]
    have : sizeLine = 16777216 := by decide
    omega
  · split
    · have e : n = 0 := by omega
      subst e
      exact ⟨by decide, ok _ _ ⟨_, rfl⟩⟩
    · split
      · rename_i h3
        have e : repS a n.toNat = a := by
          rw [Bool.or_eq_true] at h3
          rcases h3 with h3 | h3
          · have : n = 1 := by simpa using h3
            subst this
            exact repS_one a
          · exact repS_nil a (by simpa using h3) _
        have := ok (.str a t) s.toks (by rw [e]; exact ⟨_, rfl⟩)
        exact this
      · exact ⟨by rw [show (⟨(List.replicate n.toNat a.cps).foldl (· ++ ·) #[]⟩ : Str) = repS a n.toNat from rfl, repS_len]; have : sizeLine = 16777216 := by decide
                  omega, ok _ _ ⟨_, rfl⟩⟩
end
end Ofw
/-! Ofw 5: each operation's rule -/
namespace Ofw
open PySem L2
section
variable {X : Cx}
theorem _root_.Ofw.Reps.rep {K : PySem.W.Frag} {H : Hp} {Y : Ys} {vs : List V} {ds : List D} (r : Reps K H Y vs ds) : ∀ n : Nat, Reps K H Y (List.replicate n vs).flatten (repL ds n)
  | 0 => .nil
  | n + 1 => by
    unfold repL
    rw [List.replicate_succ, List.replicate_succ, List.flatten_cons, List.flatten_cons]
    exact r.app (r.rep n)
theorem r_bin {op : Operator} : OpR X (binaryOp op) (fun x y => rTag X.K (.bin op) [x, y]) := by
  intro pins s σ H x y v u Q I rx ry ⟨Y, ds, res, hY, ar, h, q⟩
  cases ar with
  | cons ha ar => cases ar with
    | cons hb ar => cases ar with
      | nil =>
        rename_i a b
        simp only [primD, prBin] at h
        unfold binD at h
        split at h
        · obtain rfl := ha.int; obtain rfl := hb.int
          cases h
          exact op_add pins s σ H _ _ v u Q I rx ry ⟨_, _, rfl, rfl, q _ H (Same.refl H) (.int _)⟩
        · obtain rfl := ha.str; obtain rfl := hb.str
          split at h
          · cases h
            exact op_add_str pins s σ H _ _ v u Q I rx ry ⟨_, _, rfl, rfl, ‹_›, q _ H (Same.refl H) (.str _)⟩
          · cases h
        · obtain ⟨p, vs, rfl, st, r, rp⟩ := ha.tup
          obtain ⟨p', vs', rfl, st', r', rp'⟩ := hb.tup
          split at h
          · rename_i hz
            cases h
            rw [← r.len, ← r'.len] at hz
            refine op_catA pins s σ H _ _ v u Q I rx ry ⟨_, _, vs, vs', rfl, rfl, st, st', hz, fun e => ?_, fun _ e => ?_, fun _ _ p hp => ?_⟩
            · subst e
              cases r
              exact q _ H (Same.refl H) rp'
            · subst e
              cases r'
              refine q _ H (Same.refl H) ?_
              rw [List.append_nil]; exact rp
            · exact q _ _ (same_new hp) (new_tup hY hp (r.app r'))
          · cases h
        · obtain ⟨p, vs, rfl, e, r⟩ := ha.lst
          obtain ⟨p', vs', rfl, e', r'⟩ := hb.lst
          split at h
          · rename_i hz
            cases h
            rw [← r.len, ← r'.len] at hz
            exact op_cat pins s σ H _ _ v u Q I rx ry ⟨_, _, vs, vs', rfl, rfl, e, e', hz, fun p hp => q _ _ (same_new hp) (new_lst hp (r.app r'))⟩
          · cases h
        · obtain rfl := ha.int; obtain rfl := hb.int
          cases h
          exact op_sub pins s σ H _ _ v u Q I rx ry ⟨_, _, rfl, rfl, q _ H (Same.refl H) (.int _)⟩
        · obtain rfl := ha.int; obtain rfl := hb.int
          split at h
          · rename_i hm
            cases h
            rcases hm with hm | hm
            · exact op_mul pins s σ H _ _ v u Q I rx ry ⟨_, _, rfl, rfl, by unfold CMul; omega, q _ H (Same.refl H) (.int _)⟩
            · exact op_mulW pins s σ H _ _ v u Q I rx ry ⟨_, _, rfl, rfl, hm, q _ H (Same.refl H) (.int _)⟩
          · cases h
        · obtain rfl := ha.str; obtain rfl := hb.int
          split at h
          · rename_i hm
            cases h
            exact op_mulS pins s σ H _ _ v u Q I rx ry ⟨_, _, rfl, rfl, hm.1, hm.2.1, hm.2.2, q _ H (Same.refl H) (.str _)⟩
          · cases h
        · obtain ⟨p, vs, rfl, e, r⟩ := ha.lst
          obtain rfl := hb.int
          split at h
          · rename_i hm
            cases h
            refine op_rep pins s σ H _ _ v u Q I rx ry ⟨_, _, vs, rfl, rfl, e, by omega, by omega, by rw [r.len]; exact hm.2.2, fun p hp => q _ _ (same_new hp) (new_lst hp (r.rep _))⟩
          · cases h
        · obtain ⟨p, vs, rfl, st, r, rp⟩ := ha.tup
          obtain rfl := hb.int
          split at h
          · rename_i hm
            cases h
            refine op_repT pins s σ H _ _ v u Q I rx ry ⟨_, _, vs, rfl, rfl, st, fun e => ?_, hm.2.1, hm.2.2.1, by rw [r.len]; exact hm.2.2.2, fun p hp => q _ _ (same_new hp) (new_tup hY hp (r.rep _))⟩
            subst e
            cases r
            exact absurd hm.1 (by simp)
          · cases h
        · obtain rfl := ha.int; obtain rfl := hb.int
          split at h
          · cases h
            exact op_fdivW pins s σ H _ _ v u Q I rx ry ⟨_, _, rfl, rfl, ‹_›, q _ H (Same.refl H) (.int _)⟩
          · cases h
        · obtain rfl := ha.int; obtain rfl := hb.int
          split at h
          · cases h
            exact op_mod pins s σ H _ _ v u Q I rx ry ⟨_, _, rfl, rfl, ‹_›, q _ H (Same.refl H) (.int _)⟩
          · cases h
        · obtain rfl := ha.int; obtain rfl := hb.int
          split at h
          · cases h
            exact op_pow pins s σ H _ _ v u Q I rx ry ⟨_, _, rfl, rfl, ‹_›, q _ H (Same.refl H) (.int _)⟩
          · cases h
        · cases h
/-! ### comparisons -/
mutual
theorem eqv_toP : ∀ (a b : D), okD a = true → okD b = true → PyData.eqv (toP a) (toP b) = eqv a b
  | .non, b, _, hb => by cases b <;> simp_all [okD, toP, PyData.eqv, eqv]
  | .bl _, b, _, hb => by cases b <;> simp_all [okD, toP, PyData.eqv, eqv]
  | .int _, b, _, hb => by cases b <;> simp_all [okD, toP, PyData.eqv, eqv]
  | .str _, b, _, hb => by cases b <;> simp_all [okD, toP, PyData.eqv, eqv]
  | .tup xs, b, ha, hb => by
    cases b <;> try simp_all [okD, toP, PyData.eqv, eqv]
    exact eqvs_toP xs _ ha hb
  | .lst xs, b, ha, hb => by
    cases b <;> try simp_all [okD, toP, PyData.eqv, eqv]
    exact eqvs_toP xs _ ha hb
  | .dic _, b, ha, hb => by simp [okD] at ha
  | .scr _, b, ha, hb => by simp [okD] at ha
theorem eqvs_toP : ∀ (a b : List D), okDs a = true → okDs b = true → PyData.eqvAll (toPs a) (toPs b) = eqvs a b
  | [], [], _, _ => by simp [toPs, PyData.eqvAll, eqvs]
  | [], _ :: _, _, _ => by simp [toPs, PyData.eqvAll, eqvs]
  | _ :: _, [], _, _ => by simp [toPs, PyData.eqvAll, eqvs]
  | x :: xs, y :: ys, ha, hb => by
    simp only [okDs, Bool.and_eq_true] at ha hb
    simp only [toPs, PyData.eqvAll, eqvs, eqv_toP x y ha.1 hb.1, eqvs_toP xs ys ha.2 hb.2]
end
mutual
theorem lay_toP : ∀ d : D, okD d = true → (toP d).canLay0 = true
  | .non, _ => by simp [toP, PyData.canLay0]
  | .bl _, _ => by simp [toP, PyData.canLay0]
  | .int _, _ => by simp [toP, PyData.canLay0]
  | .str _, h => by simpa [toP, PyData.canLay0, okD] using h
  | .tup ds, h => by simp only [toP, PyData.canLay0]; exact lays_toP ds (by simpa [okD] using h)
  | .lst ds, h => by simp only [toP, PyData.canLay0]; exact lays_toP ds (by simpa [okD] using h)
  | .dic _, h => by simp [okD] at h
  | .scr _, _ => by simp [toP, PyData.canLay0]
theorem lays_toP : ∀ ds : List D, okDs ds = true → PyData.canLayAll0 (toPs ds) = true
  | [], _ => by simp [toPs, PyData.canLayAll0]
  | d :: ds, h => by
    simp only [okDs, Bool.and_eq_true] at h
    simp only [toPs, PyData.canLayAll0, lay_toP d h.1, lays_toP ds h.2, Bool.and_self]
end
mutual
theorem dep_toP : ∀ d : D, (toP d).depth = depD d
  | .non => by simp [toP, PyData.depth, depD]
  | .bl _ => by simp [toP, PyData.depth, depD]
  | .int _ => by simp [toP, PyData.depth, depD]
  | .str _ => by simp [toP, PyData.depth, depD]
  | .tup ds => by simp [toP, PyData.depth, depD, deps_toP ds]
  | .lst ds => by simp [toP, PyData.depth, depD, deps_toP ds]
  | .dic ds => by simp [toP, PyData.depth, depD, depk_toP ds]
  | .scr _ => by simp [toP, PyData.depth, depD]
theorem deps_toP : ∀ ds : List D, PyData.depthAll (toPs ds) = depDs ds
  | [] => by simp [toPs, PyData.depthAll, depDs]
  | d :: ds => by simp [toPs, PyData.depthAll, depDs, dep_toP d, deps_toP ds]
theorem depk_toP : ∀ ds : List (Key × D), PyData.depthKv (toPk ds) = depDk ds
  | [] => by simp [toPk, PyData.depthKv, depDk]
  | (.inl k, d) :: ds => by simp [toPk, PyData.depthKv, depDk, PyData.depth, dep_toP d, depk_toP ds]
  | (.inr k, d) :: ds => by simp [toPk, PyData.depthKv, depDk, PyData.depth, dep_toP d, depk_toP ds]
end
theorem shaped_toP {d : D} (h : fitD d = true) : SeqAt.shaped (toP d) = true := by
  unfold fitD at h
  simp only [Bool.and_eq_true, decide_eq_true_eq] at h
  unfold SeqAt.shaped
  rw [lay_toP d h.1, dep_toP d]
  simp [h.2]
mutual
theorem dp_of {K : PySem.W.Frag} {H : Hp} {Y : Ys} : ∀ {v : V} {d : D}, Rep K H Y v d → okD d = true → Dp K H v (toP d)
  | _, _, .non, _ => by simp only [toP]; exact .non
  | _, _, .bl b, _ => by simp only [toP]; exact .bl b
  | _, _, .int i, _ => by simp only [toP]; exact .int i
  | _, _, .str x, _ => by simp only [toP]; exact .str x
  | _, _, .tup h _ r, o => by simp only [toP]; exact .tup (SqT.of h) (dps_of r (by simpa [okD] using o))
  | _, _, .tupW h r, o => by simp only [toP]; exact .tup (Or.inr h) (dps_of r (by simpa [okD] using o))
  | _, _, .lst h _ r, o => by simp only [toP]; exact .lst (SqL.of h) (dps_of r (by simpa [okD] using o))
  | _, _, .dic _ _ _, o => by simp [okD] at o
  | _, _, .scr _ _, o => by simp [okD] at o
  | _, _, .scrW _, o => by simp [okD] at o
theorem dps_of {K : PySem.W.Frag} {H : Hp} {Y : Ys} : ∀ {vs : List V} {ds : List D}, Reps K H Y vs ds → okDs ds = true → DpAll K H vs (toPs ds)
  | _, _, .nil, _ => by simp only [toPs]; exact .nil
  | _, _, .cons h r, o => by
    simp only [okDs, Bool.and_eq_true] at o
    simp only [toPs]
    exact .cons (dp_of h o.1) (dps_of r o.2)
end
theorem dp_ar {K : PySem.W.Frag} {H : Hp} {Y : Ys} {v : V} {d : D} (h : AR K H Y v d) (o : okD d = true) : Dp K H v (toP d) := by
  rcases h with h | ⟨a, rfl, b⟩
  · exact dp_of h o
  · cases d <;> first | exact b.elim | skip
    · obtain ⟨vs, e, r⟩ := b
      simp only [toP]
      exact .lst (SqL.of e) (dps_of r (by simpa [okD] using o))
    · simp [okD] at o
theorem scal_ar {K : PySem.W.Frag} {H : Hp} {Y : Ys} {x y : V} {a b : D} (ha : AR K H Y x a) (hb : AR K H Y y b) (h : scalD a b = true) : scal x y = true ∧ decide (x = y) = eqv a b := by
  cases a <;> cases b <;> simp only [scalD] at h <;> try cases h
  all_goals first | (obtain rfl := ha.int) | (obtain rfl := ha.bl) | (obtain rfl := ha.str) | (obtain rfl := ha.non)
  all_goals first | (obtain rfl := hb.int) | (obtain rfl := hb.bl) | (obtain rfl := hb.str) | (obtain rfl := hb.non)
  all_goals first
    | exact ⟨rfl, dec_int⟩
    | exact ⟨rfl, dec_bl⟩
    | exact ⟨rfl, dec_str⟩
    | exact ⟨rfl, by simp [eqv]⟩
theorem r_eq (hu : X.A.units + 64 < cLine) {x y : V} {a b : D} {H : Hp} {Y : Ys} {k : Bool} (ha : AR X.K H Y x a) (hb : AR X.K H Y y b) (h : eqD a b = some k) {pins : List (Addr × Obj)} {s : Shared} {σ : L2.St} {v u : Value} {Q : VK} (I : Inv X pins σ H s) (rx : RelV x v) (ry : RelV y u)
    (q : Q (.bl k) H) : wpAny (model X.prog X.w) X.A (compareOp .Eq v u) (EP X pins σ Q) X.xe s := by
  unfold eqD at h
  split at h
  · rename_i hs
    obtain ⟨h1, h2⟩ := scal_ar ha hb hs
    cases h
    exact op_eq pins s σ H x y v u Q I rx ry ⟨h1, by rw [h2]; exact q⟩
  · split at h
    · rename_i hf
      simp only [Bool.and_eq_true] at hf
      cases h
      have oa : okD a = true := by have := hf.1; unfold fitD at this; simp only [Bool.and_eq_true] at this; exact this.1
      have ob : okD b = true := by have := hf.2; unfold fitD at this; simp only [Bool.and_eq_true] at this; exact this.1
      refine op_eqD hu pins s σ H x y v u Q I rx ry ⟨toP a, toP b, dp_ar ha oa, dp_ar hb ob, shaped_toP hf.1, shaped_toP hf.2, ?_⟩
      rw [eqv_toP a b oa ob]; exact q
    · cases h
theorem r_ne (hu : X.A.units + 64 < cLine) {x y : V} {a b : D} {H : Hp} {Y : Ys} {k : Bool} (ha : AR X.K H Y x a) (hb : AR X.K H Y y b) (h : eqD a b = some k) {pins : List (Addr × Obj)} {s : Shared} {σ : L2.St} {v u : Value} {Q : VK} (I : Inv X pins σ H s) (rx : RelV x v) (ry : RelV y u)
    (q : Q (.bl (!k)) H) : wpAny (model X.prog X.w) X.A (compareOp .NotEq v u) (EP X pins σ Q) X.xe s := by
  unfold eqD at h
  split at h
  · rename_i hs
    obtain ⟨h1, h2⟩ := scal_ar ha hb hs
    cases h
    exact op_ne pins s σ H x y v u Q I rx ry ⟨h1, by rw [h2]; exact q⟩
  · split at h
    · rename_i hf
      simp only [Bool.and_eq_true] at hf
      cases h
      have oa : okD a = true := by have := hf.1; unfold fitD at this; simp only [Bool.and_eq_true] at this; exact this.1
      have ob : okD b = true := by have := hf.2; unfold fitD at this; simp only [Bool.and_eq_true] at this; exact this.1
      refine op_neD hu pins s σ H x y v u Q I rx ry ⟨toP a, toP b, dp_ar ha oa, dp_ar hb ob, shaped_toP hf.1, shaped_toP hf.2, ?_⟩
      rw [eqv_toP a b oa ob]; exact q
    · cases h
theorem flat_ar {K : PySem.W.Frag} {H : Hp} {Y : Ys} {x : V} {a : D} (ha : AR K H Y x a) (h : flatD a = true) : flatV x = true := by
  cases a <;> simp only [flatD] at h <;> try cases h
  · obtain rfl := ha.non; rfl
  · obtain rfl := ha.bl; rfl
  · obtain rfl := ha.int; rfl
  · obtain rfl := ha.str; rfl
theorem flat_reps {K : PySem.W.Frag} {H : Hp} {Y : Ys} : ∀ {vs : List V} {ds : List D}, Reps K H Y vs ds → ds.all flatD = true → vs.all flatV = true
  | _, _, .nil, _ => rfl
  | _, _, .cons h r, f => by
    simp only [List.all_cons, Bool.and_eq_true] at f ⊢
    exact ⟨flat_ar (.inl h) f.1, flat_reps r f.2⟩
theorem eqV_ar {K : PySem.W.Frag} {H : Hp} {Y : Ys} {x y : V} {a b : D} (ha : AR K H Y x a) (hb : AR K H Y y b) (fa : flatD a = true) (fb : flatD b = true) : eqV x y = eqv a b := by
  cases a <;> simp only [flatD] at fa <;> try cases fa
  all_goals cases b <;> simp only [flatD] at fb <;> try cases fb
  all_goals first | (obtain rfl := ha.int) | (obtain rfl := ha.bl) | (obtain rfl := ha.str) | (obtain rfl := ha.non)
  all_goals first | (obtain rfl := hb.int) | (obtain rfl := hb.bl) | (obtain rfl := hb.str) | (obtain rfl := hb.non)
  all_goals simp [eqV, eqv]
theorem inV_reps {K : PySem.W.Frag} {H : Hp} {Y : Ys} {x : V} {a : D} (ha : AR K H Y x a) (fa : flatD a = true) : ∀ {vs : List V} {ds : List D}, Reps K H Y vs ds → ds.all flatD = true → inV x vs = inD a ds
  | _, _, .nil, _ => rfl
  | _, _, .cons h r, f => by
    simp only [List.all_cons, Bool.and_eq_true] at f
    have e := inV_reps ha fa r f.2
    unfold inV inD at e ⊢
    rw [List.any_cons, List.any_cons, e, eqV_ar (.inl h) ha f.1 fa]
theorem getK_ok {K : PySem.W.Frag} {H : Hp} {Y : Ys} (k : Key) : ∀ {vs : List (Key × V)} {ds : List (Key × D)}, RepK K H Y vs ds → (∀ d, getK ds k = some d → ∃ v, valV vs k = some v ∧ Rep K H Y v d) ∧ (getK ds k = none → valV vs k = none)
  | _, _, .nil => ⟨fun d h => by simp [getK] at h, fun _ => rfl⟩
  | _, _, .cons (k := k') h r => by
    have ih := getK_ok k r
    by_cases e : k' = k
    · subst e
      refine ⟨fun d hd => ?_, fun hn => ?_⟩
      · rw [valV_pos rfl]
        simp [getK, List.find?_cons] at hd
        subst hd
        exact ⟨_, rfl, h⟩
      · simp [getK, List.find?_cons] at hn
    · have e1 : ∀ (w : V) (r : List (Key × V)), valV ((k', w) :: r) k = valV r k := fun w r => valV_neg e
      rw [e1]
      have e2 : ∀ (d : D) (r : List (Key × D)), getK ((k', d) :: r) k = getK r k := fun d r => by simp [getK, List.find?_cons, e]
      rw [e2]
      exact ih
theorem sign_of {x : Str} {c : Nat} (h : signOf x = some c) : x = ⟨#[c]⟩ := by
  unfold signOf at h
  split at h
  · rename_i e
    cases h
    obtain ⟨a⟩ := x
    have : a = #[c] := by
      apply Array.ext'
      exact e
    rw [this]
  · cases h
theorem dgetR {H : Hp} {a : Addr} {kvs : List (Key × V)} {k : Key} (e : Rd H a (.dK kvs)) : DGet H a (kV k) (valV kvs k) := .inl ⟨kvs, k, e, rfl, rfl⟩
theorem r_cmp {op : CmpOp} (hu : X.A.units + 64 < cLine) : OpR X (compareOp op) (fun x y => rTag X.K (.cmp op) [x, y]) := by
  intro pins s σ H x y v u Q I rx ry ⟨Y, ds, res, hY, ar, h, q⟩
  have hu1 : X.A.units + 1 < cLine := by omega
  cases ar with
  | cons ha ar => cases ar with
    | cons hb ar => cases ar with
      | nil =>
        rename_i a b
        simp only [primD, prCmp] at h
        cases hc : cmpD op a b with
        | none => rw [hc] at h; cases h
        | some k =>
          rw [hc] at h
          simp only [Option.map_some, Option.some.injEq] at h
          subst h
          have q' : Q (.bl k) H := q _ H (Same.refl H) (.bl k)
          unfold cmpD at hc
          split at hc
          · exact r_eq hu ha hb hc I rx ry q'
          · cases he : eqD a b with
            | none => rw [he] at hc; cases hc
            | some j =>
              rw [he] at hc
              simp only [Option.map_some, Option.some.injEq] at hc
              subst hc
              exact r_ne hu ha hb he I rx ry q'
          · obtain rfl := ha.str; obtain rfl := hb.str; cases hc
            exact op_lt_str pins s σ H _ _ v u Q I rx ry ⟨_, _, rfl, rfl, q'⟩
          · obtain rfl := ha.str; obtain rfl := hb.str
            obtain ⟨c, hs, rfl⟩ := Option.map_eq_some_iff.mp hc
            obtain rfl := sign_of hs
            exact op_in_sign pins s σ H _ _ v u Q I rx ry ⟨c, _, rfl, rfl, q'⟩
          · obtain rfl := ha.str; obtain rfl := hb.str
            obtain ⟨c, hs, rfl⟩ := Option.map_eq_some_iff.mp hc
            obtain rfl := sign_of hs
            exact op_notIn_sign pins s σ H _ _ v u Q I rx ry ⟨c, _, rfl, rfl, q'⟩
          · obtain rfl := ha.int; obtain rfl := hb.int; cases hc
            exact op_lt pins s σ H _ _ v u Q I rx ry ⟨_, _, rfl, rfl, q'⟩
          · obtain rfl := ha.int; obtain rfl := hb.int; cases hc
            exact op_le pins s σ H _ _ v u Q I rx ry ⟨_, _, rfl, rfl, q'⟩
          · obtain rfl := ha.int; obtain rfl := hb.int; cases hc
            exact op_gt pins s σ H _ _ v u Q I rx ry ⟨_, _, rfl, rfl, q'⟩
          · obtain rfl := ha.int; obtain rfl := hb.int; cases hc
            exact op_ge pins s σ H _ _ v u Q I rx ry ⟨_, _, rfl, rfl, q'⟩
          · obtain rfl := ha.non; obtain rfl := hb.non; cases hc
            exact op_isN pins s σ H _ _ v u Q I rx ry ⟨rfl, q'⟩
          · obtain rfl := ha.bl; obtain rfl := hb.non; cases hc
            exact op_isN pins s σ H _ _ v u Q I rx ry ⟨rfl, q'⟩
          · obtain rfl := ha.int; obtain rfl := hb.non; cases hc
            exact op_isN pins s σ H _ _ v u Q I rx ry ⟨rfl, q'⟩
          · obtain rfl := ha.str; obtain rfl := hb.non; cases hc
            exact op_isN pins s σ H _ _ v u Q I rx ry ⟨rfl, q'⟩
          · obtain ⟨_, _, rfl, _⟩ := ha.tup; obtain rfl := hb.non; cases hc
            exact op_isN pins s σ H _ _ v u Q I rx ry ⟨rfl, q'⟩
          · obtain ⟨_, _, rfl, _⟩ := ha.lst; obtain rfl := hb.non; cases hc
            exact op_isN pins s σ H _ _ v u Q I rx ry ⟨rfl, q'⟩
          · obtain ⟨_, _, rfl, _⟩ := ha.dic; obtain rfl := hb.non; cases hc
            exact op_isN pins s σ H _ _ v u Q I rx ry ⟨rfl, q'⟩
          · rename_i i j
            obtain rfl := ha.bl; obtain rfl := hb.bl; cases hc
            refine op_isBl pins s σ H _ _ v u Q I rx ry ⟨_, _, rfl, rfl, ?_⟩
            have e : decide (i = j) = (i == j) := by cases i <;> cases j <;> rfl
            rw [e]; exact q'
          · obtain rfl := ha.non; obtain rfl := hb.non; cases hc
            exact op_notN pins s σ H _ _ v u Q I rx ry ⟨rfl, q'⟩
          · obtain rfl := ha.bl; obtain rfl := hb.non; cases hc
            exact op_notN pins s σ H _ _ v u Q I rx ry ⟨rfl, q'⟩
          · obtain rfl := ha.int; obtain rfl := hb.non; cases hc
            exact op_notN pins s σ H _ _ v u Q I rx ry ⟨rfl, q'⟩
          · obtain rfl := ha.str; obtain rfl := hb.non; cases hc
            exact op_notN pins s σ H _ _ v u Q I rx ry ⟨rfl, q'⟩
          · obtain ⟨_, _, rfl, _⟩ := ha.tup; obtain rfl := hb.non; cases hc
            exact op_notN pins s σ H _ _ v u Q I rx ry ⟨rfl, q'⟩
          · obtain ⟨_, _, rfl, _⟩ := ha.lst; obtain rfl := hb.non; cases hc
            exact op_notN pins s σ H _ _ v u Q I rx ry ⟨rfl, q'⟩
          · obtain ⟨_, _, rfl, _⟩ := ha.dic; obtain rfl := hb.non; cases hc
            exact op_notN pins s σ H _ _ v u Q I rx ry ⟨rfl, q'⟩
          · rename_i i j
            obtain rfl := ha.bl; obtain rfl := hb.bl; cases hc
            refine op_notBl pins s σ H _ _ v u Q I rx ry ⟨_, _, rfl, rfl, ?_⟩
            have e : decide (i = j) = (i == j) := by cases i <;> cases j <;> rfl
            rw [e]; exact q'
          · obtain ⟨p, vs, rfl, e, r⟩ := hb.lst
            split at hc
            · rename_i hf
              simp only [Bool.and_eq_true] at hf
              cases hc
              refine op_in_seq pins s σ H _ _ v u Q I rx ry ⟨p, vs, rfl, .inl (SqL.of e), flat_ar ha hf.1, flat_reps r hf.2, ?_⟩
              rw [inV_reps ha hf.1 r hf.2]; exact q'
            · cases hc
          · obtain ⟨p, vs, rfl, e, r, _⟩ := hb.tup
            split at hc
            · rename_i hf
              simp only [Bool.and_eq_true] at hf
              cases hc
              refine op_in_seq pins s σ H _ _ v u Q I rx ry ⟨p, vs, rfl, .inr e, flat_ar ha hf.1, flat_reps r hf.2, ?_⟩
              rw [inV_reps ha hf.1 r hf.2]; exact q'
            · cases hc
          · rename_i i kds
            obtain rfl := ha.int
            obtain ⟨p, kvs, rfl, e, r⟩ := hb.dic
            cases hc
            obtain rfl : u = Value.ref p := ry
            have g := dgetR (k := (Sum.inl i : Key)) e
            refine d_in hu1 I g rx fun s3 I3 => ⟨.bl _, H, I3, rfl, ?_⟩
            have eq : (valV kvs (Sum.inl i : Key)).isSome = (getK kds (Sum.inl i : Key)).isSome := by
              obtain ⟨h1, h2⟩ := getK_ok (Sum.inl i : Key) r
              cases hg : getK kds (Sum.inl i : Key) with
              | none => rw [h2 hg]; rfl
              | some d => obtain ⟨w, hw, _⟩ := h1 d hg; rw [hw]; rfl
            rw [eq]; exact q'
          · rename_i i kds
            obtain rfl := ha.str
            obtain ⟨p, kvs, rfl, e, r⟩ := hb.dic
            cases hc
            obtain rfl : u = Value.ref p := ry
            have g := dgetR (k := (Sum.inr i : Key)) e
            refine d_in hu1 I g rx fun s3 I3 => ⟨.bl _, H, I3, rfl, ?_⟩
            have eq : (valV kvs (Sum.inr i : Key)).isSome = (getK kds (Sum.inr i : Key)).isSome := by
              obtain ⟨h1, h2⟩ := getK_ok (Sum.inr i : Key) r
              cases hg : getK kds (Sum.inr i : Key) with
              | none => rw [h2 hg]; rfl
              | some d => obtain ⟨w, hw, _⟩ := h1 d hg; rw [hw]; rfl
            rw [eq]; exact q'
          · obtain ⟨p, vs, rfl, e, r⟩ := hb.lst
            split at hc
            · rename_i hf
              simp only [Bool.and_eq_true] at hf
              cases hc
              refine op_notIn_seq pins s σ H _ _ v u Q I rx ry ⟨p, vs, rfl, .inl (SqL.of e), flat_ar ha hf.1, flat_reps r hf.2, ?_⟩
              rw [inV_reps ha hf.1 r hf.2]; exact q'
            · cases hc
          · obtain ⟨p, vs, rfl, e, r, _⟩ := hb.tup
            split at hc
            · rename_i hf
              simp only [Bool.and_eq_true] at hf
              cases hc
              refine op_notIn_seq pins s σ H _ _ v u Q I rx ry ⟨p, vs, rfl, .inr e, flat_ar ha hf.1, flat_reps r hf.2, ?_⟩
              rw [inV_reps ha hf.1 r hf.2]; exact q'
            · cases hc
          · rename_i i kds
            obtain rfl := ha.int
            obtain ⟨p, kvs, rfl, e, r⟩ := hb.dic
            cases hc
            obtain rfl : u = Value.ref p := ry
            have g := dgetR (k := (Sum.inl i : Key)) e
            refine d_notIn hu1 I g rx fun s3 I3 => ⟨.bl _, H, I3, rfl, ?_⟩
            have eq : (valV kvs (Sum.inl i : Key)).isSome = (getK kds (Sum.inl i : Key)).isSome := by
              obtain ⟨h1, h2⟩ := getK_ok (Sum.inl i : Key) r
              cases hg : getK kds (Sum.inl i : Key) with
              | none => rw [h2 hg]; rfl
              | some d => obtain ⟨w, hw, _⟩ := h1 d hg; rw [hw]; rfl
            rw [eq]; exact q'
          · rename_i i kds
            obtain rfl := ha.str
            obtain ⟨p, kvs, rfl, e, r⟩ := hb.dic
            cases hc
            obtain rfl : u = Value.ref p := ry
            have g := dgetR (k := (Sum.inr i : Key)) e
            refine d_notIn hu1 I g rx fun s3 I3 => ⟨.bl _, H, I3, rfl, ?_⟩
            have eq : (valV kvs (Sum.inr i : Key)).isSome = (getK kds (Sum.inr i : Key)).isSome := by
              obtain ⟨h1, h2⟩ := getK_ok (Sum.inr i : Key) r
              cases hg : getK kds (Sum.inr i : Key) with
              | none => rw [h2 hg]; rfl
              | some d => obtain ⟨w, hw, _⟩ := h1 d hg; rw [hw]; rfl
            rw [eq]; exact q'
          · cases hc
end
end Ofw
/-! Ofw S1: sets of ints, sorted, of any size below the scan's bound -/
namespace Ofw
open PySem L2
open PySem.Spec PyProof.Rows
section
variable {P : Program} {w : World} {A : Around} {E : Value → Shared → Prop} {s : Shared}
/-- a new set's object -/
abbrev newSet (w : World) : Obj := { cls := .type "set", dict := none, data := .set #[] 0 (.fresh 0 0 (!w.params.followText "set-order")) }
theorem set_of_list {l : Addr} {its : Array Value} (ns : List Int) {Q : Value → Shared → Prop} (hA : A.handled = none) (hL : s.heap.IsList l its) (hN : IntsAre its.toList ns) (hB : ns.length + 1 < scanBound)
    (q : ∀ (hp : Heap) (tk c : Nat), SetR w hp s.heap.objs.size (fun j => decide (j ∈ ns)) c → c ≤ ns.length → (∀ b o, s.heap.get? b = some o → hp.get? b = some o) → Q (.ref s.heap.objs.size) { s with heap := hp, toks := tk }) :
    wpAny (model P w) A (call (.type "set") [.ref l]) Q E s := by
  have sz : its.size = ns.length := by
    have e := IntsAre.length hN
    rwa [Array.length_toList] at e
  obtain ⟨c0, tl0, m0⟩ := F.called_set.mro
  have m1 := F.called_set.made
  have m2 := F.called_set.sub
  refine wpAny_call (codeAny_of_tree ?_)
  show wpAny _ _ (callAny (.type "set") _) _ _ _
  refine wpAny_pure ⟨Code.quiet_builtin _ (by decide +kernel), codeAny_builtin F.entry_type_call ?_⟩
  rw [Around.under_plain (weight_type_call_type "set" [.ref l] []) rfl]
  have m3 := F.called_set.notType
  have m4 := F.called_set.canCreate
  have m5 := F.typeCall_set_1 (.ref l)
  repeat (any_goals (first | assumption | wp_step))
  refine codeAny_mono (code_set_led1 (.ref l) (E := E) (Q₁ := fun ob s₁ => ob = .ref s.heap.objs.size ∧ s₁ = { s with heap := s.heap.push (newSet w) }) ⟨rfl, rfl⟩) fun r s₁ hr => ?_
  cases r with
  | error e => exact hr
  | ok fl =>
    cases fl with
    | ret ob =>
      obtain ⟨rfl, rfl⟩ := hr
      have gS : (s.heap.push (newSet w)).get? s.heap.objs.size = some (newSet w) := Heap.get?_push_size _ rfl
      have gT : Shared.TypeIs { s with heap := s.heap.push (newSet w) } (.ref s.heap.objs.size) "set" := ⟨_, gS, rfl⟩
      have b1 := F.called_set.init.lookup
      have b2 := F.called_set.init.bind (.ref s.heap.objs.size)
      repeat (any_goals (first | assumption | wp_step))
      refine codeAny_mono (codeAny_call_builtin (R := wants (fun r s₂ => r = .none ∧ ∃ hp tk c, s₂ = { s with heap := hp, toks := tk } ∧ SetR w hp s.heap.objs.size (fun j => decide (j ∈ ns)) c ∧ c ≤ ns.length ∧
        (∀ b o, s.heap.get? b = some o → hp.get? b = some o)) E) F.called_set.init.plain F.entry_set_init (check_set_init_1 gT ?_)) fun r₂ s₂ hr₂ => ?_
      · obtain ⟨ol, g0, c1, nl, d1⟩ := hL
        obtain ⟨ocls, odict, odata, oslots⟩ := ol
        simp only at c1 d1
        subst c1; subst d1
        have g1 : (s.heap.push (newSet w)).get? l = some { cls := .type "list", dict := odict, data := .seq its nl, slots := oslots } := Heap.get?_push_of_some _ g0
        have n1 := F.sub_list_set
        have n2 := F.sub_list_frozenset
        have n3 : (Value.type "list" == Value.type "dict") = false := by decide
        have L1 : (s.heap.push (newSet w)).IsList l its := ⟨_, g1, rfl, nl, rfl⟩
        unfold Builtin.«set.__init__» noKeywords Builtin.Frozenset.updateFrom
        generalize hPI : pyIter = PI
        wp_walk
        subst hPI
        refine wpAny_pyIter_list L1 ?_
        refine wpAny_bind (wpAny_runValue ?_)
        have lt0 : l < s.heap.objs.size := Heap.lt_size g0
        have hA3 : A.in1.in1.in1.handled = none := by simp [hA]
        have ne1 : l ≠ (s.heap.push (newSet w)).objs.size := by
          rw [Heap.size_push]; exact Nat.ne_of_lt (Nat.lt_succ_of_lt lt0)
        have ni : s.heap.objs.size ∉ [(s.heap.push (newSet w)).objs.size, l] := by
          rw [Heap.size_push]
          intro z
          rcases List.mem_cons.mp z with z | z
          · exact absurd z (Nat.ne_of_lt (Nat.lt_succ_self _))
          · rw [List.mem_singleton] at z; exact absurd lt0 (by rw [← z]; exact Nat.lt_irrefl _)
        have vals : ∀ (i : Nat) (v : Value), its[i]? = some v → ∃ k t, ns[i]? = some k ∧ v = .int k t := fun i v hv => by
          have hi : i < ns.length := by rw [← sz]; exact (Array.getElem?_eq_some_iff.mp hv).1
          obtain ⟨t, e⟩ := PyProof.Rows.IntsAre.int_at hN i v (by rw [Array.getElem?_toList]; exact hv)
          exact ⟨ns[i], t, List.getElem?_eq_getElem hi, by rw [e, List.getD_eq_getElem?_getD, List.getElem?_eq_getElem hi]; rfl⟩
        refine set_update_ints ((Walks.list hA3 _ l ne1 its).toS) s.heap.objs.size ni ns sz hB vals (its.size - 0) 0 _ (by omega) (Nat.zero_le _) ⟨⟨_, Heap.get?_push_size _ rfl, rfl, rfl⟩, (L1.push _)⟩ ?s0 ?sR
        case s0 =>
          exact ⟨0, Nat.le_refl 0, setR_new_at (Heap.get?_push_of_some _ gS)⟩
        case sR =>
          intro s' c' hm hc' hS'
          obtain ⟨hp, g2, d', tk', os'⟩ := s'
          have e1 : g2 = s.gens := hm.gens
          have e2 : d' = s.drawn := hm.drawn
          have e3 : os' = s.os := hm.os
          subst e1; subst e2; subst e3
          show wpAny _ _ _ _ _ _
          refine wpAny_pure ?_
          show wpAny _ _ (ret Value.none) _ _ _
          rw [sz] at hc'
          refine wpAny_pure ⟨rfl, hp, tk', c', rfl, hS', hc', fun b o e => ?_⟩
          have lb : b < s.heap.objs.size := Heap.lt_size e
          refine hm.heap b o (fun z => ?_) (Heap.get?_push_of_some _ (Heap.get?_push_of_some _ e))
          rcases List.mem_cons.mp z with z | z
          · exact absurd lb (by rw [z]; exact Nat.lt_irrefl _)
          · rw [List.mem_singleton, Heap.size_push] at z
            exact absurd lb (by rw [z]; exact Nat.not_lt_of_le (Nat.le_succ _))
      · cases r₂ with
        | error e => exact hr₂
        | ok fl₂ =>
          cases fl₂ with
          | ret r =>
            obtain ⟨rfl, hp, tk, c', rfl, hS', hc', hk'⟩ := hr₂
            repeat (any_goals (first | assumption | wp_step))
            exact q _ _ _ hS' hc' hk'
          | _ => exact hr₂.elim
    | _ => exact hr.elim
/-- sorted of a list just made, ints, any number -/
theorem sort_new {a : Addr} {vs : List Value} {ns : List Int} {Q : PySem.Fin → Shared → Prop} (g : s.heap.get? a = some (seqObj "list" vs.toArray 0)) (hz : vs.length ≤ sizeLine) (hI : IntsAre vs ns)
    (q : ∀ (out : List Value) (ms : List Int), IntsAre out ms → ms.Perm ns → ms.Pairwise (· ≤ ·) → Q (.done (.ret .none)) { s with heap := sortedHeap s.heap a vs out.toArray }) :
    wpAny (model P w) A (Builtin.«list.sort» ⟨[.ref a], []⟩) Q E s :=
  SrtO.list_sort_ord SrtO.swo_int g hz (fun h2 => SrtO.ints_sortable hI h2) fun out h1 h2 => by
    obtain ⟨k1, k2, k3⟩ := SrtO.ints_out hI h1 h2
    exact q out _ k1 k2 k3
theorem sorted_setN {a : Addr} {S : Int → Bool} {n : Nat} {Q : Value → Shared → Prop} (R : SetR w s.heap a S n) (hA : A.handled = none)
    (q : ∀ s' p (out : List Value) (c : Nat) (ns : List Int), (∀ b o, s.heap.get? b = some o → s'.heap.get? b = some o) → s'.gens = s.gens → s'.os = s.os → s.heap.objs.size ≤ p →
      s'.heap.get? p = some (seqObj "list" out.toArray c) → IntsAre out ns → ns.Pairwise (· < ·) → (∀ k, k ∈ ns ↔ S k = true) → ns.length < scanBound → Q (.ref p) s') :
    wpAny (model P w) A (call (.builtin "sorted") [.ref a]) Q E s := by
  obtain ⟨o, es, ep, t, ho, hx, hd, ge, nd, hm, hb, hf, hn, hr, hl⟩ := R
  refine Calls.call_function_entry kind_sorted plain_sorted entry_sorted (args_sorted1 _) ?_
  unfold Builtin.«sorted»
  refine wpAny_bind (m := checkCount "sorted" 1 1 _) (wpAny_pure ?_)
  refine wpAny_bind (collect_set (A := A.in1) hA ⟨o, ho, hx.1, hd⟩ hf hb hr hl fun s1 vs k1 hz g1 o1 pm => ?_)
  have ln : vs.length = es.size := by rw [pm.length_eq, List.length_map, Array.length_toList]
  have hI : IntsAre vs (vs.map Builtin.Re.reRawOf) := ints_of vs fun v hv => by
    obtain ⟨e, he, z⟩ := List.mem_map.mp (pm.mem_iff.mp hv)
    obtain ⟨k, tk, h1, _⟩ := ge e he
    exact ⟨k, tk, by rw [← z]; exact h1⟩
  have pk : (vs.map Builtin.Re.reRawOf).Perm (es.toList.map keyOf) := by
    have z := pm.map Builtin.Re.reRawOf
    rwa [List.map_map] at z
  have hsz : vs.length ≤ sizeLine := by
    rw [ln]; exact fits_of_scanBound hb
  refine wpAny_bind (wpAny_newList ?_ hsz)
  have gL : (s1.heap.push (seqObj "list" vs.toArray 0)).get? s1.heap.objs.size = some (seqObj "list" vs.toArray 0) := Heap.get?_push_size _ rfl
  refine wpAny_bind (wpAny_holding (wpAny_call_entry slot_list_sort ⟨_, gL, rfl⟩ entry_list_sort (sort_new gL hsz hI fun out ms a1 a2 a3 => ⟨_, rfl, ?_⟩) (args_list_sort _)))
  obtain ⟨c, hc⟩ := sortedHeap_at (vs := vs) (out := out.toArray) gL
  have pn : ms.Perm (es.toList.map keyOf) := a2.trans pk
  refine wpAny_pure ⟨_, rfl, q _ s1.heap.objs.size out c ms (fun b u e => ?_) g1 o1 hz hc a1 (lt_of_le_nodup ms a3 (pn.nodup_iff.mpr nd)) (fun k => by rw [pn.mem_iff, ← hm k]) ?_⟩
  · have z := k1 b u e
    have lt := Heap.lt_size z
    show (sortedHeap (s1.heap.push (seqObj "list" vs.toArray 0)) s1.heap.objs.size vs out.toArray).get? b = some u
    rw [sortedHeap_old (Nat.ne_of_lt lt) (by rw [size_push']; exact Nat.lt_succ_of_lt lt)]
    exact Heap.get?_push_of_some _ z
  · rw [pn.length_eq, List.length_map, Array.length_toList]; exact hb
end
section
variable {X : Cx}
/-- the set's object as a heap object of ours: from L2's SetO -/
def rSetN (K : PySem.W.Frag) (w : World) : List V → Hp → VK → Prop := fun xs H Q => ∃ (a : Addr) (ns : List Int), xs = [.ref a] ∧ (SqL K H a (ns.map V.int) ∨ SqT K H a (ns.map V.int)) ∧ ns.length + 1 < scanBound ∧
  ∀ p c, H p = none → c ≤ ns.length → Q (.ref p) (upd H p (SetO w p (fun j => decide (j ∈ ns)) c))
theorem cr_setN (hc : X.calm = true) : CallR X (.type "set") (rSetN X.K X.w) := by
  intro pins s σ H xs us Q I r ⟨a, ns, ex, hs, hb, q⟩
  subst ex
  rw [Vals.ref1 r]
  have fin : ∀ (hp : Heap) (tk c : Nat), SetR X.w hp s.heap.objs.size (fun j => decide (j ∈ ns)) c → c ≤ ns.length → (∀ b o, s.heap.get? b = some o → hp.get? b = some o) → EP X pins σ Q (.ref s.heap.objs.size) { s with heap := hp, toks := tk } := by
    intro hp tk c hS hc' hk
    have hn : H s.heap.objs.size = none := I.hok.fresh (Nat.le_refl _)
    exact ⟨.ref s.heap.objs.size, _, I.laid (t' := tk) hk (Nat.le_refl _) (setO_new hS), rfl, q _ c hn hc'⟩
  rcases hs with hs | hs
  · obtain ⟨its, rv, hl, hz⟩ := I.list hs
    exact set_of_list ns (I.ok.hd hc) hl.isList (by simpa using rv.ints) hb fin
  · obtain ⟨its, rv, hl, hz⟩ := I.tuple hs
    exact call_set_tupI ns (I.ok.hd hc) hl (by simpa using rv.ints) hb fin
def rSortSetN (w : World) : List V → Hp → VK → Prop := fun vs H Q => ∃ (a : Addr) (S : Int → Bool) (n : Nat), vs = [V.ref a] ∧ H a = some (SetO w a S n) ∧
  ∀ (ns : List Int) (p : Addr), ns.Pairwise (· < ·) → (∀ k : Int, k ∈ ns ↔ S k = true) → H p = none → Q (.ref p) (upd H p (.lst (ns.map V.int)))
theorem cr_sortSetN (hc : X.calm = true) : CallR X (.builtin "sorted") (rSortSetN X.w) := by
  intro pins s σ H vs us Q I r ⟨a, S, n, ex, ha, q⟩
  subst ex
  have R := setO_get I ha
  rw [Vals.ref1 r]
  refine sorted_setN R (I.ok.hd hc) fun s' p out c ns k g o hp hg hi hs hm hl => ?_
  have hlen : (ns.map V.int).length ≤ sizeLine := by rw [List.length_map]; exact fits_of_scanBound hl
  have hn : H p = none := I.hok.fresh hp
  have J : Inv X pins σ (upd H p (.lst (ns.map V.int))) { s with heap := s'.heap, gens := s'.gens, drawn := s'.drawn, toks := s'.toks } :=
    I.call (ch := []) (Un.laid k hp hn) (I.hok.laid k hp ⟨hlen, out, c, vals_of_ints hi, hg⟩) (by rw [g]; exact I.bare) (fun _ z => nomatch z)
  have e : s' = { s with heap := s'.heap, gens := s'.gens, drawn := s'.drawn, toks := s'.toks } := by
    cases s'
    cases s
    cases o
    rfl
  rw [e]
  exact ⟨.ref p, _, J, rfl, q ns p hs hm hn⟩
end
end Ofw
/-! Ofw S2: sorted(d) of int keys, sorted(set(xs)), d.update(e) -/
namespace Ofw
open PySem L2
open PySem.Spec PyProof.Rows
section
variable {X : Cx}
/-- sorted(d), ints for keys, any number of them -/
def rSortD : List V → Hp → VK → Prop := fun xs H Q => ∃ (a : Addr) (kvs : List (Key × V)) (ks : List Int), xs = [.ref a] ∧ Rd H a (.dK kvs) ∧ kvs.map (·.1) = ks.map Sum.inl ∧
  ∀ (ys : List Int) (p : Addr), ys.Perm ks → ys.Pairwise (· ≤ ·) → H p = none → Q (.ref p) (upd H p (.lst (ys.map V.int)))
theorem cr_sortD (hc : X.calm = true) : CallR X (.builtin "sorted") rSortD := by
  intro pins s σ H xs us Q I r ⟨a, kvs, ks, ex, hd, hks, q⟩
  subst ex
  obtain ⟨u, eu, rx⟩ := vals1 r
  subst eu
  cases rx
  obtain ⟨z, lo, vs, rel, dd⟩ := dk_rd I.hok hd
  obtain ⟨ep, hat⟩ := dd.dictAt
  have keys : vs.map (·.1) = ks.map Sum.inl := rel.keys.symm.trans hks
  have len : vs.length = ks.length := by
    have e := congrArg List.length keys
    simpa using e
  have fits : vs.length ≤ sizeLine := by rw [← rel.length]; exact z
  refine Calls.call_function_entry kind_sorted plain_sorted entry_sorted (args_sorted1 _) ?_
  unfold Builtin.«sorted»
  refine wpAny_bind (m := checkCount "sorted" 1 1 _) (wpAny_pure ?_)
  refine wpAny_bind (PySem.W.kdu_collect (A := X.A.in1) (PySem.W.kdl_dict (knd := mixKind X.prog X.w) (kvs := vs) (ep := ep) lo) (I.ok.hd hc) hat fits fun hp tk acc hk hacc => ?_)
  have la : acc.toList.length = ks.length := by rw [Array.length_toList, hacc.1, len]
  have hS : IntsAre acc.toList ks := ints_each la fun j v e => by
    obtain ⟨k, x, e1, e2⟩ := hacc.2 j v (by rw [← Array.getElem?_toList]; exact e)
    have e3 : (vs.map (·.1))[j]? = some k := by rw [List.getElem?_map, e1]; rfl
    rw [keys, List.getElem?_map] at e3
    cases e4 : ks[j]? with
    | none => rw [e4] at e3; cases e3
    | some y =>
      rw [e4] at e3
      cases e3
      rcases keyIs_shape (show keyIs (Sum.inl y) v = true from e2) with ⟨i, t, ek, ev⟩ | ⟨z, t, ek, ev⟩
      · cases ek
        exact ⟨y, t, rfl, ev⟩
      · cases ek
  have I1 : Inv X pins σ H { s with heap := hp, toks := tk } := I.kept hk
  have sz : acc.toList.length ≤ sizeLine := by rw [la, ← len]; exact fits
  refine wpAny_bind (wpAny_newList ?_ sz)
  have gL : (hp.push (seqObj "list" acc.toList.toArray 0)).get? hp.objs.size = some (seqObj "list" acc.toList.toArray 0) := Heap.get?_push_size _ rfl
  show wpAny _ _ _ _ _ { s with heap := hp.push (seqObj "list" acc.toList.toArray 0), toks := tk }
  refine wpAny_bind (wpAny_holding (wpAny_call_entry slot_list_sort ⟨_, gL, rfl⟩ entry_list_sort (sort_new (s := { s with heap := hp.push (seqObj "list" acc.toList.toArray 0), toks := tk }) gL sz hS fun out ys g1 g2 g3 => ⟨_, rfl, ?_⟩) (args_list_sort _)))
  obtain ⟨e', he'⟩ := sortedHeap_at (vs := acc.toList) (out := out.toArray) gL
  have hlen : (ys.map V.int).length ≤ sizeLine := by
    rw [List.length_map, g2.length_eq, ← la]; exact sz
  refine wpAny_pure ⟨_, rfl, .ref hp.objs.size, upd H hp.objs.size (.lst (ys.map V.int)), I1.laid (t' := tk) (fun b u e => ?_) (Nat.le_refl _)
    (show ObjOk X.prog X.w _ _ _ (.lst (ys.map V.int)) from ⟨hlen, out, e', vals_of_ints g1, he'⟩), rfl, q ys _ g2 g3 (I1.hok.fresh (Nat.le_refl _))⟩
  have lb : b < hp.objs.size := Heap.lt_size e
  rw [sortedHeap_old (Nat.ne_of_lt lb) (by rw [size_push']; exact Nat.lt_succ_of_lt lb)]
  exact Heap.get?_push_of_some _ e
/-- d.update(e) -/
def rUpdD : V → List V → Hp → VK → Prop := fun x vs H Q => ∃ (a b : Addr) (kvs more : List (Key × V)), x = .ref a ∧ vs = [.ref b] ∧ a ≠ b ∧ H a = some (.dK kvs) ∧ Rd H b (.dK more) ∧ kvs.length + more.length ≤ sizeLine ∧
  Q .non (upd H a (.dK (mergeK kvs more)))
theorem mt_updD : MtM X "dict.update" rUpdD := by
  intro pins s σ H x vs v us Q I rx rv ⟨a, b, kvs, more, ex, ev, ne, ea, eb, hz, q⟩
  subst ex
  subst ev
  obtain rfl : v = Value.ref a := rx
  obtain ⟨u, rfl, ru⟩ := rv.one
  obtain rfl : u = Value.ref b := ru
  obtain ⟨z, lo, ws, rel, dd⟩ := dk_of I.hok ea
  obtain ⟨z2, lo2, ws2, rel2, dd2⟩ := dk_rd I.hok eb
  refine call_meetsIn PySem.F.slot_dict_update dd.typeIs PySem.F.entry_dict_update (PySem.F.args_dict_update_2 _ _) (meets_dict_update (mixKind X.prog X.w) a b ne lo2)
    ⟨ws, ws2, dd, dd2, (by rw [← rel.length, ← rel2.length]; exact hz), fun hp d1 d2 sb => ?_⟩
  obtain ⟨o, ho, _⟩ := Heap.dictOf_iff.mp d1
  refine ⟨.non, _, d_write (t' := s.toks) I (by rw [ea]; trivial) sb ⟨o, ho⟩ (dk_new (Nat.le_trans (length_mergeK more kvs) hz) lo (rel2.merge rel) d1), rfl, q⟩
/-- sorted(set(e)) -/
theorem dedI_mem : ∀ (l : List Int) (k : Int), k ∈ dedI l ↔ k ∈ l
  | [], k => by simp [dedI]
  | x :: r, k => by
    unfold dedI
    split
    · rename_i h
      rw [dedI_mem r k, List.mem_cons]
      exact ⟨.inr, fun z => z.elim (fun e => by rw [e]; exact List.contains_iff_mem.mp h) id⟩
    · rw [List.mem_cons, List.mem_cons, dedI_mem r k]
theorem dedI_nodup : ∀ l : List Int, (dedI l).Nodup
  | [] => .nil
  | x :: r => by
    unfold dedI
    split
    · exact dedI_nodup r
    · rename_i h
      exact List.nodup_cons.mpr ⟨fun z => h (List.contains_iff_mem.mpr ((dedI_mem r x).mp z)), dedI_nodup r⟩
theorem sort_set {ns ms : List Int} (h : ms.Pairwise (· < ·)) (e : ∀ k, k ∈ ms ↔ k ∈ ns) : ms = sortI (dedI ns) := by
  have nd : ms.Nodup := h.imp fun h => Int.ne_of_lt h
  have pm : ms.Perm (dedI ns) := (List.perm_ext_iff_of_nodup nd (dedI_nodup ns)).mpr fun k => by rw [e k, dedI_mem]
  exact sorted_unique (pm.trans (sortI_perm _).symm) (h.imp fun h => Int.le_of_lt h) (sortI_sorted _)
/-- two calls, one within the other -/
theorem pe_two {f g : Value} {x y : Str} {a : Expr} {ta : TE} {p p2 q pos : Pos} {r1 r2 : List V → Hp → VK → Prop} {id : String} {ty : String} (h1 : CallR X (.builtin id) r1) (h2 : CallR X (.type ty) r2) (g1 : Gl X x) (m1 : X.mg x = none) (b1 : bootBuiltins x = some (.builtin id)) (g2 : Gl X y) (m2 : X.mg y = none) (b2 : bootBuiltins y = some (.type ty))
    (n1 : x ≠ "__name__") (d1 : (x == ("__debug__" : Str)) = false) (n2 : y ≠ "__name__") (d2 : (y == ("__debug__" : Str)) = false) (ha : PE X a ta) (hs : starEach [a] X.env = [(false, eval a X.env)]) :
    PE X (.Call (.Name x p) [.Call (.Name y p2) [a] [] q] [] pos) (fun σ H Q => ta σ H fun v H1 => r2 [v] H1 fun w H2 => r1 [w] H2 Q) := by
  have e2 : PE X (.Call (.Name y p2) [a] [] q) (tCB r2 (tCons ta tNil)) := pe_callTy h2 g2 m2 b2 (pa_cons ha pa_nil hs) n2 d2 hs rfl
  exact pe_callB h1 g1 m1 b1 (pa_cons e2 pa_nil rfl) n1 d1 rfl rfl
end
end Ofw
/-! Ofw S3: sum(xs, start=n) -/
namespace Ofw
open PySem L2
open PySem.Spec PyProof.Rows
section
variable {P : Program} {w : World} {A : Around} {E : Value → Shared → Prop} {s : Shared}
/-- a walk, one place later -/
def lateP (Pv : Nat → Value → Prop) : Nat → Value → Prop
  | 0, _ => False
  | i + 1, v => Pv i v
def lateS (St : Nat → Shared → Prop) : Nat → Shared → Prop
  | 0, _ => False
  | i + 1, s => St i s
theorem late {I : Addr} {fp wr : List Addr} {G : Array GenState → Array GenState → Prop} {n : Nat} {Pv : Nat → Value → Prop} {St : Nat → Shared → Prop} (W : WalksS P w A I fp wr G n Pv St) : WalksS P w A I fp wr G (n + 1) (lateP Pv) (lateS St) where
  sub := W.sub
  grefl := W.grefl
  gtrans := W.gtrans
  frame := fun i s h' tk st hl k => match i, st with
    | i + 1, st => W.frame i s h' tk st hl k
  item := fun i s Q E hi st q => match i, st, q with
    | i + 1, st, q => W.item i s Q E (by omega) st fun v s' p st' m => q v s' p st' m
  done := fun s Q E st q => W.done s Q E st q
  self := fun i s Q E st q => match i, st with
    | i + 1, st => W.self i s Q E st q
def lateV (c : Int) (val : Nat → Int) : Nat → Int
  | 0 => c
  | i + 1 => val i
theorem preSum_late (c : Int) (val : Nat → Int) : ∀ n, preSum (lateV c val) (n + 1) = c + preSum val n
  | 0 => by simp [preSum, lateV]
  | n + 1 => by
    have ih := preSum_late c val n
    have e1 : preSum (lateV c val) (n + 1 + 1) = preSum (lateV c val) (n + 1) + lateV c val (n + 1) := rfl
    have e2 : preSum val (n + 1) = preSum val n + val n := rfl
    rw [e1, ih, e2]
    show c + preSum val n + val n = _
    omega
theorem args_sum_start (a v : Value) : argsOk "sum" ⟨[a], [(Str.ofString "start", v)]⟩ := by unfold argsOk; kernel_rfl
theorem call_kw_tree {id : String} {b : Builtin} {args : List Value} {kw : List (Str × Value)} {Q : Value → Shared → Prop} (k0 : builtinKind id = none) (k1 : plainId id = true) (k2 : entryFor table id = some b) (k3 : argsOk id ⟨args, kw⟩)
    (go : wpAny (model P w) A.in1 (b ⟨args, kw⟩) (fun fn s' => match fn with
      | .done f => (match (Except.ok f : Result) with | .ok (.ret v) => Q v s' | .ok _ => False | .error e => E e s')
      | .again c => c.quiet = true ∧ codeAny (model P w) A c (fun r s' => match r with | .ok (.ret v) => Q v s' | .ok _ => False | .error e => E e s') s') E s) :
    wpAny (model P w) A (call (.builtin id) args kw) Q E s := by
  refine wpAny_call (codeAny_call_builtin k1 k2 ?_)
  simp only [checkBuiltinCall, k0]
  cases sg : Manifest.signature? id with
  | none => exact wpAny_pure go
  | some sig =>
    simp only [argsOk, sg] at k3
    have z : Bind.checkArgs id sig ⟨args, kw⟩ = pure () := k3
    show wpAny _ A.in1 (Bind.checkArgs id sig ⟨args, kw⟩) _ _ s
    rw [z]
    exact wpAny_pure go
theorem sum_start {l : Addr} {its : List Value} {ns : List Int} {c : Int} {tc : Tok} {Q : Value → Shared → Prop} (hA : A.handled = none) (hL : s.heap.IsList l its.toArray) (hI : IntsAre its ns)
    (q : ∀ hp tk t', (∀ b o, s.heap.get? b = some o → hp.get? b = some o) → Q (.int (c + ns.sum) t') { s with heap := hp, toks := tk }) : wpAny (model P w) A (call (.builtin "sum") [.ref l] [(Str.ofString "start", .int c tc)]) Q E s := by
  obtain ⟨xs, e⟩ := hI.allInts.items
  have hn : numsOf (intItems xs).toList = ns := by rw [← e]; exact hI.numsOf
  rw [nums_intItems] at hn
  rw [e] at hL
  refine call_kw_tree F.kind_sum F.plain_sum F.entry_sum (args_sum_start _ _) ?_
  unfold Builtin.«sum»
  simp only [List.length_cons, List.length_nil]
  rw [if_neg (by decide)]
  refine wpAny_bind (wpAny_of_eq (show Builtin.Builtins.bindParams "sum" ["start"] 0 ⟨[], [(Str.ofString "start", .int c tc)]⟩ = pure [some (.int c tc)] from rfl) ?_)
  refine wpAny_bind (iter_intList hL fun s₂ e2 st hfp hlI => ?_)
  subst e2
  have W := (Walks.list (prog := P) (w := w) (A := A.in1) (by simp [hA]) _ l hlI (intItems xs)).toS
  have hSf : ∀ h2 : Heap, h2.objs.size = (s.heap.push { cls := .type "list_iterator", data := .fields #[.ref l, .int 0 0] }).objs.size → h2.objs.size ∉ [s.heap.objs.size, l] := fun h2 e3 hm => by
    have := hfp _ hm
    rw [e3] at this
    exact Nat.lt_irrefl _ this
  have rest : ∀ (tk0 : Nat) (tA : Tok) (st0 : Int), (st0 = 0 ∨ st0 = 2) → wpAny (model P w) A.in1 (do
      for (ty, what, hint) in [("str", "strings", "''"), ("bytes", "bytes", "b''"), ("bytearray", "bytearray", "b''")] do
        if ← isInstance (.int c tA) (.type ty) then
          rule "sum.start-refused"; raiseError "TypeError" s!"sum() can't sum {what} [use {hint}.join(seq) instead]"
      again (.builtin "sum.loop" ⟨[.ref s.heap.objs.size, ← newList [.int c tA], rawInt st0, rawInt 0], []⟩)) (fun fn s' => match fn with
      | .done f => (match (Except.ok f : Result) with | .ok (.ret v) => Q v s' | .ok _ => False | .error e => E e s')
      | .again c => c.quiet = true ∧ codeAny (model P w) A c (fun r s' => match r with | .ok (.ret v) => Q v s' | .ok _ => False | .error e => E e s') s') E
      { s with heap := s.heap.push { cls := .type "list_iterator", data := .fields #[.ref l, .int 0 0] }, toks := tk0 } := by
    intro tk0 tA st0 hst0
    simp only [List.forIn_cons, List.forIn_nil]
    refine wpAny_bind (wpAny_bind (wpAny_bind (wpAny_isInstance (T := "int") (b := false) (typeIs_int _ _ _) PySem.sub_int_str ?_)))
    simp only [Bool.false_eq_true, if_false]
    refine wpAny_pure (wpAny_bind (wpAny_bind (wpAny_isInstance (T := "int") (b := false) (typeIs_int _ _ _) PySem.sub_int_bytes ?_)))
    simp only [Bool.false_eq_true, if_false]
    refine wpAny_pure (wpAny_bind (wpAny_bind (wpAny_isInstance (T := "int") (b := false) (typeIs_int _ _ _) PySem.sub_int_bytearray ?_)))
    simp only [Bool.false_eq_true, if_false]
    refine wpAny_pure (wpAny_pure ?_)
    refine wpAny_bind (wpAny_newObj_type ?_)
    have nf := hSf _ rfl
    have W2 := late W
    have p1 : preSum (lateV c (numAt xs)) 1 = c := by simp [preSum, lateV]
    have hv : ∀ (i : Nat) (v : Value), lateP (fun i v => (intItems xs)[i]? = some v) i v → ∃ t, v = .int (lateV c (numAt xs) i) t := fun i v h => match i, h with
      | i + 1, h => intItems_at h
    refine wpAny_pure ⟨plainId_quiet F.plain_sum_loop _, codeAny_sum_loopAnyS W2 (lateV c (numAt xs)) hv _ nf (intItems xs).size 1 _ tA 0 st0 hst0 (by omega) (by omega) ?_ ?_ fun s' t' hm => ?_⟩
    · exact W.frame 0 { s with heap := s.heap.push { cls := .type "list_iterator", data := .fields #[.ref l, .int 0 0] }, toks := tk0 } _ _ st (Nat.le_refl _) fun b _ o e => Heap.get?_push_of_some _ e
    · rw [p1]; exact Heap.get?_push_size _ rfl
    · rw [preSum_late, preSum_eq, List.take_of_length_le (by simp [intItems]), hn]
      obtain ⟨hp, g2, d', tk', os'⟩ := s'
      have e1 : g2 = s.gens := hm.gens
      have e2 : d' = s.drawn := hm.drawn
      have e3 : os' = s.os := hm.os
      subst e1; subst e2; subst e3
      refine q hp tk' t' fun b o e => ?_
      have lb : b < s.heap.objs.size := Heap.lt_size e
      refine hm.heap b o (fun z => ?_) (Heap.get?_push_of_some _ (Heap.get?_push_of_some _ e))
      rcases List.mem_cons.mp z with z | z
      · rw [z, Heap.size_push] at lb
        exact absurd lb (Nat.not_lt_of_le (Nat.le_succ _))
      · rw [List.mem_singleton] at z
        exact absurd lb (by rw [z]; exact Nat.lt_irrefl _)
  show wpAny _ A.in1 (if (_ : Bool) = true then _ else _) _ _ _
  split
  · refine wpAny_bind (wpAny_rule ?_)
    refine wpAny_bind (wpAny_mkInt ?_)
    refine wpAny_bind (wpAny_pure ?_)
    exact rest _ _ 0 (.inl rfl)
  · refine wpAny_bind (wpAny_pure ?_)
    exact rest _ _ 2 (.inr rfl)
end
section
variable {X : Cx}
/-- sum(xs, start=n) -/
def rSumS (K : PySem.W.Frag) : List V → List V → Hp → VK → Prop := fun vs zs H Q => ∃ (a : Addr) (ns : List Int) (c : Int), vs = [V.ref a] ∧ zs = [.int c] ∧ SqL K H a (ns.map V.int) ∧ Q (.int (c + ns.sum)) H
theorem cr_sumS (hc : X.calm = true) : CallRK X (.builtin "sum") [Str.ofString "start"] (rSumS X.K) := by
  intro pins s σ H vs zs us ws Q I r rz ⟨a, ns, c, ex, ez, hs, q⟩
  subst ex
  subst ez
  obtain ⟨its, rv, hl, _⟩ := I.list hs
  rw [Vals.ref1 r]
  obtain ⟨w1, rfl, t, rfl⟩ := vals1 rz
  exact sum_start (I.ok.hd hc) hl.isList rv.ints fun hp tk t' hk => ⟨.int _, H, I.kept hk, ⟨_, rfl⟩, q⟩
end
end Ofw
/-! Ofw S4: sets of texts -/
namespace Ofw
open PySem L2
open PySem.Spec PyProof.Rows
theorem isT {P : Program} {w : World} (k : Str) (u : Tok) : (PySem.strKind P w).is k (.str k u) = true := by
  show Value.isStrOf k (.str k u) = true
  simp [Value.isStrOf]
/-- a member's text -/
def tkey (e : Int × Value) : Str := match e.2 with | .str k _ => k | _ => Str.empty
def TMem (w : World) (e : Int × Value) : Prop := ∃ k tk, e.2 = Value.str k tk ∧ e.1 = hashStr w k
/-- a set of texts: its members, their number -/
structure Ts (w : World) (es : Array (Int × Value)) (t : SetTable) (S : Str → Bool) (n : Nat) : Prop where
  mem : ∀ e ∈ es.toList, TMem w e
  nd : (es.toList.map tkey).Nodup
  iff : ∀ k, S k = true ↔ k ∈ es.toList.map tkey
  small : es.size < scanBound
  fit : t.fits es.size = true
  num : es.size = n
  ris : Ris t.place.toList
  led : w.params.followText "set-order" = true ∨ t.led = true
def SetT (w : World) (h : Heap) (a : Addr) (S : Str → Bool) (n : Nat) : Prop := ∃ o es ep t, h.get? a = some o ∧ o.ExactSet ∧ o.data = .set es ep t ∧ Ts w es t S n
section
variable {P : Program} {w : World} {h h' : Heap} {a : Addr} {S : Str → Bool} {n : Nat}
theorem SetT.at (R : SetT w h a S n) (k : ∀ o, h.get? a = some o → h'.get? a = some o) : SetT w h' a S n := by
  obtain ⟨o, es, ep, t, ho, r⟩ := R
  exact ⟨o, es, ep, t, k o ho, r⟩
theorem SetT.congr {S' : Str → Bool} (R : SetT w h a S n) (e : ∀ k, S' k = S k) : SetT w h a S' n := by
  have q : S' = S := funext e
  rw [q]; exact R
theorem tmem_el {l : List (Int × Value)} (g : ∀ e ∈ l, TMem w e) : ElemsOf (PySem.strKind P w) l := fun e he => by
  obtain ⟨k, tk, h1, h2⟩ := g e he
  exact ⟨⟨k, by rw [h1]; exact isT k tk, h2⟩, by rw [h1] <;> rfl⟩
theorem tmem_is {e : Int × Value} (g : TMem w e) (k : Str) : (PySem.strKind P w).is k e.2 = true ↔ tkey e = k := by
  obtain ⟨k0, tk, h1, _⟩ := g
  unfold tkey
  rw [h1]
  constructor
  · intro h; exact (PySem.strKind P w).inj _ _ _ (isT (P := P) (w := w) k0 tk) h
  · intro h
    show (PySem.strKind P w).is k (.str k0 tk) = true
    have h : k0 = k := h
    rw [← h]; exact isT k0 tk
theorem tmem_mem {l : List (Int × Value)} (g : ∀ e ∈ l, TMem w e) (k : Str) : k ∈ l.map tkey ↔ ∃ e ∈ l, (PySem.strKind P w).is k e.2 = true := by
  rw [List.mem_map]
  exact ⟨fun ⟨e, he, q⟩ => ⟨e, he, (tmem_is (g e he) k).2 q⟩, fun ⟨e, he, q⟩ => ⟨e, he, (tmem_is (g e he) k).1 q⟩⟩
theorem Ts.perm {es es' : Array (Int × Value)} {t t' : SetTable} (T : Ts w es t S n) (p : es'.toList.Perm es.toList) (hf : t'.fits es'.size = true) (hr : Ris t'.place.toList) (hl : t'.led = t.led) : Ts w es' t' S n := by
  have hsz : es'.size = es.size := by rw [← Array.length_toList, p.length_eq, Array.length_toList]
  exact ⟨fun e he => T.mem e (p.mem_iff.mp he), (p.map tkey).nodup_iff.mpr T.nd, fun k => (T.iff k).trans (p.map tkey).mem_iff.symm, by rw [hsz]; exact T.small, hf, by rw [hsz]; exact T.num, hr, T.led.imp id fun z => by rw [hl]; exact z⟩
end
section
variable {P : Program} {w : World} {A : Around} {E : Value → Shared → Prop} {s : Shared} {a : Addr} {S : Str → Bool} {n : Nat}
theorem setT_tail {g : Bool → Sem Unit} (hg : ∀ (b : Bool) (s₁ : Shared) (Q' : Unit → Shared → Prop), Q' () s₁ → wpAny (model P w) A (g b) Q' E s₁)
    {o : Obj} {es : Array (Int × Value)} {ep : Nat} {t : SetTable} (ho : s.heap.get? a = some o) (hex : o.ExactSet) (hd : o.data = .set es ep t)
    {es1 : Array (Int × Value)} {t2 : SetTable} {S' : Str → Bool} {m : Nat} (T : Ts w es1 t2 S' m) {wasDummy : Bool} {R : Option Bool → Shared → Prop}
    (hR : ∀ h', Heap.SameBut a s.heap h' → SetT w h' a S' m → R (some true) { s with heap := h' }) :
    wpAny (model P w) A (do
        storeSet a es1 t2
        if (!wasDummy && t2.tooFull) = true then do
            g (relayAll t2 es1 (SetTable.grown es1.size)).2.2
            storeSet a (relayAll t2 es1 (SetTable.grown es1.size)).1 (relayAll t2 es1 (SetTable.grown es1.size)).2.1
            pure (some true)
          else pure (some true)) R E s := by
  refine wpAny_bind (wpAny_storeSet_of ho hd ?_ (fits_of_scanBound T.small))
  have ho1 := store_at (es' := es1) (t' := t2) ho hd
  have sb1 := Heap.SameBut.update s.heap a (Obj.putSet es1 t2)
  split
  · have T2 := T.perm (relayAll_perm t2 es1 (SetTable.grown es1.size)) (relayAll_fits t2 es1 (SetTable.grown es1.size)) (relayAll_ris t2 es1 (SetTable.grown es1.size)) (relayAll_led t2 es1 (SetTable.grown es1.size))
    generalize relayAll t2 es1 (SetTable.grown es1.size) = Z at T2 ⊢
    refine wpAny_bind (hg _ _ _ ?_)
    refine wpAny_bind (wpAny_storeSet_of ho1 rfl ?_ (fits_of_scanBound T2.small))
    exact wpAny_pure (hR _ (sb1.trans (Heap.SameBut.update _ a _)) ⟨_, _, _, _, store_at (es' := Z.1) (t' := Z.2.1) ho1 rfl, hex, rfl, T2⟩)
  · exact wpAny_pure (hR _ sb1 ⟨_, es1, _, t2, ho1, hex, rfl, T⟩)
/-- a text is put into the set -/
theorem setT_add {k : Str} {tk : Tok} {Q : Bool → Shared → Prop} (R : SetT w s.heap a S n) (room : n + 1 < scanBound)
    (hQ : ∀ h', Heap.SameBut a s.heap h' → SetT w h' a (fun j => S j || decide (j = k)) (if S k = true then n else n + 1) → Q (!S k) { s with heap := h' }) :
    wpAny (model P w) A (setAddHashed a (.str k tk) (hashStr w k)) Q E s := by
  obtain ⟨o, es, ep, t, ho, hex, hd, T⟩ := R
  have hkey : (PySem.strKind P w).is k (.str k tk) = true := isT k tk
  have hel : ElemsOf (PySem.strKind P w) es.toList := tmem_el T.mem
  unfold setAddHashed setAddHashedIn
  refine wpAny_holding (wpAny_bind (wpAny_setState_of ho hd T.fit ?_))
  dsimp only
  rw [byScan_of rfl T.small hel]
  simp only [↓reduceIte]
  unfold setAddByScan
  refine wpAny_bind (wpAny_bind (wpAny_rule (wpAny_bind (wpAny_setScan_of (knd := PySem.strKind P w) (k := k) hkey ho hd T.fit hel ?_))))
  cases hfi : List.findIdx? (fun e => (PySem.strKind P w).is k e.2) es.toList with
  | some j =>
    obtain ⟨hj, pj, _⟩ := List.findIdx?_eq_some_iff_getElem.mp hfi
    have hSk : S k = true := (T.iff k).2 ((tmem_mem (P := P) T.mem k).2 ⟨es.toList[j], List.getElem_mem hj, pj⟩)
    dsimp only
    refine wpAny_pure (wpAny_pure ?_)
    have hi : ∀ i, (S i || decide (i = k)) = true ↔ i ∈ es.toList.map tkey := fun i => by
      rw [Bool.or_eq_true, decide_eq_true_eq, ← T.iff i]
      exact ⟨fun z => z.elim id (fun e => e ▸ hSk), .inl⟩
    have q := hQ s.heap (Heap.SameBut.refl a s.heap) ⟨o, es, ep, t, ho, hex, hd, T.mem, T.nd, hi, T.small, T.fit, by rw [if_pos hSk]; exact T.num, T.ris, T.led⟩
    rw [hSk] at q
    exact q
  | none =>
    dsimp only
    have hnk : k ∉ es.toList.map tkey := fun z => by
      obtain ⟨e, he, q⟩ := (tmem_mem (P := P) T.mem k).1 z
      have c := List.findIdx?_eq_none_iff.mp hfi e he
      rw [q] at c
      cases c
    have hSk : S k = false := by
      cases q : S k with
      | false => rfl
      | true => exact absurd ((T.iff k).1 q) hnk
    have hgw : ∀ (b : Bool) {s₁ : Shared} {Q' : Unit → Shared → Prop}, Q' () s₁ → wpAny (model P w) A (match b with | true => rule "set.scan.the-table-gave-way" | false => pure ()) Q' E s₁ :=
      fun b s₁ Q' q => by cases b <;> first | exact wpAny_pure q | exact wpAny_rule q
    have pm := layNew_perm t es (hashStr w k) (.str k tk)
    have hf1 := layNew_fits t es (hashStr w k) (.str k tk)
    have hr1 := layNew_ris t es (hashStr w k) (.str k tk) T.ris
    have hl1 := layNew_led t es (hashStr w k) (.str k tk)
    generalize layNew t es (hashStr w k) (.str k tk) = Z at pm hf1 hr1 hl1 ⊢
    obtain ⟨es1, t1, wasDummy, gave⟩ := Z
    dsimp only at pm hf1 hr1 hl1 ⊢
    rw [Array.toList_push] at pm
    have pc : es1.toList.Perm ((hashStr w k, Value.str k tk) :: es.toList) := pm.trans (List.perm_append_singleton _ _)
    have pk : (es1.toList.map tkey).Perm (k :: es.toList.map tkey) := pc.map tkey
    have hsz : es1.size = n + 1 := by rw [← Array.length_toList, pc.length_eq, List.length_cons, Array.length_toList, T.num]
    have mk : ∀ t2 : SetTable, t2.fits es1.size = true → Ris t2.place.toList → t2.led = t.led → Ts w es1 t2 (fun j => S j || decide (j = k)) (n + 1) := fun t2 a1 a2 a3 =>
      ⟨fun e he => by
        rcases List.mem_cons.mp (pc.mem_iff.mp he) with z | z
        · rw [z]; exact ⟨k, tk, rfl, rfl⟩
        · exact T.mem e z, pk.nodup_iff.mpr (List.nodup_cons.mpr ⟨hnk, T.nd⟩), fun i => by
        rw [Bool.or_eq_true, decide_eq_true_eq, T.iff i, pk.mem_iff, List.mem_cons]
        exact Or.comm, by rw [hsz]; exact room, a1, hsz, a2, T.led.imp id fun z => by rw [a3]; exact z⟩
    have fin : ∀ h', Heap.SameBut a s.heap h' → SetT w h' a (fun j => S j || decide (j = k)) (n + 1) → Q true { s with heap := h' } := fun h' sb r => by
      have q := hQ h' sb
      rw [hSk] at q
      exact q r
    refine wpAny_bind (hgw _ ?_)
    split
    · refine wpAny_bind ?_
      rw [hashByValue_scannable 8 (x := Value.str k tk) rfl]
      refine wpAny_pure ?_
      refine setT_tail ?_ ho hex hd (mk _ ?_ ?_ ?_) ?_
      · intro b s₁ Q' q; cases b <;> first | exact wpAny_pure q | exact wpAny_rule q
      · first | (split <;> first | exact hf1 | exact SetTable.fits_plain_off hf1) | exact hf1 | exact SetTable.fits_plain_off hf1
      · first | (split <;> exact hr1) | exact hr1
      · first | (split <;> exact hl1) | exact hl1
      · intro h' sb r; dsimp only; exact wpAny_pure (fin h' sb r)
    · refine wpAny_bind (wpAny_pure ?_)
      simp only [↓reduceIte]
      refine setT_tail ?_ ho hex hd (mk _ hf1 hr1 hl1) ?_
      · intro b s₁ Q' q; cases b <;> first | exact wpAny_pure q | exact wpAny_rule q
      · intro h' sb r; dsimp only; exact wpAny_pure (fin h' sb r)
theorem setT_new_at {h : Heap} {ns : List Str} (ho : h.get? a = some (newSet w)) : SetT w h a (fun j => decide (j ∈ ns.take 0)) 0 :=
  ⟨_, #[], 0, _, ho, ⟨rfl, rfl, rfl⟩, rfl, (fun e he => by simp at he), (by simp), (fun k => by simp), (by decide), (by rfl), rfl, List.Pairwise.nil, by
    show _ ∨ (!w.params.followText "set-order") = true
    cases w.params.followText "set-order"
    · exact .inr rfl
    · exact .inl rfl⟩
/-- texts walked, put into a set one by one -/
theorem setT_walk {I : Addr} {fp wr : List Addr} {G : Array GenState → Array GenState → Prop} {n : Nat} {Pv : Nat → Value → Prop} {St : Nat → Shared → Prop} {R : Result → Shared → Prop}
    (W : WalksS P w A.in1 I fp wr G n Pv St) (D : Addr) (hf : D ∉ fp) (ks : List Str) (hn : n = ks.length) (hb : ks.length + 1 < scanBound) (hval : ∀ i v, Pv i v → ∃ k t, ks[i]? = some k ∧ v = .str k t) :
    ∀ (m i : Nat) (s : Shared), n - i = m → i ≤ n → St i s → (∃ c, c ≤ i ∧ SetT w s.heap D (fun j => decide (j ∈ ks.take i)) c) →
      (∀ s' c, Moved (D :: wr) G s s' → c ≤ n → SetT w s'.heap D (fun j => decide (j ∈ ks)) c → R (.ok (.ret .none)) s') →
      codeAny (model P w) A (.builtin "set.update.loop" ⟨[.ref D, .ref I], []⟩) R s := by
  have hw : D ∉ wr := fun h => hf (W.sub _ h)
  have sub : ∀ b ∈ wr, b ∈ D :: wr := fun b hb => List.mem_cons_of_mem _ hb
  intro m
  induction m with
  | zero =>
    intro i s hm hi hst ⟨c, hc, hS⟩ hR
    obtain rfl : i = n := by omega
    refine codeAny_builtin F.entry_set_update_loop ?_
    rw [Around.under_plainId F.plain_set_update_loop _]
    show wpAny _ A.in1 (pyNext (.ref I) >>= _) _ _ s
    refine wpAny_bind (W.done s _ _ hst fun s' hm => ?_)
    show wpAny _ A.in1 (ret Value.none) _ _ s'
    rw [List.take_of_length_le (by omega)] at hS
    exact wpAny_pure (hR s' c (hm.mono sub) hc (hS.at fun o e => hm.heap D o hw e))
  | succ m ih =>
    intro i s hm hi hst ⟨c, hc, hS⟩ hR
    have lt : i < n := by omega
    refine codeAny_builtin F.entry_set_update_loop ?_
    rw [Around.under_plainId F.plain_set_update_loop _]
    show wpAny _ A.in1 (pyNext (.ref I) >>= _) _ _ s
    refine wpAny_bind (W.item i s _ _ lt hst fun v s' hP hst' hm => ?_)
    obtain ⟨z, t, hz, rfl⟩ := hval i v hP
    show wpAny _ A.in1 (holding [Value.str z t] (setAdd D (.str z t)) >>= _) _ _ s'
    refine wpAny_bind (wpAny_holding ?_)
    unfold setAdd
    refine wpAny_holding (wpAny_bind ((PySem.strKind P w).pyHash (k := z) (isT _ _) ?_))
    refine setT_add (s := { s' with toks := s'.toks + 1 }) (hS.at fun o e => hm.heap D o hw e) (by omega) fun h' sb hS2 => ?_
    have hS3 : SetT w h' D (fun j => decide (j ∈ ks.take (i + 1))) (if decide (z ∈ ks.take i) = true then c else c + 1) := hS2.congr fun j => by
      rw [List.take_add_one, hz]
      simp [List.mem_append]
    have hc3 : (if decide (z ∈ ks.take i) = true then c else c + 1) ≤ i + 1 := by
      split <;> omega
    refine wpAny_pure ⟨plainId_quiet F.plain_set_update_loop _, ih (i + 1) _ (by omega) lt (W.frame _ s' _ _ hst' (Nat.le_succ _) fun b hb o e => ?_) ⟨_, hc3, hS3⟩ fun s'' c2 hm'' hc'' hS'' => ?_⟩
    · rw [sb.2 b (fun h : b = D => hf (by rw [← h]; exact hb))]; exact e
    · refine hR s'' c2 (Moved.trans W.gtrans ((hm.mono sub).then_heap (Nat.le_succ _) fun b o hb e => ?_) hm'') hc'' hS''
      rw [sb.2 b (fun h : b = D => hb (by rw [h]; exact List.mem_cons_self))]; exact e
theorem strs_at {vs : List Value} {ks : List Str} (h : StrsAre vs ks) : ∀ (i : Nat) (v : Value), vs[i]? = some v → ∃ k t, ks[i]? = some k ∧ v = .str k t := fun i v e => by
  obtain ⟨y, t, a, b⟩ := PyProof.Rows.StrsAre.item h i v e
  exact ⟨y, t, b, a⟩
theorem setT_of_list {l : Addr} {its : Array Value} (ns : List Str) {Q : Value → Shared → Prop} (hA : A.handled = none) (hL : s.heap.IsList l its) (hN : StrsAre its.toList ns) (hB : ns.length + 1 < scanBound)
    (q : ∀ (hp : Heap) (tk c : Nat), SetT w hp s.heap.objs.size (fun j => decide (j ∈ ns)) c → c ≤ ns.length → (∀ b o, s.heap.get? b = some o → hp.get? b = some o) → Q (.ref s.heap.objs.size) { s with heap := hp, toks := tk }) :
    wpAny (model P w) A (call (.type "set") [.ref l]) Q E s := by
  have sz : its.size = ns.length := by
    have e := StrsAre.length hN
    rwa [Array.length_toList] at e
  obtain ⟨c0, tl0, m0⟩ := F.called_set.mro
  have m1 := F.called_set.made
  have m2 := F.called_set.sub
  refine wpAny_call (codeAny_of_tree ?_)
  show wpAny _ _ (callAny (.type "set") _) _ _ _
  refine wpAny_pure ⟨Code.quiet_builtin _ (by decide +kernel), codeAny_builtin F.entry_type_call ?_⟩
  rw [Around.under_plain (weight_type_call_type "set" [.ref l] []) rfl]
  have m3 := F.called_set.notType
  have m4 := F.called_set.canCreate
  have m5 := F.typeCall_set_1 (.ref l)
  repeat (any_goals (first | assumption | wp_step))
  refine codeAny_mono (code_set_led1 (.ref l) (E := E) (Q₁ := fun ob s₁ => ob = .ref s.heap.objs.size ∧ s₁ = { s with heap := s.heap.push (newSet w) }) ⟨rfl, rfl⟩) fun r s₁ hr => ?_
  cases r with
  | error e => exact hr
  | ok fl =>
    cases fl with
    | ret ob =>
      obtain ⟨rfl, rfl⟩ := hr
      have gS : (s.heap.push (newSet w)).get? s.heap.objs.size = some (newSet w) := Heap.get?_push_size _ rfl
      have gT : Shared.TypeIs { s with heap := s.heap.push (newSet w) } (.ref s.heap.objs.size) "set" := ⟨_, gS, rfl⟩
      have b1 := F.called_set.init.lookup
      have b2 := F.called_set.init.bind (.ref s.heap.objs.size)
      repeat (any_goals (first | assumption | wp_step))
      refine codeAny_mono (codeAny_call_builtin (R := wants (fun r s₂ => r = .none ∧ ∃ hp tk c, s₂ = { s with heap := hp, toks := tk } ∧ SetT w hp s.heap.objs.size (fun j => decide (j ∈ ns)) c ∧ c ≤ ns.length ∧
        (∀ b o, s.heap.get? b = some o → hp.get? b = some o)) E) F.called_set.init.plain F.entry_set_init (check_set_init_1 gT ?_)) fun r₂ s₂ hr₂ => ?_
      · obtain ⟨ol, g0, c1, nl, d1⟩ := hL
        obtain ⟨ocls, odict, odata, oslots⟩ := ol
        simp only at c1 d1
        subst c1; subst d1
        have g1 : (s.heap.push (newSet w)).get? l = some { cls := .type "list", dict := odict, data := .seq its nl, slots := oslots } := Heap.get?_push_of_some _ g0
        have n1 := F.sub_list_set
        have n2 := F.sub_list_frozenset
        have n3 : (Value.type "list" == Value.type "dict") = false := by decide
        have L1 : (s.heap.push (newSet w)).IsList l its := ⟨_, g1, rfl, nl, rfl⟩
        unfold Builtin.«set.__init__» noKeywords Builtin.Frozenset.updateFrom
        generalize hPI : pyIter = PI
        wp_walk
        subst hPI
        refine wpAny_pyIter_list L1 ?_
        refine wpAny_bind (wpAny_runValue ?_)
        have lt0 : l < s.heap.objs.size := Heap.lt_size g0
        have hA3 : A.in1.in1.in1.handled = none := by simp [hA]
        have ne1 : l ≠ (s.heap.push (newSet w)).objs.size := by
          rw [Heap.size_push]; exact Nat.ne_of_lt (Nat.lt_succ_of_lt lt0)
        have ni : s.heap.objs.size ∉ [(s.heap.push (newSet w)).objs.size, l] := by
          rw [Heap.size_push]
          intro z
          rcases List.mem_cons.mp z with z | z
          · exact absurd z (Nat.ne_of_lt (Nat.lt_succ_self _))
          · rw [List.mem_singleton] at z; exact absurd lt0 (by rw [← z]; exact Nat.lt_irrefl _)
        have vals : ∀ (i : Nat) (v : Value), its[i]? = some v → ∃ k t, ns[i]? = some k ∧ v = .str k t := fun i v hv => by
          have hi : i < ns.length := by rw [← sz]; exact (Array.getElem?_eq_some_iff.mp hv).1
          exact strs_at hN i v (by rw [Array.getElem?_toList]; exact hv)
        refine setT_walk ((Walks.list hA3 _ l ne1 its).toS) s.heap.objs.size ni ns sz hB vals (its.size - 0) 0 _ (by omega) (Nat.zero_le _) ⟨⟨_, Heap.get?_push_size _ rfl, rfl, rfl⟩, (L1.push _)⟩ ?s0 ?sR
        case s0 =>
          exact ⟨0, Nat.le_refl 0, setT_new_at (Heap.get?_push_of_some _ gS)⟩
        case sR =>
          intro s' c' hm hc' hS'
          obtain ⟨hp, g2, d', tk', os'⟩ := s'
          have e1 : g2 = s.gens := hm.gens
          have e2 : d' = s.drawn := hm.drawn
          have e3 : os' = s.os := hm.os
          subst e1; subst e2; subst e3
          show wpAny _ _ _ _ _ _
          refine wpAny_pure ?_
          show wpAny _ _ (ret Value.none) _ _ _
          rw [sz] at hc'
          refine wpAny_pure ⟨rfl, hp, tk', c', rfl, hS', hc', fun b o e => ?_⟩
          have lb : b < s.heap.objs.size := Heap.lt_size e
          refine hm.heap b o (fun z => ?_) (Heap.get?_push_of_some _ (Heap.get?_push_of_some _ e))
          rcases List.mem_cons.mp z with z | z
          · exact absurd lb (by rw [z]; exact Nat.lt_irrefl _)
          · rw [List.mem_singleton, Heap.size_push] at z
            exact absurd lb (by rw [z]; exact Nat.not_lt_of_le (Nat.le_succ _))
      · cases r₂ with
        | error e => exact hr₂
        | ok fl₂ =>
          cases fl₂ with
          | ret r =>
            obtain ⟨rfl, hp, tk, c', rfl, hS', hc', hk'⟩ := hr₂
            repeat (any_goals (first | assumption | wp_step))
            exact q _ _ _ hS' hc' hk'
          | _ => exact hr₂.elim
    | _ => exact hr.elim
theorem strs_all : ∀ vs : List Value, (∀ v ∈ vs, ∃ k tk, v = Value.str k tk) → StrsAre vs (vs.map strOf)
  | [], _ => .nil
  | v :: vs, h => by
    obtain ⟨k, tk, rfl⟩ := h v List.mem_cons_self
    exact .cons k tk (strs_all vs fun v hv => h v (List.mem_cons_of_mem _ hv))
theorem sortT_new {a : Addr} {vs : List Value} {ks : List Str} {Q : PySem.Fin → Shared → Prop} (g : s.heap.get? a = some (seqObj "list" vs.toArray 0)) (hz : vs.length ≤ sizeLine) (hI : StrsAre vs ks)
    (q : ∀ (out : Array Value) (ms : List Str), StrsAre out.toList ms → ms.Perm ks → sortedS ms = true → Q (.done (.ret .none)) { s with heap := sortedHeap s.heap a vs out }) :
    wpAny (model P w) A (Builtin.«list.sort» ⟨[.ref a], []⟩) Q E s := by
  refine list_sort_treeKAny strKind_oneLt g hI.keysOf (fun v₁ v₂ rest e => keyKind_strs (by rw [← e]; exact hI)) hz fun st' hp hs => ?_
  obtain ⟨ms, h1, h2, h3⟩ := sorted_out_str hI hp hs
  exact q _ ms h1 h2 h3
theorem sorted_setT {a : Addr} {S : Str → Bool} {n : Nat} {Q : Value → Shared → Prop} (R : SetT w s.heap a S n) (hA : A.handled = none)
    (q : ∀ s' p (out : List Value) (c : Nat) (ks : List Str), (∀ b o, s.heap.get? b = some o → s'.heap.get? b = some o) → s'.gens = s.gens → s'.os = s.os → s.heap.objs.size ≤ p →
      s'.heap.get? p = some (seqObj "list" out.toArray c) → StrsAre out ks → sortedS ks = true → ks.Nodup → (∀ k, k ∈ ks ↔ S k = true) → ks.length < scanBound → Q (.ref p) s') :
    wpAny (model P w) A (call (.builtin "sorted") [.ref a]) Q E s := by
  obtain ⟨o, es, ep, t, ho, hx, hd, T⟩ := R
  refine Calls.call_function_entry kind_sorted plain_sorted entry_sorted (args_sorted1 _) ?_
  unfold Builtin.«sorted»
  refine wpAny_bind (m := checkCount "sorted" 1 1 _) (wpAny_pure ?_)
  refine wpAny_bind (collect_set (A := A.in1) hA ⟨o, ho, hx.1, hd⟩ T.fit T.small T.ris T.led fun s1 vs k1 hz g1 o1 pm => ?_)
  have ln : vs.length = es.size := by rw [pm.length_eq, List.length_map, Array.length_toList]
  have hI : StrsAre vs (vs.map strOf) := strs_all vs fun v hv => by
    obtain ⟨e, he, z⟩ := List.mem_map.mp (pm.mem_iff.mp hv)
    obtain ⟨k, tk, h1, _⟩ := T.mem e he
    exact ⟨k, tk, by rw [← z]; exact h1⟩
  have pk : (vs.map strOf).Perm (es.toList.map tkey) := by
    have z := pm.map strOf
    rw [List.map_map] at z
    refine z.trans (List.Perm.of_eq (List.map_congr_left fun e he => ?_))
    obtain ⟨k, tk, h1, _⟩ := T.mem e he
    show strOf e.2 = tkey e
    unfold tkey
    rw [h1] <;> rfl
  have hsz : vs.length ≤ sizeLine := by
    rw [ln]; exact fits_of_scanBound T.small
  refine wpAny_bind (wpAny_newList ?_ hsz)
  have gL : (s1.heap.push (seqObj "list" vs.toArray 0)).get? s1.heap.objs.size = some (seqObj "list" vs.toArray 0) := Heap.get?_push_size _ rfl
  refine wpAny_bind (wpAny_holding (wpAny_call_entry slot_list_sort ⟨_, gL, rfl⟩ entry_list_sort (sortT_new gL hsz hI fun out ms a1 a2 a3 => ⟨_, rfl, ?_⟩) (args_list_sort _)))
  obtain ⟨c, hc⟩ := sortedHeap_at (vs := vs) (out := out) gL
  have pn : ms.Perm (es.toList.map tkey) := a2.trans pk
  refine wpAny_pure ⟨_, rfl, q _ s1.heap.objs.size out.toList c ms (fun b u e => ?_) g1 o1 hz hc a1 a3 (pn.nodup_iff.mpr T.nd) (fun k => by rw [pn.mem_iff, ← T.iff k]) ?_⟩
  · have z := k1 b u e
    have lt := Heap.lt_size z
    show (sortedHeap (s1.heap.push (seqObj "list" vs.toArray 0)) s1.heap.objs.size vs out).get? b = some u
    rw [sortedHeap_old (Nat.ne_of_lt lt) (by rw [size_push']; exact Nat.lt_succ_of_lt lt)]
    exact Heap.get?_push_of_some _ z
  · rw [pn.length_eq, List.length_map, Array.length_toList]; exact T.small
end
section
variable {X : Cx}
/-- a set of texts as an object of ours -/
def SetTO (w : World) (a : Addr) (S : Str → Bool) (n : Nat) : HO := .ext fun h => SetT w h a S n
theorem setTO_new {w : World} {P : Program} {H : Hp} {h : Heap} {a : Addr} {S : Str → Bool} {n : Nat} (R : SetT w h a S n) : ObjOk P w H h a (SetTO w a S n) := by
  have ⟨o, _, _, _, ho, _⟩ := R
  exact ⟨R, ⟨o, ho⟩, fun h1 h2 p k => SetT.at p k⟩
theorem setTO_get {pins : List (Addr × Obj)} {σ : L2.St} {H : Hp} {s : Shared} {a : Addr} {S : Str → Bool} {n : Nat} (I : Inv X pins σ H s) (ha : H a = some (SetTO X.w a S n)) : SetT X.w s.heap a S n := (I.hok a _ ha).1
def rSetT (K : PySem.W.Frag) (w : World) : List V → Hp → VK → Prop := fun xs H Q => ∃ (a : Addr) (ns : List Str), xs = [.ref a] ∧ SqL K H a (ns.map V.str) ∧ ns.length + 1 < scanBound ∧
  ∀ p c, H p = none → c ≤ ns.length → Q (.ref p) (upd H p (SetTO w p (fun j => decide (j ∈ ns)) c))
theorem cr_setT (hc : X.calm = true) : CallR X (.type "set") (rSetT X.K X.w) := by
  intro pins s σ H xs us Q I r ⟨a, ns, ex, hs, hb, q⟩
  subst ex
  rw [Vals.ref1 r]
  have fin : ∀ (hp : Heap) (tk c : Nat), SetT X.w hp s.heap.objs.size (fun j => decide (j ∈ ns)) c → c ≤ ns.length → (∀ b o, s.heap.get? b = some o → hp.get? b = some o) → EP X pins σ Q (.ref s.heap.objs.size) { s with heap := hp, toks := tk } := by
    intro hp tk c hS hc' hk
    have hn : H s.heap.objs.size = none := I.hok.fresh (Nat.le_refl _)
    exact ⟨.ref s.heap.objs.size, _, I.laid (t' := tk) hk (Nat.le_refl _) (setTO_new hS), rfl, q _ c hn hc'⟩
  obtain ⟨its, rv, hl, hz⟩ := I.list hs
  exact setT_of_list ns (I.ok.hd hc) hl.isList (by simpa using rv.strs) hb fin
def rSortSetT (w : World) : List V → Hp → VK → Prop := fun vs H Q => ∃ (a : Addr) (S : Str → Bool) (n : Nat), vs = [V.ref a] ∧ H a = some (SetTO w a S n) ∧
  ∀ (ns : List Str) (p : Addr), sortedS ns = true → ns.Nodup → (∀ k : Str, k ∈ ns ↔ S k = true) → H p = none → Q (.ref p) (upd H p (.lst (ns.map V.str)))
theorem cr_sortSetT (hc : X.calm = true) : CallR X (.builtin "sorted") (rSortSetT X.w) := by
  intro pins s σ H vs us Q I r ⟨a, S, n, ex, ha, q⟩
  subst ex
  have R := setTO_get I ha
  rw [Vals.ref1 r]
  refine sorted_setT R (I.ok.hd hc) fun s' p out c ns k g o hp hg hi hs hnd hm hl => ?_
  have hlen : (ns.map V.str).length ≤ sizeLine := by rw [List.length_map]; exact fits_of_scanBound hl
  have hn : H p = none := I.hok.fresh hp
  have J : Inv X pins σ (upd H p (.lst (ns.map V.str))) { s with heap := s'.heap, gens := s'.gens, drawn := s'.drawn, toks := s'.toks } :=
    I.call (ch := []) (Un.laid k hp hn) (I.hok.laid k hp ⟨hlen, out, c, vals_of_strs hi, hg⟩) (by rw [g]; exact I.bare) (fun _ z => nomatch z)
  have e : s' = { s with heap := s'.heap, gens := s'.gens, drawn := s'.drawn, toks := s'.toks } := by
    cases s'
    cases s
    cases o
    rfl
  rw [e]
  exact ⟨.ref p, _, J, rfl, q ns p hs hnd hm hn⟩
end
end Ofw
/-! Ofw S5: list.extend(tuple) -/
namespace Ofw
open PySem L2 PySem.AutoSeq1
set_option maxRecDepth 8000 in
theorem list_extend_tup (l : Addr) (items : Array Value) (n : Nat) (b : Addr) (o : Obj) (items2 : Array Value) (n2 : Nat) (hc : o.cls = .type "tuple") (hd : o.data = .seq items2 n2) (hs0 : ¬(!items.isEmpty && Builtin.List.listTooLong (items.size + items2.size)) = true) (hs1 : items.size ≤ sizeLine) (hs2 : items.size + items2.size ≤ sizeLine + 1) :
    Meets (Builtin.«list.extend» ⟨[.ref l, .ref b], []⟩) (fun _ R s => s.heap.get? l = some { cls := .type "list", dict := none, data := .seq items n, slots := #[] } ∧ s.heap.get? b = some o ∧ R (.ok (.ret Value.none)) { s with heap := s.heap.update l (Obj.mapSeq fun x => x ++ items2), toks := s.toks }) :=
  .of_wp fun prog w A R s h => by
    obtain ⟨oc, od, odt, osl⟩ := o
    simp only at hc hd
    subst hc hd
    obtain ⟨hp, g, d, tk, os⟩ := s; obtain ⟨hl, hb, h⟩ := h; have f1 := idx_int; have f2 := sub_tuple_tuple; have f3 := sub_list_list; have f4 := sub_tuple_list; have f5 := sub_list_tuple;
    have hz' : (items ++ items2).size ≤ sizeLine + 1 := by rw [Array.size_append]; exact hs2
    wp_walk using (wpAny_updateSeq hl rfl (hz := hs1) (_hz' := hz')), wpAny_loadPart' hl, wpAny_loadPart' hb; exact ⟨_, rfl, h⟩
def rExtendT (K : PySem.W.Frag) : V → List V → Hp → VK → Prop := fun x vs H Q => ∃ l b xs zs, x = .ref l ∧ vs = [.ref b] ∧ H l = some (.lst xs) ∧ SqT K H b zs ∧ xs.length + zs.length ≤ sizeLine ∧ Q .non (upd H l (.lst (xs ++ zs)))
section
variable {X : Cx}
theorem mt_extendT : MtM X "list.extend" (rExtendT X.K) := by
  intro pins s σ H x vs v us Q I rx rv h
  obtain ⟨l, b, xs, zs, rfl, rfl, hH, hB, hz, q⟩ := h
  cases rx
  obtain ⟨u, rfl, ru⟩ := rv.one
  cases ru
  obtain ⟨z, its, n, r, hl, e⟩ := I.lstM hH
  obtain ⟨its2, r2, ⟨o, e2, hc, n2, hd⟩, z2⟩ := I.tuple hB
  have hl2 := r2.length
  have hsz : its.toArray.size + its2.toArray.size ≤ sizeLine := by rw [List.size_toArray, List.size_toArray]; omega
  have hlong : ¬ (!its.toArray.isEmpty && Builtin.List.listTooLong (its.toArray.size + its2.toArray.size)) = true := by
    rw [notLongL hsz, Bool.and_false]
    exact Bool.false_ne_true
  refine call_meets F.slot_list_extend ⟨_, e, rfl⟩ F.entry_list_extend (F.args_list_extend_2 _ _)
    (list_extend_tup l its.toArray n b o its2.toArray n2 hc hd hlong (by rw [List.size_toArray]; omega) (by omega)) ⟨e, e2, ?_⟩
  refine ⟨.non, _, I.lset (its' := its ++ its2) hH e (by simp) (r.append r2) ?_, rfl, q⟩
  rw [List.length_append]
  omega
theorem mt_extend2 : MtM X "list.extend" (fun x vs H Q => rExtend x vs H Q ∨ rExtendT X.K x vs H Q) := by
  intro pins s σ H x vs v us Q I rx rv h
  rcases h with h | h
  · exact mt_extend pins s σ H x vs v us Q I rx rv h
  · exact mt_extendT pins s σ H x vs v us Q I rx rv h
end
end Ofw
/-! Ofw 6: each operation's rule, further -/
namespace Ofw
open PySem L2
section
variable {X : Cx}
theorem r_neg : UnR X (unaryOp .USub) (fun x => rTag X.K .neg [x]) := by
  intro pins s σ H x v Q I rx ⟨Y, ds, res, hY, ar, h, q⟩
  change prNeg ds = some res at h
  unfold prNeg at h
  split at h <;> try cases h
  obtain ⟨_, e, ha⟩ := ar.one
  cases e
  obtain rfl := ha.int
  exact un_neg pins s σ H _ v Q I rx ⟨_, rfl, q _ H (Same.refl H) (.int _)⟩
theorem r_tup {K : PySem.W.Frag} {vs : List V} {H : Hp} {Q : VK} (h : rTagV K .tup vs H Q) : vs.length ≤ sizeLine ∧ ∀ p, H p = none → Q (.ref p) (upd H p (.tup vs)) := by
  obtain ⟨Y, ds, res, hY, r, h, q⟩ := h
  simp only [primD, prTup] at h
  split at h
  · rename_i hl
    cases h
    exact ⟨by rw [r.len]; exact hl, fun p hp => q _ _ (same_new hp) (new_tup hY hp r)⟩
  · cases h
theorem r_lst {K : PySem.W.Frag} {vs : List V} {H : Hp} {Q : VK} (h : rTagV K .lst vs H Q) : vs.length ≤ sizeLine ∧ ∀ p, H p = none → Q (.ref p) (upd H p (.lst vs)) := by
  obtain ⟨Y, ds, res, hY, r, h, q⟩ := h
  simp only [primD, prLst] at h
  split at h
  · rename_i hl
    cases h
    exact ⟨by rw [r.len]; exact hl, fun p hp => q _ _ (same_new hp) (new_lst hp r)⟩
  · cases h
theorem ix_dict (hu : X.A.units + 1 < cLine) : IxR X (fun x y H Q => ∃ (a : Addr) (v : V), x = .ref a ∧ DGet H a y (some v) ∧ Q v H) := by
  intro value slice pins s σ H x y v u Q I rx ry ⟨a, z, ex, g, q⟩ hs
  subst ex
  obtain rfl : v = Value.ref a := rx
  exact PyProof.Rows.tail_any (dict_typeIs I g) PySem.F.slot_dict_getitem.lookup (d_getItem hu I g ry fun w' s3 I3 rw' => ⟨z, H, I3, rw', q⟩) hs
theorem r_idx (hu : X.A.units + 1 < cLine) : IxR X (fun x y => rTag X.K .idx [x, y]) := by
  intro value slice pins s σ H x y v u Q I rx ry ⟨Y, ds, res, hY, ar, h, q⟩ hs
  change prIdx ds = some res at h
  unfold prIdx at h
  split at h
  rotate_right
  · cases h
  · obtain ⟨x', y', e, ha, hb⟩ := ar.two
    cases e
    obtain rfl := hb.int
    obtain ⟨p, vs, rfl, e, r⟩ := ha.lst
    rename_i ds i
    cases hi : ixD ds i with
    | none => rw [hi] at h; cases h
    | some d =>
      rw [hi] at h
      simp only [Option.map_some, Option.some.injEq] at h
      subst h
      obtain ⟨w, hw, rw⟩ := ixN_len r hi
      exact ix_list value slice pins s σ H _ _ v u Q I rx ry ⟨p, vs, _, w, rfl, rfl, SqL.of e, hw, q _ H (Same.refl H) rw⟩ hs
  · obtain ⟨x', y', e, ha, hb⟩ := ar.two
    cases e
    obtain rfl := hb.int
    obtain ⟨p, vs, rfl, e, r, rp⟩ := ha.tup
    rename_i ds i
    cases hi : ixD ds i with
    | none => rw [hi] at h; cases h
    | some d =>
      rw [hi] at h
      simp only [Option.map_some, Option.some.injEq] at h
      subst h
      obtain ⟨w, hw, rw⟩ := ixN_len r hi
      exact ix_tup value slice pins s σ H _ _ v u Q I rx ry ⟨p, vs, _, w, rfl, rfl, e, hw, q _ H (Same.refl H) rw⟩ hs
  · obtain ⟨x', y', e, ha, hb⟩ := ar.two
    cases e
    obtain rfl := hb.int
    obtain ⟨p, rfl, sq⟩ := ha.scr
    rename_i ns i
    cases hi : ixD ns i with
    | none => rw [hi] at h; cases h
    | some n =>
      rw [hi] at h
      simp only [Option.map_some, Option.some.injEq] at h
      subst h
      refine ix_list value slice pins s σ H _ _ v u Q I rx ry ⟨p, _, _, .int n, rfl, rfl, sq, ?_, q _ H (Same.refl H) (.int n)⟩ hs
      unfold ixD atI at hi
      unfold atI
      rw [List.length_map]
      cases hj : ixN ns.length i with
      | none => rw [hj] at hi; cases hi
      | some j =>
        rw [hj] at hi
        have hi' : ns[j]? = some n := hi
        show (ns.map V.int)[j]? = some (.int n)
        rw [List.getElem?_map, hi']; rfl
  · obtain ⟨x', y', e, ha, hb⟩ := ar.two
    cases e
    obtain rfl := hb.int
    obtain rfl := ha.str
    rename_i z i
    split at h
    · rename_i hz
      cases hi : ixD z.cps.toList i with
      | none => rw [hi] at h; cases h
      | some c =>
        rw [hi] at h
        simp only [Option.map_some, Option.some.injEq] at h
        subst h
        exact ix_str value slice pins s σ H _ _ v u Q I rx ry ⟨z, i, c, rfl, rfl, hz, hi, q _ H (Same.refl H) (.str _)⟩ hs
    · cases h
  · obtain ⟨x', y', e, ha, hb⟩ := ar.two
    cases e
    obtain rfl := hb.int
    obtain ⟨p, kvs, rfl, e, r⟩ := ha.dic
    rename_i kds i
    cases hi : getK kds (Sum.inl i : Key) with
    | none => rw [hi] at h; cases h
    | some d =>
      rw [hi] at h
      simp only [Option.map_some, Option.some.injEq] at h
      subst h
      obtain ⟨w, hw, rw'⟩ := (getK_ok _ r).1 d hi
      have g := dgetR (k := (Sum.inl i : Key)) e
      rw [hw] at g
      exact ix_dict hu value slice pins s σ H _ _ v u Q I rx ry ⟨p, w, rfl, g, q _ H (Same.refl H) rw'⟩ hs
  · obtain ⟨x', y', e, ha, hb⟩ := ar.two
    cases e
    obtain rfl := hb.str
    obtain ⟨p, kvs, rfl, e, r⟩ := ha.dic
    rename_i kds i
    cases hi : getK kds (Sum.inr i : Key) with
    | none => rw [hi] at h; cases h
    | some d =>
      rw [hi] at h
      simp only [Option.map_some, Option.some.injEq] at h
      subst h
      obtain ⟨w, hw, rw'⟩ := (getK_ok _ r).1 d hi
      have g := dgetR (k := (Sum.inr i : Key)) e
      rw [hw] at g
      exact ix_dict hu value slice pins s σ H _ _ v u Q I rx ry ⟨p, w, rfl, g, q _ H (Same.refl H) rw'⟩ hs
def rSlcD (K : PySem.W.Frag) : V → Option Int → Option Int → Hp → VK → Prop := fun x lo hi H Q => ∃ (Y : Ys) (d : D) (res : Rs), (∀ a, Y a → H a ≠ none) ∧ AR K H Y x d ∧ slcD d lo hi = some res ∧ ∀ v H', Same H H' → PRes K H H' Y v res → Q v H'
theorem cut_ints (ns : List Int) (lo hi : Option Int) : cutV (ns.map V.int) lo hi = (cutD ns lo hi).map V.int := by
  unfold cutV cutD
  rw [List.length_map, List.map_take, List.map_drop]
theorem r_slc : SlR X (rSlcD X.K) := by
  intro pins s σ H x v vl vu lo hi sl Q I rx hs pl pu ⟨Y, d, res, hY, ha, h, q⟩
  unfold slcD at h
  split at h
  · obtain ⟨p, vs, rfl, e, r⟩ := ha.lst
    cases h
    exact sl_list pins s σ H _ v vl vu lo hi sl Q I rx hs pl pu ⟨p, vs, rfl, SqL.of e, fun p' hp => q _ _ (same_new hp) (new_lst hp (cut_reps lo hi r))⟩
  · rename_i ns
    obtain ⟨p, rfl, sq⟩ := ha.scr
    cases h
    refine sl_list pins s σ H _ v vl vu lo hi sl Q I rx hs pl pu ⟨p, _, rfl, sq, fun p' hp => q _ _ (same_new hp) ?_⟩
    rw [cut_ints]
    exact new_lst hp Reps.ofInts
  · obtain ⟨p, vs, rfl, e, r, rp⟩ := ha.tup
    rename_i ds
    cases h
    refine sl_tupA pins s σ H _ v vl vu lo hi sl Q I rx hs pl pu ⟨p, vs, rfl, e, fun hw => q _ H (Same.refl H) ?_, fun _ p' hp => q _ _ (same_new hp) (new_tup hY hp (cut_reps lo hi r))⟩
    have ec : cutD ds lo hi = ds := by
      rw [r.len] at hw
      unfold cutD
      rw [hw.1, hw.2]
      simp
    show Rep X.K H Y (.ref p) (.tup (cutD ds lo hi))
    rw [ec]; exact rp
  · rename_i z
    obtain rfl := ha.str
    split at h
    · cases h
      exact sl_str pins s σ H _ v vl vu lo hi sl Q I rx hs pl pu ⟨z, rfl, ‹_›, q _ H (Same.refl H) (.str _)⟩
    · cases h
  · cases h
/-- an int among the parts of a slice -/
theorem part_of {G : Gx} {rf : Nat → List Bool} {C : CallT} {e : Ex} {Z : Ys} {σ : L2.St} {H : Hp} {env env' : En} {r : Rs} {i : Int} {Q : Option Int → Hp → Prop} (g : Good G Z σ H env) (h : evalE rf C e env = some (r, env')) (hr : r.d = .int i)
    (q : ∀ H', Post G Z σ H env σ H' env' → Q (some i) H') : tPart (tE G rf C e) σ H Q :=
  ⟨Z, env, r, env', g, h, fun v H' p ro => by
    have rp := ro.rep g
    rw [hr] at rp
    cases rp
    exact ⟨i, rfl, q H' p⟩⟩
/-! ### builtin functions -/
theorem call_lenR : CallR X (.builtin "len") (fun xs H Q => ∃ a kvs, xs = [V.ref a] ∧ Rd H a (.dK kvs) ∧ Q (.int kvs.length) H) := by
  intro pins s σ H xs us Q I r h
  obtain ⟨a, kvs, rfl, ha, q⟩ := h
  obtain ⟨u, rfl, ru⟩ := vals1 r
  cases ru
  exact d_len I ha fun t s' I' => ⟨.int kvs.length, H, I', ⟨t, rfl⟩, q⟩
theorem r_len : CallR X (.builtin "len") (rTag X.K .len) := by
  intro pins s σ H xs us Q I r ⟨Y, ds, res, hY, ar, h, q⟩
  change prLen ds = some res at h
  unfold prLen at h
  split at h
  · obtain ⟨x, rfl, ha⟩ := ar.one
    obtain ⟨p, vs, rfl, e, rr⟩ := ha.lst
    cases h
    refine call_len_seq pins s σ H _ us Q I r ⟨p, vs, rfl, .inl (SqL.of e), ?_⟩
    rw [rr.len]; exact q _ H (Same.refl H) (.int _)
  · obtain ⟨x, rfl, ha⟩ := ar.one
    obtain ⟨p, vs, rfl, e, rr, rp⟩ := ha.tup
    cases h
    refine call_len_seq pins s σ H _ us Q I r ⟨p, vs, rfl, .inr e, ?_⟩
    rw [rr.len]; exact q _ H (Same.refl H) (.int _)
  · obtain ⟨x, rfl, ha⟩ := ar.one
    obtain ⟨p, rfl, sq⟩ := ha.scr
    cases h
    refine call_len_seq pins s σ H _ us Q I r ⟨p, _, rfl, .inl sq, ?_⟩
    rw [List.length_map]; exact q _ H (Same.refl H) (.int _)
  · obtain ⟨x, rfl, ha⟩ := ar.one
    obtain ⟨p, vs, rfl, e, rr⟩ := ha.dic
    cases h
    refine call_lenR pins s σ H _ us Q I r ⟨p, vs, rfl, e, ?_⟩
    rw [rr.len]; exact q _ H (Same.refl H) (.int _)
  · obtain ⟨x, rfl, ha⟩ := ar.one
    obtain rfl := ha.str
    split at h
    · cases h
      exact call_len_str pins s σ H _ us Q I r ⟨_, rfl, ‹_›, q _ H (Same.refl H) (.int _)⟩
    · cases h
  · cases h
theorem r_int1 : CallR X (.type "int") (rTag X.K .int1) := by
  intro pins s σ H xs us Q I r ⟨Y, ds, res, hY, ar, h, q⟩
  change prInt1 ds = some res at h
  unfold prInt1 at h
  split at h
  · obtain ⟨x, rfl, ha⟩ := ar.one
    obtain rfl := ha.int
    cases h
    exact call_int1 pins s σ H _ us Q I r (.inl ⟨_, rfl, q _ H (Same.refl H) (.int _)⟩)
  · obtain ⟨x, rfl, ha⟩ := ar.one
    obtain rfl := ha.bl
    cases h
    exact call_int1 pins s σ H _ us Q I r (.inr ⟨_, rfl, q _ H (Same.refl H) (.int _)⟩)
  · cases h
theorem r_bool1 : CallR X (.type "bool") (rTag X.K .bool1) := by
  intro pins s σ H xs us Q I r ⟨Y, ds, res, hY, ar, h, q⟩
  change prBool1 ds = some res at h
  unfold prBool1 at h
  split at h
  · obtain ⟨x, rfl, ha⟩ := ar.one
    obtain rfl := ha.int
    cases h
    exact call_bool1 pins s σ H _ us Q I r (.inl ⟨_, rfl, q _ H (Same.refl H) (.bl _)⟩)
  · obtain ⟨x, rfl, ha⟩ := ar.one
    obtain rfl := ha.bl
    cases h
    exact call_bool1 pins s σ H _ us Q I r (.inr ⟨_, rfl, q _ H (Same.refl H) (.bl _)⟩)
  · cases h
theorem r_str1 : CallR X (.type "str") (rTag X.K .str1) := by
  intro pins s σ H xs us Q I r ⟨Y, ds, res, hY, ar, h, q⟩
  change prStr1 ds = some res at h
  unfold prStr1 at h
  split at h
  · obtain ⟨x, rfl, ha⟩ := ar.one
    obtain rfl := ha.int
    split at h
    · cases h
      exact call_str_int pins s σ H _ us Q I r ⟨_, rfl, ‹_›, q _ H (Same.refl H) (.str _)⟩
    · cases h
  · cases h
theorem r_abs1 : CallR X (.builtin "abs") (rTag X.K .abs1) := by
  intro pins s σ H xs us Q I r ⟨Y, ds, res, hY, ar, h, q⟩
  change prAbs1 ds = some res at h
  unfold prAbs1 at h
  split at h
  · obtain ⟨x, rfl, ha⟩ := ar.one
    obtain rfl := ha.int
    cases h
    exact call_abs pins s σ H _ us Q I r ⟨_, rfl, q _ H (Same.refl H) (.int _)⟩
  · cases h
theorem r_min2 (hc : X.calm = true) : CallR X (.builtin "min") (rTag X.K .min2) := by
  intro pins s σ H xs us Q I r ⟨Y, ds, res, hY, ar, h, q⟩
  change prMin2 ds = some res at h
  unfold prMin2 at h
  split at h
  · obtain ⟨x, y, rfl, ha, hb⟩ := ar.two
    obtain rfl := ha.int
    obtain rfl := hb.int
    cases h
    exact call_min2 hc pins s σ H _ us Q I r ⟨_, _, rfl, q _ H (Same.refl H) (.int _)⟩
  · cases h
theorem r_max2 (hc : X.calm = true) : CallR X (.builtin "max") (rTag X.K .max2) := by
  intro pins s σ H xs us Q I r ⟨Y, ds, res, hY, ar, h, q⟩
  change prMax2 ds = some res at h
  unfold prMax2 at h
  split at h
  · obtain ⟨x, y, rfl, ha, hb⟩ := ar.two
    obtain rfl := ha.int
    obtain rfl := hb.int
    cases h
    exact call_max2 hc pins s σ H _ us Q I r ⟨_, _, rfl, q _ H (Same.refl H) (.int _)⟩
  · cases h
theorem r_sum1 (hc : X.calm = true) : CallR X (.builtin "sum") (rTag X.K .sum1) := by
  intro pins s σ H xs us Q I r ⟨Y, ds, res, hY, ar, h, q⟩
  change prSum1 ds = some res at h
  unfold prSum1 at h
  split at h
  · obtain ⟨x, rfl, ha⟩ := ar.one
    obtain ⟨p, vs, rfl, e, rr⟩ := ha.lst
    rename_i ds
    cases hn : intsD ds with
    | none => rw [hn] at h; cases h
    | some ns =>
      rw [hn] at h
      cases h
      rw [intsD_ok hn] at rr
      obtain rfl := rr.ints
      exact cr_sum hc pins s σ H _ us Q I r ⟨p, ns, rfl, SqL.of e, q _ H (Same.refl H) (.int _)⟩
  · cases h
theorem r_sum2 {x y : V} {H : Hp} {Q : VK} (h : rTag X.K .sum2 [x, y] H Q) : rSumS X.K [x] [y] H Q := by
  obtain ⟨Y, ds, res, hY, ar, h, q⟩ := h
  change prSum2 ds = some res at h
  unfold prSum2 at h
  split at h
  · obtain ⟨x', y', e, ha, hb⟩ := ar.two
    cases e
    obtain rfl := hb.int
    obtain ⟨p, vs, rfl, e, rr⟩ := ha.lst
    rename_i ds _
    cases hn : intsD ds with
    | none => rw [hn] at h; cases h
    | some ns =>
      rw [hn] at h
      cases h
      rw [intsD_ok hn] at rr
      obtain rfl := rr.ints
      exact ⟨p, ns, _, rfl, rfl, SqL.of e, q _ H (Same.refl H) (.int _)⟩
  · cases h
theorem r_all1 (hc : X.calm = true) : CallR X (.builtin "all") (rTag X.K .all1) := by
  intro pins s σ H xs us Q I r ⟨Y, ds, res, hY, ar, h, q⟩
  change prAll1 ds = some res at h
  unfold prAll1 at h
  split at h
  · obtain ⟨x, rfl, ha⟩ := ar.one
    obtain ⟨p, vs, rfl, e, rr⟩ := ha.lst
    rename_i ds
    cases hn : blsD ds with
    | none => rw [hn] at h; cases h
    | some ns =>
      rw [hn] at h
      cases h
      rw [blsD_ok hn] at rr
      obtain rfl := rr.bls
      exact cr_all hc pins s σ H _ us Q I r ⟨p, ns, rfl, SqL.of e, q _ H (Same.refl H) (.bl _)⟩
  · cases h
theorem r_any1 (hc : X.calm = true) : CallR X (.builtin "any") (rTag X.K .any1) := by
  intro pins s σ H xs us Q I r ⟨Y, ds, res, hY, ar, h, q⟩
  change prAny1 ds = some res at h
  unfold prAny1 at h
  split at h
  · obtain ⟨x, rfl, ha⟩ := ar.one
    obtain ⟨p, vs, rfl, e, rr⟩ := ha.lst
    rename_i ds
    cases hn : blsD ds with
    | none => rw [hn] at h; cases h
    | some ns =>
      rw [hn] at h
      cases h
      rw [blsD_ok hn] at rr
      obtain rfl := rr.bls
      exact cr_any hc pins s σ H _ us Q I r ⟨p, ns, rfl, SqL.of e, q _ H (Same.refl H) (.bl _)⟩
  · cases h
theorem keysI_ok : ∀ {kds : List (Key × D)} {ns : List Int}, keysI kds = some ns → kds.map (·.1) = ns.map Sum.inl
  | [], _, h => by simp only [keysI, Option.some.injEq] at h; subst h; rfl
  | (.inl i, _) :: r, ns, h => by
    simp only [keysI] at h
    cases e : keysI r with
    | none => rw [e] at h; cases h
    | some ms =>
      rw [e] at h
      simp only [Option.map_some, Option.some.injEq] at h
      subst h
      rw [List.map_cons, List.map_cons, keysI_ok e]
  | (.inr _, _) :: _, _, h => by cases h
theorem RepK.keys {K : PySem.W.Frag} {H : Hp} {Y : Ys} : ∀ {vs : List (Key × V)} {ds : List (Key × D)}, RepK K H Y vs ds → vs.map (·.1) = ds.map (·.1)
  | _, _, .nil => rfl
  | _, _, .cons _ r => by rw [List.map_cons, List.map_cons, RepK.keys r]
theorem cps_inj {x y : Str} (h : x.cps.toList = y.cps.toList) : x = y := by
  obtain ⟨a⟩ := x
  obtain ⟨b⟩ := y
  have : a = b := by apply Array.ext'; exact h
  rw [this]
theorem insS_perm (x : Str) : ∀ l : List Str, (insS x l).Perm (x :: l)
  | [] => .refl _
  | y :: r => by
    unfold insS
    split
    · exact .refl _
    · exact ((insS_perm x r).cons y).trans (List.Perm.swap x y r)
theorem sortS_perm : ∀ l : List Str, (sortS l).Perm l
  | [] => .refl _
  | x :: r => (insS_perm x _).trans ((sortS_perm r).cons x)
theorem leS_total (x y : Str) (h : leS x y = false) : leS y x = true := by
  unfold leS at *
  simp only [decide_eq_false_iff_not, decide_eq_true_eq, Classical.not_not] at *
  exact List.lt_asymm h
theorem leS_trans {x y z : Str} (h1 : leS x y = true) (h2 : leS y z = true) : leS x z = true := by
  unfold leS at *
  simp only [decide_eq_true_eq] at *
  exact List.le_trans (α := Nat) h1 h2
theorem insS_sorted (x : Str) : ∀ l : List Str, l.Pairwise (fun a b => leS a b = true) → (insS x l).Pairwise (fun a b => leS a b = true)
  | [], _ => List.pairwise_singleton _ _
  | y :: r, h => by
    unfold insS
    rw [List.pairwise_cons] at h
    split
    · rename_i e
      rw [List.pairwise_cons]
      refine ⟨fun z hz => ?_, List.pairwise_cons.mpr h⟩
      rcases List.mem_cons.mp hz with rfl | hz
      · exact e
      · exact leS_trans e (h.1 z hz)
    · rename_i e
      rw [List.pairwise_cons]
      refine ⟨fun z hz => ?_, insS_sorted x r h.2⟩
      rcases List.mem_cons.mp ((insS_perm x r).mem_iff.mp hz) with rfl | hz
      · exact leS_total _ _ (by simpa using e)
      · exact h.1 z hz
theorem sortS_sorted : ∀ l : List Str, (sortS l).Pairwise (fun a b => leS a b = true)
  | [] => .nil
  | x :: r => insS_sorted x _ (sortS_sorted r)
theorem leS_anti {x y : Str} (h1 : leS x y = true) (h2 : leS y x = true) : x = y := by
  unfold leS at h1 h2
  simp only [decide_eq_true_eq] at h1 h2
  exact cps_inj (List.le_antisymm (α := Nat) h1 h2)
theorem sortedS_unique {a b : List Str} (p : a.Perm b) (ha : a.Pairwise (fun a b => leS a b = true)) (hb : b.Pairwise (fun a b => leS a b = true)) : a = b :=
  List.Perm.eq_of_pairwise (le := fun a b => leS a b = true) (fun x y _ _ h1 h2 => leS_anti h1 h2) ha hb p
theorem sortedS_le {l : List Str} (h : PyProof.Rows.sortedS l = true) : l.Pairwise (fun a b => leS a b = true) := by
  have ris : ∀ (l : List Str) (p : Str), PyProof.Rows.risingS p l = true → (p :: l).Pairwise (fun a b => leS a b = true) := fun l => by
    induction l with
    | nil => intro p _; exact List.pairwise_singleton _ _
    | cons x r ih =>
      intro p h
      have h : (!PySem.Spec.ltCps x.cps.toList p.cps.toList && PyProof.Rows.risingS x r) = true := h
      rw [Bool.and_eq_true] at h
      have h2 := ih x h.2
      have e : leS p x = true := by
        unfold leS
        have := h.1
        rw [PyProof.Rows.ltCps_eq] at this
        simpa using this
      rw [List.pairwise_cons]
      refine ⟨fun z hz => ?_, h2⟩
      rcases List.mem_cons.mp hz with rfl | hz
      · exact e
      · exact leS_trans e ((List.pairwise_cons.mp h2).1 z hz)
  cases l with
  | nil => exact .nil
  | cons x r => exact ris r x h
theorem r_sorted1 (hc : X.calm = true) : CallR X (.builtin "sorted") (rTag X.K .sorted1) := by
  intro pins s σ H xs us Q I r ⟨Y, ds, res, hY, ar, h, q⟩
  simp only [primD] at h
  split at h
  · rename_i h1
    cases h
    have h := h1
    unfold prSorted1 at h
    split at h
    · obtain ⟨x, rfl, ha⟩ := ar.one
      obtain ⟨p, vs, rfl, e, rr⟩ := ha.lst
      rename_i ds
      cases hn : intsD ds with
      | none => rw [hn] at h; cases h
      | some ns =>
        rw [hn] at h
        cases h
        rw [intsD_ok hn] at rr
        obtain rfl := rr.ints
        refine cr_sortedI pins s σ H _ us Q I r ⟨p, ns, rfl, SqL.of e, fun ns' p' hp hs hn => ?_⟩
        have ee : ns' = sortI ns := sorted_unique (hp.trans (sortI_perm ns).symm) hs (sortI_sorted ns)
        rw [ee]
        exact q _ _ (same_new hn) (new_lst hn Reps.ofInts)
    · obtain ⟨x, rfl, ha⟩ := ar.one
      obtain ⟨p, vs, rfl, e, rr⟩ := ha.dic
      rename_i kds
      cases hn : keysI kds with
      | none => rw [hn] at h; cases h
      | some ns =>
        rw [hn] at h
        cases h
        refine cr_sortD hc pins s σ H _ us Q I r ⟨p, vs, ns, rfl, e, rr.keys.trans (keysI_ok hn), fun ns' p' hp hs hn => ?_⟩
        have ee : ns' = sortI ns := sorted_unique (hp.trans (sortI_perm ns).symm) hs (sortI_sorted ns)
        rw [ee]
        exact q _ _ (same_new hn) (new_lst hn Reps.ofInts)
    · cases h
  · unfold prSortedS at h
    split at h
    · obtain ⟨x, rfl, ha⟩ := ar.one
      obtain ⟨p, vs, rfl, e, rr⟩ := ha.lst
      rename_i ds _
      cases hn : strsD ds with
      | none => rw [hn] at h; cases h
      | some ys =>
        rw [hn] at h
        simp only [Option.bind_some] at h
        split at h
        · cases h
          rw [strsD_ok hn] at rr
          obtain rfl := rr.strs
          refine cr_sortedS pins s σ H _ us Q I r ⟨p, ys, rfl, SqL.of e, ‹_›, fun ys' p' hp hs hn => ?_⟩
          have ee : ys' = sortS ys := sortedS_unique (hp.trans (sortS_perm ys).symm) (sortedS_le hs) (sortS_sorted ys)
          rw [ee]
          exact q _ _ (same_new hn) (new_lst hn Reps.ofStrs)
        · cases h
    · cases h
theorem callR_or {f : Value} {r1 r2 : List V → Hp → VK → Prop} (a : CallR X f r1) (b : CallR X f r2) : CallR X f (fun xs H Q => r1 xs H Q ∨ r2 xs H Q) := fun pins s σ H xs us Q I r h => h.elim (a pins s σ H xs us Q I r) (b pins s σ H xs us Q I r)
theorem dedS_mem {x : Str} : ∀ {l : List Str}, x ∈ dedS l ↔ x ∈ l
  | [] => Iff.rfl
  | y :: r => by
    unfold dedS
    split
    · rename_i h
      have h : y ∈ r := by simpa using h
      rw [dedS_mem (l := r), List.mem_cons]
      exact ⟨.inr, fun z => z.elim (fun e => e ▸ h) id⟩
    · rw [List.mem_cons, List.mem_cons, dedS_mem (l := r)]
theorem dedS_nodup : ∀ l : List Str, (dedS l).Nodup
  | [] => .nil
  | y :: r => by
    unfold dedS
    split
    · exact dedS_nodup r
    · rename_i h
      have h : y ∉ r := by simpa using h
      exact List.nodup_cons.mpr ⟨fun z => h (dedS_mem.mp z), dedS_nodup r⟩
theorem sort_setS {ms ns : List Str} (hs : PyProof.Rows.sortedS ms = true) (nd : ms.Nodup) (h : ∀ k, k ∈ ms ↔ k ∈ ns) : ms = sortS (dedS ns) := by
  have p : ms.Perm (dedS ns) := (List.perm_ext_iff_of_nodup nd (dedS_nodup ns)).mpr fun k => by rw [h k, dedS_mem]
  exact sortedS_unique (p.trans (sortS_perm _).symm) (sortedS_le hs) (sortS_sorted _)
/-- sorted(set(e)), texts -/
theorem r_sortedSetS {x : V} {H : Hp} {Q : VK} {Y : Ys} {ds : List D} {res : Rs} (ar : ARs X.K H Y [x] ds) (h : prSortedSetS ds = some res) (q : ∀ v H', Same H H' → PRes X.K H H' Y v res → Q v H') : rSetT X.K X.w [x] H fun w H2 => rSortSetT X.w [w] H2 Q := by
  unfold prSortedSetS at h
  split at h
  · obtain ⟨x', e, ha⟩ := ar.one
    cases e
    obtain ⟨p, vs, rfl, e, rr⟩ := ha.lst
    rename_i ds
    cases hn : strsD ds with
    | none => rw [hn] at h; cases h
    | some ns =>
      rw [hn] at h
      simp only [Option.bind_some] at h
      split at h
      · cases h
        rw [strsD_ok hn] at rr
        obtain rfl := rr.strs
        refine ⟨p, ns, rfl, SqL.of e, ‹_›, fun p c hp hc => ⟨p, _, c, rfl, upd_same, fun ms p2 hm nd he hn => ?_⟩⟩
        have ee := sort_setS hm nd (ns := ns) fun k => by rw [he k]; exact decide_eq_true_iff
        rw [ee]
        have ne : p2 ≠ p := fun e => by rw [e, upd_same] at hn; cases hn
        have hn0 : H p2 = none := by rw [upd_ne ne] at hn; exact hn
        have s1 := same_new (o := SetTO X.w p (fun j => decide (j ∈ ns)) c) hp
        refine q _ _ (fun b u e => same_new hn b u (s1 b u e)) ⟨p2, rfl, hn0, _, upd_same, Reps.ofStrs⟩
      · cases h
  · cases h
/-- sorted(set(e)) -/
theorem r_sortedSetI {x : V} {H : Hp} {Q : VK} {Y : Ys} {ds : List D} {res : Rs} (ar : ARs X.K H Y [x] ds) (h : prSortedSet ds = some res) (q : ∀ v H', Same H H' → PRes X.K H H' Y v res → Q v H') : rSetN X.K X.w [x] H fun w H2 => rSortSetN X.w [w] H2 Q := by
  have fin : ∀ (a : Addr) (ns : List Int), res = .fr (.lst ((sortI (dedI ns)).map D.int)) → (SqL X.K H a (ns.map V.int) ∨ SqT X.K H a (ns.map V.int)) → ns.length + 1 < scanBound → rSetN X.K X.w [.ref a] H fun w H2 => rSortSetN X.w [w] H2 Q := by
    intro a ns hr hs hb
    subst hr
    refine ⟨a, ns, rfl, hs, hb, fun p c hp hc => ⟨p, _, c, rfl, upd_same, fun ms p2 hm he hn => ?_⟩⟩
    have ee := sort_set hm (ns := ns) fun k => by rw [he k]; exact decide_eq_true_iff
    rw [ee]
    have ne : p2 ≠ p := fun e => by rw [e, upd_same] at hn; cases hn
    have hn0 : H p2 = none := by rw [upd_ne ne] at hn; exact hn
    have s1 := same_new (o := SetO X.w p (fun j => decide (j ∈ ns)) c) hp
    refine q _ _ (fun b u e => same_new hn b u (s1 b u e)) ⟨p2, rfl, hn0, _, upd_same, Reps.ofInts⟩
  unfold prSortedSet at h
  split at h
  · obtain ⟨x', e, ha⟩ := ar.one
    cases e
    obtain ⟨p, vs, rfl, e, rr⟩ := ha.lst
    rename_i ds
    cases hn : intsD ds with
    | none => rw [hn] at h; cases h
    | some ns =>
      rw [hn] at h
      simp only [Option.bind_some] at h
      split at h
      · cases h
        rw [intsD_ok hn] at rr
        obtain rfl := rr.ints
        exact fin p ns rfl (.inl (SqL.of e)) ‹_›
      · cases h
  · obtain ⟨x', e, ha⟩ := ar.one
    cases e
    obtain ⟨p, vs, rfl, e, rr, rp⟩ := ha.tup
    rename_i ds
    cases hn : intsD ds with
    | none => rw [hn] at h; cases h
    | some ns =>
      rw [hn] at h
      simp only [Option.bind_some] at h
      split at h
      · cases h
        rw [intsD_ok hn] at rr
        obtain rfl := rr.ints
        exact fin p ns rfl (.inr e) ‹_›
      · cases h
  · cases h
theorem r_sortedSet {x : V} {H : Hp} {Q : VK} (h : rTag X.K .sortedSet [x] H Q) : (rSetN X.K X.w [x] H fun w H2 => rSortSetN X.w [w] H2 Q ∨ rSortSetT X.w [w] H2 Q) ∨ (rSetT X.K X.w [x] H fun w H2 => rSortSetN X.w [w] H2 Q ∨ rSortSetT X.w [w] H2 Q) := by
  obtain ⟨Y, ds, res, hY, ar, h, q⟩ := h
  change (match prSortedSet ds with | some r => some r | none => prSortedSetS ds) = some res at h
  cases h1 : prSortedSet ds with
  | some r =>
    rw [h1] at h
    cases h
    obtain ⟨a, ns, e1, e2, e3, e4⟩ := r_sortedSetI ar h1 q
    exact .inl ⟨a, ns, e1, e2, e3, fun p c a b => .inl (e4 p c a b)⟩
  | none =>
    rw [h1] at h
    obtain ⟨a, ns, e1, e2, e3, e4⟩ := r_sortedSetS ar h q
    exact .inr ⟨a, ns, e1, e2, e3, fun p c a b => .inr (e4 p c a b)⟩
/-- xs.index(x) -/
theorem find_at {α : Type} {p : α → Bool} : ∀ {l : List α} {j : Nat}, l.findIdx? p = some j → (∃ x, l[j]? = some x ∧ p x = true) ∧ ∀ m, m < j → ∀ y, l[m]? = some y → p y = false
  | [], j, h => by simp at h
  | a :: l, j, h => by
    rw [List.findIdx?_cons] at h
    by_cases e : p a = true
    · rw [if_pos e] at h
      cases h
      exact ⟨⟨a, rfl, e⟩, fun m hm => absurd hm (Nat.not_lt_zero m)⟩
    · rw [if_neg e] at h
      obtain ⟨i, hi, rfl⟩ := Option.map_eq_some_iff.mp h
      obtain ⟨⟨x, h1, h2⟩, h3⟩ := find_at hi
      refine ⟨⟨x, by simpa using h1, h2⟩, fun m hm y hy => ?_⟩
      cases m with
      | zero => simp at hy; subst hy; simpa using e
      | succ m => exact h3 m (by omega) y (by simpa using hy)
theorem r_indexL {x y : V} {H : Hp} {Q : VK} {ds : List D} {d : D} {Y : Ys} {res : Rs} (hx : AR X.K H Y x (.lst ds)) (hy : AR X.K H Y y d) (h : (if flatD d && ds.all flatD then (ds.findIdx? fun z => eqv z d).map fun (j : Nat) => Rs.val (.int (j : Int)) else none) = some res)
    (q : ∀ v H', Same H H' → PRes X.K H H' Y v res → Q v H') : (∃ a vs, x = .ref a ∧ SqL X.K H a vs) ∧ rIndex X.K x [y] H Q := by
  split at h
  · rename_i hf
    simp only [Bool.and_eq_true] at hf
    obtain ⟨j, hj, rfl⟩ := Option.map_eq_some_iff.mp h
    obtain ⟨a, vs, rfl, e, r⟩ := hx.lst
    obtain ⟨⟨z, h1, h2⟩, h3⟩ := find_at hj
    obtain ⟨w, hw, rw'⟩ := r.get h1
    have fz : flatD z = true := List.all_eq_true.mp hf.2 z (List.mem_of_getElem? h1)
    refine ⟨⟨a, vs, rfl, SqL.of e⟩, a, vs, y, j, w, rfl, rfl, SqL.of e, flat_ar hy hf.1, flat_reps r hf.2, hw, by rw [eqV_ar (.inl rw') hy fz hf.1]; exact h2, fun m z' hm hz' => ?_, q _ H (Same.refl H) (.int _)⟩
    obtain ⟨d', hd', rp'⟩ := r.get' hz'
    have fz' : flatD d' = true := List.all_eq_true.mp hf.2 d' (List.mem_of_getElem? hd')
    rw [eqV_ar (.inl rp') hy fz' hf.1]
    exact h3 m hm d' hd'
  · cases h
theorem vals_rgD {K : PySem.W.Frag} {H : Hp} {Y : Ys} (a b : Int) : Reps K H Y (rgV a b) (rngD a b) := by
  unfold rgV rngD
  generalize List.range (b - a).toNat = l
  induction l with
  | nil => exact .nil
  | cons x r ih => exact .cons (.int _) ih
theorem rgOk_of {a b : Int} (h : rgOkD a b = true) : RgOk a b := by
  unfold rgOkD at h
  simp only [Bool.and_eq_true, decide_eq_true_eq] at h
  exact ⟨h.1.1.1.1, h.1.1.1.2, h.1.1.2, h.1.2, by omega⟩
theorem pairs_ok {K : PySem.W.Frag} {H : Hp} {Y : Ys} : ∀ {ds : List D} {vs : List V} {kds : List (Key × D)}, Reps K H Y vs ds → pairsD ds = some kds → ∃ (ps : List Addr) (kvs : List (Key × V)), vs = ps.map V.ref ∧ Paired (fun p kv => SqT K H p [kV kv.1, kv.2]) ps kvs ∧ RepK K H Y kvs kds
  | [], _, kds, r, h => by
    cases r
    simp only [pairsD, Option.some.injEq] at h
    subst h
    exact ⟨[], [], rfl, .nil, .nil⟩
  | d :: ds, _, kds, .cons (v := v) (vs := vs) rv rs, h => by
    have key : ∀ (k : Key) (x : D), d = .tup [keyD k, x] → (pairsD ds).map ((k, x) :: ·) = some kds → ∃ (ps : List Addr) (kvs : List (Key × V)), v :: vs = ps.map V.ref ∧ Paired (fun p kv => SqT K H p [kV kv.1, kv.2]) ps kvs ∧ RepK K H Y kvs kds := fun k x e h => by
      obtain ⟨r', h1, rfl⟩ := Option.map_eq_some_iff.mp h
      obtain ⟨ps, kvs, rfl, pp, rk⟩ := pairs_ok rs h1
      subst e
      obtain ⟨a, ws, rfl, sq, rr, _⟩ := AR.tup (.inl rv)
      cases rr with
      | cons r1 r2 => cases r2 with
        | cons r2 r3 =>
          cases r3
          rename_i w1 w2
          have e1 : w1 = kV k := by cases k <;> (simp only [keyD] at r1; cases r1; rfl)
          subst e1
          exact ⟨a :: ps, (k, w2) :: kvs, rfl, .cons sq pp, .cons r2 rk⟩
    unfold pairsD at h
    split at h
    · cases ‹_ :: _ = []›
    · rename_i e
      cases e
      exact key (.inl _) _ rfl h
    · rename_i e
      cases e
      exact key (.inr _) _ rfl h
    · cases h
theorem putK_ok {K : PySem.W.Frag} {H : Hp} {Y : Ys} {v : V} {d : D} (k : Key) (hv : Rep K H Y v d) : ∀ {vs : List (Key × V)} {ds : List (Key × D)}, RepK K H Y vs ds → RepK K H Y (putK vs k v) (putKD ds k d) := by
  have anyEq : ∀ {vs : List (Key × V)} {ds : List (Key × D)}, RepK K H Y vs ds → (vs.any fun kv => decide (kv.1 = k)) = (ds.any fun kv => decide (kv.1 = k)) := fun {vs} => by
    induction vs with
    | nil => intro ds r; cases r; rfl
    | cons x xs ih => intro ds r; cases r with | cons h r => rw [List.any_cons, List.any_cons, ih r]
  have mapEq : ∀ {vs : List (Key × V)} {ds : List (Key × D)}, RepK K H Y vs ds → RepK K H Y (vs.map fun kv => if kv.1 = k then (kv.1, v) else kv) (ds.map fun kv => if kv.1 = k then (kv.1, d) else kv) := fun {vs} => by
    induction vs with
    | nil => intro ds r; cases r; exact .nil
    | cons x xs ih =>
      intro ds r
      cases r with
      | cons h r =>
        rw [List.map_cons, List.map_cons]
        by_cases e : ‹Key› = k
        · simp only [e, if_true]; exact .cons hv (ih r)
        · simp only [e, if_false]; exact .cons h (ih r)
  have appEq : ∀ {vs : List (Key × V)} {ds : List (Key × D)}, RepK K H Y vs ds → RepK K H Y (vs ++ [(k, v)]) (ds ++ [(k, d)]) := fun {vs} => by
    induction vs with
    | nil => intro ds r; cases r; exact .cons hv .nil
    | cons x xs ih => intro ds r; cases r with | cons h r => exact .cons h (ih r)
  intro vs ds r
  unfold putK putKD
  rw [anyEq r]
  split
  · exact mapEq r
  · exact appEq r
theorem mergeK_ok {K : PySem.W.Frag} {H : Hp} {Y : Ys} : ∀ {more : List (Key × V)} {es : List (Key × D)}, RepK K H Y more es → ∀ {vs : List (Key × V)} {ds : List (Key × D)}, RepK K H Y vs ds → RepK K H Y (mergeK vs more) (mergeKD ds es)
  | _, _, .nil, _, _, r => r
  | _, _, .cons h t, _, _, r => mergeK_ok t (putK_ok _ h r)
theorem r_tuple1 : CallR X (.type "tuple") (rTag X.K .tuple1) := by
  intro pins s σ H xs us Q I r ⟨Y, ds, res, hY, ar, h, q⟩
  change prTuple1 ds = some res at h
  unfold prTuple1 at h
  split at h
  · obtain ⟨x, rfl, ha⟩ := ar.one
    obtain ⟨p, vs, rfl, e, rr⟩ := ha.lst
    cases h
    exact call_tuple_of pins s σ H _ us Q I r ⟨p, vs, rfl, .inl ⟨SqL.of e, fun l hl => q _ _ (same_new hl) (new_tup hY hl rr)⟩⟩
  · obtain ⟨x, rfl, ha⟩ := ar.one
    obtain ⟨p, vs, rfl, e, rr, rp⟩ := ha.tup
    cases h
    exact call_tuple_of pins s σ H _ us Q I r ⟨p, vs, rfl, .inr ⟨e, q _ H (Same.refl H) rp⟩⟩
  · cases h
theorem reps_keys {K : PySem.W.Frag} {H : Hp} {Y : Ys} : ∀ {vs : List (Key × V)} {ds : List (Key × D)}, RepK K H Y vs ds → Reps K H Y (vs.map fun kv => kV kv.1) (ds.map fun kd => keyD kd.1)
  | _, _, .nil => .nil
  | (k, _) :: _, _, .cons _ r => .cons (by
      cases k
      · exact .int _
      · exact .str _) (reps_keys r)
theorem r_list1 (hc : X.calm = true) : CallR X (.type "list") (rTag X.K .list1) := by
  intro pins s σ H xs us Q I r ⟨Y, ds, res, hY, ar, h, q⟩
  change prList1 ds = some res at h
  unfold prList1 at h
  split at h
  · obtain ⟨x, rfl, ha⟩ := ar.one
    obtain ⟨p, vs, rfl, e, rr⟩ := ha.lst
    cases h
    exact call_list_of pins s σ H _ us Q I r ⟨p, vs, rfl, .inl (SqL.of e), fun l hl => q _ _ (same_new hl) (new_lst hl rr)⟩
  · obtain ⟨x, rfl, ha⟩ := ar.one
    obtain ⟨p, vs, rfl, e, rr, rp⟩ := ha.tup
    cases h
    exact call_list_of pins s σ H _ us Q I r ⟨p, vs, rfl, .inr e, fun l hl => q _ _ (same_new hl) (new_lst hl rr)⟩
  · obtain ⟨x, rfl, ha⟩ := ar.one
    obtain ⟨p, rfl, sq⟩ := ha.scr
    cases h
    exact call_list_of pins s σ H _ us Q I r ⟨p, _, rfl, .inl sq, fun l hl => q _ _ (same_new hl) (new_lst hl Reps.ofInts)⟩
  · obtain ⟨x, rfl, ha⟩ := ar.one
    obtain ⟨p, vs, rfl, e, rr⟩ := ha.dic
    cases h
    exact call_listD hc pins s σ H _ us Q I r ⟨p, vs, rfl, e, fun l hl => q _ _ (same_new hl) (new_lst hl (reps_keys rr))⟩
  · cases h
theorem r_divmod : CallR X (.builtin "divmod") (rTag X.K .divmod2) := by
  intro pins s σ H xs us Q I r ⟨Y, ds, res, hY, ar, h, q⟩
  change prDivmod ds = some res at h
  unfold prDivmod at h
  split at h
  · obtain ⟨x, y, rfl, ha, hb⟩ := ar.two
    obtain rfl := ha.int
    obtain rfl := hb.int
    split at h
    · cases h
      exact call_divmod pins s σ H _ us Q I r ⟨_, _, rfl, ‹_›, fun p hp => q _ _ (same_new hp) (new_tup hY hp (.cons (.int _) (.cons (.int _) .nil)))⟩
    · cases h
  · cases h
def encK : Key → PyData
  | .inl i => .int i
  | .inr x => .str x
theorem key_reads {h : Heap} {P : Program} {w : World} (k : Key) (key : Value) (hk : (mixKind P w).is k key = true) : Reads h key (encK k) [] := by
  rcases keyIs_shape hk with ⟨i, t, rfl, rfl⟩ | ⟨x, t, rfl, rfl⟩
  · exact .int i t
  · exact .str x t
theorem toPk_cons (k : Key) (d : D) (r : List (Key × D)) : toPk ((k, d) :: r) = (encK k, toP d) :: toPk r := by
  cases k <;> simp [toPk, encK]
mutual
theorem reads_nl {pins : List (Addr × Obj)} {s : Shared} {σ : L2.St} {H : Hp} {Y : Ys} (I : Inv X pins σ H s) : ∀ {v : V} {d : D} (u : Value), Rep X.K H Y v d → noLst d = true → okR d = true → RelV v u → ∃ as, Reads s.heap u (toP d) as ∧ sysModules ∉ as
  | _, _, u, .non, _, _, r => by cases r; exact ⟨[], by simp only [toP]; exact .none, by simp⟩
  | _, _, u, .bl b, _, _, r => by cases r; exact ⟨[], by simp only [toP]; exact .bool b, by simp⟩
  | _, _, u, .int i, _, _, r => by obtain ⟨t, rfl⟩ := r; exact ⟨[], by simp only [toP]; exact .int i t, by simp⟩
  | _, _, u, .str x, _, _, r => by obtain ⟨t, rfl⟩ := r; exact ⟨[], by simp only [toP]; exact .str x t, by simp⟩
  | _, _, u, .tup h n rr, hl, ho, r => by
    cases r
    obtain ⟨its, rv, ⟨o, ho', hc, n, hd⟩, _⟩ := I.tuple (SqT.of (K := X.K) h)
    obtain ⟨as, hr, ns⟩ := readss_nl I its rr (by simpa [noLst] using hl) (by simpa [okR] using ho) rv
    exact ⟨as, by simp only [toP]; exact Reads.tuple ho' hc hd hr, ns⟩
  | _, _, u, .tupW h rr, hl, ho, r => by
    cases r
    obtain ⟨its, rv, ⟨o, ho', hc, n, hd⟩, _⟩ := I.tuple (H := H) (Or.inr h)
    obtain ⟨as, hr, ns⟩ := readss_nl I its rr (by simpa [noLst] using hl) (by simpa [okR] using ho) rv
    exact ⟨as, by simp only [toP]; exact Reads.tuple ho' hc hd hr, ns⟩
  | _, _, u, .lst _ _ _, hl, _, _ => by simp [noLst] at hl
  | _, _, u, .dic h n rr, hl, ho, r => by
    cases r
    obtain ⟨z, lo, vs, rel, dd⟩ := dk_rd I.hok h
    obtain ⟨bs, pr, ns⟩ := readsk_nl I vs rr (by simpa [noLst] using hl) (by simpa [okR] using ho) rel
    refine ⟨_ :: bs, by simp only [toP]; exact PyProof.V.reads_dictOf (enc := encK) key_reads dd pr, ?_⟩
    · intro hm
      rcases List.mem_cons.mp hm with e | e
      · rw [← e] at lo; simp at lo
      · exact ns e
  | _, _, u, .scr _ _, _, ho, _ => by simp [okR] at ho
  | _, _, u, .scrW _, _, ho, _ => by simp [okR] at ho
theorem readss_nl {pins : List (Addr × Obj)} {s : Shared} {σ : L2.St} {H : Hp} {Y : Ys} (I : Inv X pins σ H s) : ∀ {vs : List V} {ds : List D} (us : List Value), Reps X.K H Y vs ds → noLsts ds = true → okRs ds = true → Vals vs us → ∃ as, ReadsAll s.heap us (toPs ds) as ∧ sysModules ∉ as
  | _, _, us, .nil, _, _, r => by cases r; exact ⟨[], by simp only [toPs]; exact .nil, by simp⟩
  | _, _, us, .cons h hr, hl, ho, r => by
    cases r with
    | cons r1 r2 =>
      simp only [noLsts, okRs, Bool.and_eq_true] at hl ho
      obtain ⟨as, q1, n1⟩ := reads_nl I _ h hl.1 ho.1 r1
      obtain ⟨bs, q2, n2⟩ := readss_nl I _ hr hl.2 ho.2 r2
      exact ⟨as ++ bs, by simp only [toPs]; exact .cons q1 q2, by simp [n1, n2]⟩
theorem readsk_nl {pins : List (Addr × Obj)} {s : Shared} {σ : L2.St} {H : Hp} {Y : Ys} (I : Inv X pins σ H s) : ∀ {vs : List (Key × V)} {ds : List (Key × D)} (us : List (Key × Value)), RepK X.K H Y vs ds → noLstk ds = true → okRk ds = true → KV vs us → ∃ as, PyProof.V.PairsRead s.heap encK us (toPk ds) as ∧ sysModules ∉ as
  | _, _, us, .nil, _, _, r => by cases r; exact ⟨[], by simp only [toPk]; exact .nil, by simp⟩
  | _, _, us, .cons (k := k) h hr, hl, ho, r => by
    cases r with
    | cons r1 r2 =>
      rename_i q _
      obtain ⟨k', u'⟩ := q
      obtain ⟨rfl, r1⟩ := r1
      have hl' := hl
      have ho' := ho
      simp only [noLstk, Bool.and_eq_true] at hl'
      simp only [okRk, Bool.and_eq_true] at ho'
      obtain ⟨as, q1, n1⟩ := reads_nl I _ h hl'.1 ho'.1.2 r1
      obtain ⟨bs, q2, n2⟩ := readsk_nl I _ hr hl'.2 ho'.2 r2
      exact ⟨as ++ bs, by rw [toPk_cons]; exact .cons q1 q2, by simp [n1, n2]⟩
end
theorem reads_ar {pins : List (Addr × Obj)} {s : Shared} {σ : L2.St} {H : Hp} {Y : Ys} (I : Inv X pins σ H s) {v : V} {d : D} (u : Value) (h : AR X.K H Y v d) (h1 : (okR d && (okD d || noLst d)) = true) (r : RelV v u) : ∃ as, Reads s.heap u (toP d) as ∧ ((toP d).hasDict = true → sysModules ∉ as) := by
  simp only [Bool.and_eq_true, Bool.or_eq_true] at h1
  rcases h1.2 with oa | nl
  · obtain ⟨as, rd⟩ := Dp.reads I (toP d) v u (dp_ar h oa) r
    exact ⟨as, rd, PyData.noDict_hsm (PyData.hasDict_of_canLay _ (lay_toP d oa))⟩
  · rcases h with h | ⟨a, rfl, b⟩
    · obtain ⟨as, q, n⟩ := reads_nl I u h nl h1.1 r
      exact ⟨as, q, fun _ => n⟩
    · cases d <;> first | exact b.elim | skip
      · simp [noLst] at nl
      · obtain ⟨kvs, e, rr⟩ := b
        cases r
        obtain ⟨z, lo, vs, rel, dd⟩ := dk_rd I.hok (.inl e)
        obtain ⟨bs, pr, ns⟩ := readsk_nl I vs rr (by simpa [noLst] using nl) (by simpa [okR] using h1.1) rel
        refine ⟨_ :: bs, by simp only [toP]; exact PyProof.V.reads_dictOf (enc := encK) key_reads dd pr, fun _ => ?_⟩
        · intro hm
          rcases List.mem_cons.mp hm with e | e
          · rw [← e] at lo; simp at lo
          · exact ns e
theorem r_repr (hg : X.A.guards = some []) (hu : X.A.units + 64 < cLine) : CallR X (.builtin "repr") (rTag X.K .repr1) := by
  intro pins s σ H xs us Q I r ⟨Y, ds, res, hY, ar, h, q⟩
  change prRepr1 ds = some res at h
  unfold prRepr1 at h
  split at h
  · rename_i d
    obtain ⟨x, rfl, ha⟩ := ar.one
    split at h
    · rename_i hc
      obtain ⟨h1, h2, h3, h4⟩ := hc
      cases h
      cases r with
      | cons r1 rs =>
        cases rs
        rename_i u
        obtain ⟨as, rd, hsm⟩ := reads_ar I u ha h1 r1
        have fin : ∀ h' t tk, (∀ b o, s.heap.get? b = some o → h'.get? b = some o) → EP X pins σ Q (.str (toP d).shown t) { s with heap := h', toks := tk } := fun h' t tk k => ⟨.str (toP d).shown, H, I.kept k, ⟨t, rfl⟩, q _ H (Same.refl H) (.str _)⟩
        by_cases hr : ∃ a, u = .ref a
        · obtain ⟨a, rfl⟩ := hr
          exact repr_of_reads' rd h2 hsm hg (by rw [dep_toP]; omega) (fun _ _ e => e) fin h3
        · generalize toP d = pd at *
          cases rd with
          | none => exact PySem.P.repr_of_none (fin s.heap _ _ fun _ _ e => e)
          | bool b =>
            have := fin s.heap s.toks (s.toks + 1) fun _ _ e => e
            simp only [PyData.shown] at this
            exact PySem.P.repr_of_bool this
          | int i t =>
            have := fin s.heap s.toks (s.toks + 1) fun _ _ e => e
            simp only [PyData.shown] at this
            simp only [PyData.showable, decide_eq_true_eq] at h2
            exact PySem.P.repr_of_int h2 this
          | str z t =>
            have := fin s.heap s.toks (s.toks + 1) fun _ _ e => e
            simp only [PyData.shown] at this h3
            exact PySem.P.repr_of_str this h3
          | list _ _ _ _ => exact absurd ⟨_, rfl⟩ hr
          | tuple _ _ _ _ => exact absurd ⟨_, rfl⟩ hr
          | dict _ _ _ _ _ => exact absurd ⟨_, rfl⟩ hr
    · cases h
  · cases h
/-- the classes' names -/
def Ty.name : Ty → String
  | .bool => "bool" | .int => "int" | .str => "str" | .tuple => "tuple" | .list => "list" | .dict => "dict"
def dTy : D → String
  | .non => "NoneType" | .bl _ => "bool" | .int _ => "int" | .str _ => "str" | .tup _ => "tuple" | .lst _ => "list" | .dic _ => "dict" | .scr _ => "list"
theorem tyX_of {K : PySem.W.Frag} {H : Hp} {Y : Ys} {v : V} {d : D} (h : AR K H Y v d) : TyX K H v (.type (dTy d)) := by
  rcases h with h | ⟨a, rfl, b⟩
  · cases h with
    | non => exact .base .non
    | bl b => exact .base (.bl b)
    | int b => exact .base (.int b)
    | str b => exact .base (.str b)
    | tup h _ _ => exact .base (.tup h)
    | tupW h _ =>
      obtain ⟨o, its, n, h1, h2, _⟩ := h
      exact .kTuple h1 h2
    | lst h _ _ => exact .base (.lst h)
    | dic h _ _ => exact h.elim (fun h => .base (.dK h)) fun ⟨o, h⟩ => .fDict h
    | scr h _ => exact .base (.frz h)
    | scrW h =>
      obtain ⟨o, its, n, h1, h2, _⟩ := h
      exact .kList h1 h2
  · cases d <;> first | exact b.elim | skip
    · obtain ⟨vs, h, _⟩ := b
      exact .base (.lst h)
    · obtain ⟨vs, h, _⟩ := b
      exact .base (.dK h)
theorem kit_all (T : Ty) (d : D) : kitB (dTy d) T.name = some (isiD T d) := by
  cases T <;> cases d <;> (simp only [dTy, Ty.name, isiD]; decide +kernel)
theorem r_isi {T : Ty} {x : V} {H : Hp} {Q : VK} (h : rTag X.K (.isi T) [x] H Q) : rIsi X.K [x, .ty T.name] H Q := by
  obtain ⟨Y, ds, res, hY, ar, h, q⟩ := h
  change prIsi T ds = some res at h
  unfold prIsi at h
  split at h
  · obtain ⟨x', e, ha⟩ := ar.one
    cases e
    cases h
    exact ⟨x, .ty T.name, _, _, _, rfl, .ty _, tyX_of ha, kit_ty (kit_all T _), q _ H (Same.refl H) (.bl _)⟩
  · cases h
end
end Ofw
/-! Ofw 7: a def's promise, and a call of it -/
namespace Ofw
open PySem L2
def isB (fl : List Bool) (vs : List V) (a : Addr) : Prop := ∃ j : Nat, fl[j]? = some true ∧ vs[j]? = some (V.ref a)
structure CArgs (K : PySem.W.Frag) (fl : List Bool) (Z : Ys) (H : Hp) (vs : List V) (ds : List D) : Prop where
  lv : vs.length = fl.length
  ld : ds.length = fl.length
  zdom : ∀ a, Z a → H a ≠ none
  val : ∀ (j : Nat) (v : V) (d : D), fl[j]? = some false → vs[j]? = some v → ds[j]? = some d → Rep K H (fun a => Z a ∨ isB fl vs a) v d
  bor : ∀ (j : Nat) (v : V) (d : D), fl[j]? = some true → vs[j]? = some v → ds[j]? = some d → ∃ a, v = .ref a ∧ ¬ Z a ∧ Bod K H (fun a => Z a ∨ isB fl vs a) a d
  inj : ∀ (i j : Nat) (a : Addr), fl[i]? = some true → fl[j]? = some true → vs[i]? = some (V.ref a) → vs[j]? = some (V.ref a) → i = j
/-- the borrowed ones behind the call -/
def BorOut (K : PySem.W.Frag) (fl : List Bool) (H' : Hp) (vs : List V) (outs : List (Option D)) (Y : Ys) : Prop :=
  ∀ (j : Nat) (a : Addr), fl[j]? = some true → vs[j]? = some (V.ref a) → ∃ d, outs[j]? = some (some d) ∧ Bod K H' Y a d
structure CPost (K : PySem.W.Frag) (fl : List Bool) (Z : Ys) (H : Hp) (vs : List V) (H' : Hp) (v : V) (r : Rs) (outs : List (Option D)) : Prop where
  step : ∀ a o, H a = some o → ¬ isB fl vs a → H' a = some o
  there : ∀ a, H' a = none → H a = none
  none_ : ∀ j : Nat, fl[j]? = some false → outs[j]? = some none
  len : outs.length = fl.length
  res : match r with
    | .val d => Rep K H' (fun a => Z a ∨ isB fl vs a) v d ∧ BorOut K fl H' vs outs (fun a => Z a ∨ isB fl vs a)
    | .fr d => ∃ p, v = .ref p ∧ H p = none ∧ Bod K H' (fun a => (Z a ∨ isB fl vs a) ∨ a = p) p d ∧ BorOut K fl H' vs outs (fun a => (Z a ∨ isB fl vs a) ∨ a = p)
/-- a def's promise, by what the evaluator tells of it -/
def spF (K : PySem.W.Frag) (fl : List Bool) (C : CallT) (f : Nat) : Sp := fun vs H Q _ => ∃ (Z : Ys) (ds : List D) (r : Rs) (outs : List (Option D)), CArgs K fl Z H vs ds ∧ C f ds = some (r, outs) ∧
  ∀ v H', CPost K fl Z H vs H' v r outs → Q v H'
/-! ### the caller -/
theorem borOk_len (env : En) : ∀ (fl : List Bool) (xs : List Av1) (seen : List Nat), borOk env fl xs seen = true → xs.length = fl.length
  | [], [], _, _ => rfl
  | true :: fs, .r i :: xs, seen, h => by
    simp only [borOk, Bool.and_eq_true] at h
    simp [borOk_len env fs xs _ h.2]
  | false :: fs, .v _ :: xs, seen, h => by
    simp only [borOk] at h
    simp [borOk_len env fs xs _ h]
  | [], _ :: _, _, h => by simp [borOk] at h
  | true :: _, [], _, h => by simp [borOk] at h
  | false :: _, [], _, h => by simp [borOk] at h
  | true :: _, .v _ :: _, _, h => by simp [borOk] at h
  | false :: _, .r _ :: _, _, h => by simp [borOk] at h
/-- a borrowed argument is an own slot; each other one a value -/
theorem borOk_at (env : En) : ∀ (fl : List Bool) (xs : List Av1) (seen : List Nat), borOk env fl xs seen = true → ∀ j : Nat,
    (fl[j]? = some true → ∃ i s, xs[j]? = some (.r i) ∧ env[i]? = some s ∧ s.isOwn = true ∧ i ∉ seen) ∧ (fl[j]? = some false → ∃ d, xs[j]? = some (.v d))
  | [], [], _, _, j => by simp
  | true :: fs, .r i :: xs, seen, h, j => by
    simp only [borOk, Bool.and_eq_true] at h
    cases j with
    | zero =>
      refine ⟨fun _ => ?_, fun e => by simp at e⟩
      cases hs : env[i]? with
      | none => rw [hs] at h; simp at h
      | some s =>
        rw [hs] at h
        refine ⟨i, s, by simp, hs, by simpa using h.1.1, by simpa using h.1.2⟩
    | succ j =>
      have ih := borOk_at env fs xs (i :: seen) h.2 j
      refine ⟨fun e => ?_, fun e => by simpa using ih.2 (by simpa using e)⟩
      obtain ⟨i', s, h1, h2, h3, h4⟩ := ih.1 (by simpa using e)
      exact ⟨i', s, by simpa using h1, h2, h3, fun z => h4 (List.mem_cons_of_mem _ z)⟩
  | false :: fs, .v d :: xs, seen, h, j => by
    simp only [borOk] at h
    cases j with
    | zero => exact ⟨fun e => by simp at e, fun _ => ⟨d, by simp⟩⟩
    | succ j =>
      have ih := borOk_at env fs xs seen h j
      refine ⟨fun e => ?_, fun e => by simpa using ih.2 (by simpa using e)⟩
      obtain ⟨i', s, h1, h2, h3, h4⟩ := ih.1 (by simpa using e)
      exact ⟨i', s, by simpa using h1, h2, h3, h4⟩
  | [], _ :: _, _, h, _ => by simp [borOk] at h
  | true :: _, [], _, h, _ => by simp [borOk] at h
  | false :: _, [], _, h, _ => by simp [borOk] at h
  | true :: _, .v _ :: _, _, h, _ => by simp [borOk] at h
  | false :: _, .r _ :: _, _, h, _ => by simp [borOk] at h
/-- no slot twice -/
theorem borOk_inj (env : En) : ∀ (fl : List Bool) (xs : List Av1) (seen : List Nat), borOk env fl xs seen = true → ∀ (j k i : Nat), xs[j]? = some (.r i) → xs[k]? = some (.r i) → j = k
  | [], [], _, _, _, _, _, e, _ => by simp at e
  | true :: fs, .r i :: xs, seen, h, j, k, i', e1, e2 => by
    simp only [borOk, Bool.and_eq_true] at h
    have hl := borOk_len env fs xs _ h.2
    have no : ∀ m : Nat, xs[m]? = some (.r i) → False := fun m hm => by
      have hml : m < fs.length := by rw [← hl]; exact (List.getElem?_eq_some_iff.mp hm).1
      cases hf : fs[m]? with
      | none => rw [List.getElem?_eq_none_iff] at hf; omega
      | some b =>
        cases b with
        | true =>
          obtain ⟨i2, s, h1, _, _, h4⟩ := (borOk_at env fs xs _ h.2 m).1 hf
          rw [hm] at h1; cases h1
          exact h4 List.mem_cons_self
        | false =>
          obtain ⟨d, h1⟩ := (borOk_at env fs xs _ h.2 m).2 hf
          rw [hm] at h1; cases h1
    cases j with
    | zero =>
      simp only [List.getElem?_cons_zero, Option.some.injEq, Av1.r.injEq] at e1
      subst e1
      cases k with
      | zero => rfl
      | succ k => exact (no k (by simpa using e2)).elim
    | succ j =>
      cases k with
      | zero =>
        simp only [List.getElem?_cons_zero, Option.some.injEq, Av1.r.injEq] at e2
        subst e2
        exact (no j (by simpa using e1)).elim
      | succ k => rw [borOk_inj env fs xs _ h.2 j k i' (by simpa using e1) (by simpa using e2)]
  | false :: fs, .v d :: xs, seen, h, j, k, i', e1, e2 => by
    simp only [borOk] at h
    cases j with
    | zero => simp at e1
    | succ j =>
      cases k with
      | zero => simp at e2
      | succ k => rw [borOk_inj env fs xs _ h j k i' (by simpa using e1) (by simpa using e2)]
  | [], _ :: _, _, h, _, _, _, _, _ => by simp [borOk] at h
  | true :: _, [], _, h, _, _, _, _, _ => by simp [borOk] at h
  | false :: _, [], _, h, _, _, _, _, _ => by simp [borOk] at h
  | true :: _, .v _ :: _, _, h, _, _, _, _, _ => by simp [borOk] at h
  | false :: _, .r _ :: _, _, h, _, _, _, _, _ => by simp [borOk] at h
theorem putBor_own (s : Sl) (d : D) : (putBor s d).isOwn = s.isOwn := by cases s <;> rfl
theorem putBack_len : ∀ (xs : List Av1) (outs : List (Option D)) (env : En), (putBack env xs outs).length = env.length
  | [], _, env => by simp [putBack]
  | .r i :: xs, some d :: ds, env => by simp only [putBack]; rw [putBack_len xs ds]; simp
  | .r i :: xs, none :: ds, env => by simp only [putBack]; rw [putBack_len xs ds]
  | .v _ :: xs, _ :: ds, env => by simp only [putBack]; rw [putBack_len xs ds]
  | .r _ :: _, [], env => by simp [putBack]
  | .v _ :: _, [], env => by simp [putBack]
/-- a slot that no borrowed argument names stays; one that is named has what came -/
theorem putBack_get : ∀ (xs : List Av1) (outs : List (Option D)) (env : En), (∀ (j k i : Nat), xs[j]? = some (.r i) → xs[k]? = some (.r i) → j = k) → ∀ i : Nat,
    ((∀ (j : Nat) (d : D), xs[j]? = some (.r i) → outs[j]? = some (some d) → False) → (putBack env xs outs)[i]? = env[i]?) ∧
    (∀ (j : Nat) (d : D) (s : Sl), xs[j]? = some (.r i) → outs[j]? = some (some d) → env[i]? = some s → (putBack env xs outs)[i]? = some (putBor s d))
  | [], outs, env, _, i => ⟨fun _ => by simp [putBack], fun j d s h => by simp at h⟩
  | x :: xs, [], env, _, i => ⟨fun _ => by cases x <;> simp [putBack], fun j d s _ h => by simp at h⟩
  | .v d0 :: xs, o :: outs, env, inj, i => by
    have ih := putBack_get xs outs env (fun j k i' h1 h2 => by have := inj (j + 1) (k + 1) i' (by simpa using h1) (by simpa using h2); omega) i
    simp only [putBack]
    refine ⟨fun no => ih.1 fun j d h1 h2 => no (j + 1) d (by simpa using h1) (by simpa using h2), fun j d s h1 h2 h3 => ?_⟩
    cases j with
    | zero => simp at h1
    | succ j => exact ih.2 j d s (by simpa using h1) (by simpa using h2) h3
  | .r i0 :: xs, none :: outs, env, inj, i => by
    have ih := putBack_get xs outs env (fun j k i' h1 h2 => by have := inj (j + 1) (k + 1) i' (by simpa using h1) (by simpa using h2); omega) i
    simp only [putBack]
    refine ⟨fun no => ih.1 fun j d h1 h2 => no (j + 1) d (by simpa using h1) (by simpa using h2), fun j d s h1 h2 h3 => ?_⟩
    cases j with
    | zero => simp at h2
    | succ j => exact ih.2 j d s (by simpa using h1) (by simpa using h2) h3
  | .r i0 :: xs, some d0 :: outs, env, inj, i => by
    have ih := putBack_get xs outs (env.set i0 (putBor (env.getD i0 .emp) d0)) (fun j k i' h1 h2 => by have := inj (j + 1) (k + 1) i' (by simpa using h1) (by simpa using h2); omega) i
    simp only [putBack]
    refine ⟨fun no => ?_, fun j d s h1 h2 h3 => ?_⟩
    · have ne : i0 ≠ i := fun e => no 0 d0 (by simp [e]) (by simp)
      rw [ih.1 fun j d h1 h2 => no (j + 1) d (by simpa using h1) (by simpa using h2), List.getElem?_set_ne ne]
    · cases j with
      | zero =>
        simp only [List.getElem?_cons_zero, Option.some.injEq, Av1.r.injEq] at h1 h2
        subst h1; subst h2
        rw [ih.1 fun j d h1 h2 => by have := inj 0 (j + 1) i0 (by simp) (by simpa using h1); omega]
        have hl : i0 < env.length := (List.getElem?_eq_some_iff.mp h3).1
        rw [List.getElem?_set_self hl, List.getD_eq_getElem?_getD, h3]
        rfl
      | succ j =>
        have ne : i0 ≠ i := fun e => by
          have := inj 0 (j + 1) i0 (by simp) (by rw [e]; simpa using h1); omega
        exact ih.2 j d s (by simpa using h1) (by simpa using h2) (by rw [List.getElem?_set_ne ne]; exact h3)
theorem ArgP.at {K : PySem.W.Frag} {σ : St} {H : Hp} {Y : Ys} : ∀ {vs : List V} {xs : List Av1}, ArgP K σ H Y vs xs → ∀ j : Nat,
    (∀ d, xs[j]? = some (.v d) → ∃ v, vs[j]? = some v ∧ Rep K H Y v d) ∧ (∀ i, xs[j]? = some (.r i) → ∃ v, vs[j]? = some v ∧ σ[i]? = some (some v))
  | _, _, .nil, j => ⟨fun d h => by simp at h, fun i h => by simp at h⟩
  | _, _, .v (v := w) h t, j => by
    cases j with
    | zero => exact ⟨fun d e => by simp at e; subst e; exact ⟨w, by simp, h⟩, fun i e => by simp at e⟩
    | succ j =>
      have ih := ArgP.at t j
      exact ⟨fun d e => by simpa using ih.1 d (by simpa using e), fun i e => by simpa using ih.2 i (by simpa using e)⟩
  | _, _, .r (v := w) h t, j => by
    cases j with
    | zero => exact ⟨fun d e => by simp at e, fun i e => by simp at e; subst e; exact ⟨w, by simp, h⟩⟩
    | succ j =>
      have ih := ArgP.at t j
      exact ⟨fun d e => by simpa using ih.1 d (by simpa using e), fun i e => by simpa using ih.2 i (by simpa using e)⟩
theorem ArgP.len {K : PySem.W.Frag} {σ : St} {H : Hp} {Y : Ys} : ∀ {vs : List V} {xs : List Av1}, ArgP K σ H Y vs xs → vs.length = xs.length
  | _, _, .nil => rfl
  | _, _, .v _ t => by simp [ArgP.len t]
  | _, _, .r _ t => by simp [ArgP.len t]
theorem looks_at (env : En) : ∀ {xs : List Av1} {ds : List D}, looks env xs = some ds → ds.length = xs.length ∧ ∀ (j : Nat) (x : Av1), xs[j]? = some x → ∃ d, ds[j]? = some d ∧ look env x = some d
  | [], ds, h => by simp only [looks, Option.some.injEq] at h; subst h; simp
  | x :: xs, ds, h => by
    simp only [looks] at h
    cases h1 : look env x with
    | none => rw [h1] at h; cases h
    | some d =>
      cases h2 : looks env xs with
      | none => rw [h1, h2] at h; cases h
      | some es =>
        rw [h1, h2] at h
        simp only [Option.some.injEq] at h
        subst h
        obtain ⟨hl, ih⟩ := looks_at env h2
        refine ⟨by simp [hl], fun j y hy => ?_⟩
        cases j with
        | zero => simp at hy; subst hy; exact ⟨d, by simp, h1⟩
        | succ j => simpa using ih j y (by simpa using hy)
section
variable {G : Gx} {rf : Nat → List Bool} {C : CallT}
/-- the caller's slots behind a call -/
theorem call_good {Z Zn : Ys} {σ : St} {H H' : Hp} {env : En} {fl : List Bool} {xs : List Av1} {vs : List V} {outs : List (Option D)} (g : Good G Z σ H env) (bo : borOk env fl xs [] = true) (ar : ArgP G.K σ H (Av σ env Z) vs xs)
    (ol : outs.length = fl.length) (on : ∀ j : Nat, fl[j]? = some false → outs[j]? = some none)
    (step : ∀ a o, H a = some o → ¬ isB fl vs a → H' a = some o) (hz : ∀ a, Zn a → Z a ∨ H a = none) (zd : ∀ a, Zn a → H' a ≠ none) (bout : BorOut G.K fl H' vs outs (Av σ env Zn)) :
    Good G Zn σ H' (putBack env xs outs) ∧ (∀ a, ownA σ (putBack env xs outs) a ↔ ownA σ env a) := by
  have inj := borOk_inj env fl xs [] bo
  have bat := borOk_at env fl xs [] bo
  have xl := borOk_len env fl xs [] bo
  -- a borrowed place is an own slot's
  have b2o : ∀ a, isB fl vs a → ∃ (j i : Nat) (s : Sl), fl[j]? = some true ∧ xs[j]? = some (.r i) ∧ env[i]? = some s ∧ s.isOwn = true ∧ σ[i]? = some (some (.ref a)) := fun a ⟨j, h1, h2⟩ => by
    obtain ⟨i, s, hx, hs, ho, _⟩ := (bat j).1 h1
    obtain ⟨v, hv, hσ⟩ := (ar.at j).2 i hx
    rw [h2] at hv; cases hv
    exact ⟨j, i, s, h1, hx, hs, ho, hσ⟩
  have isOwn_of : ∀ a, isB fl vs a → ownA σ env a := fun a h => by
    obtain ⟨j, i, s, _, _, h3, h4, h5⟩ := b2o a h
    exact ⟨i, s, h3, h4, h5⟩
  -- each slot: as it was, or with what came
  have cases_ : ∀ i : Nat, ((putBack env xs outs)[i]? = env[i]? ∧ ∀ j : Nat, fl[j]? = some true → xs[j]? ≠ some (.r i)) ∨
      ∃ (j : Nat) (d : D) (s : Sl), fl[j]? = some true ∧ xs[j]? = some (.r i) ∧ outs[j]? = some (some d) ∧ env[i]? = some s ∧ s.isOwn = true ∧ (putBack env xs outs)[i]? = some (putBor s d) := fun i => by
    by_cases hb : ∃ j : Nat, fl[j]? = some true ∧ xs[j]? = some (.r i)
    · obtain ⟨j, h1, h2⟩ := hb
      obtain ⟨i', s, hx, hs, ho, _⟩ := (bat j).1 h1
      rw [h2] at hx; cases hx
      obtain ⟨v, hv, hσ⟩ := (ar.at j).2 i h2
      have hr : ∃ a, v = .ref a := by
        cases s with
        | emp => cases ho
        | val d => cases ho
        | own d => obtain ⟨a, e, _⟩ := g.owns i d hs; rw [hσ] at e; cases e; exact ⟨a, rfl⟩
        | bor d => obtain ⟨a, e, _⟩ := g.bors i d hs; rw [hσ] at e; cases e; exact ⟨a, rfl⟩
      obtain ⟨a, rfl⟩ := hr
      obtain ⟨d, hd, _⟩ := bout j a h1 hv
      exact .inr ⟨j, d, s, h1, h2, hd, hs, ho, (putBack_get xs outs env inj i).2 j d s h2 hd hs⟩
    · refine .inl ⟨(putBack_get xs outs env inj i).1 fun j d h1 h2 => ?_, fun j h1 h2 => hb ⟨j, h1, h2⟩⟩
      have hjl : j < fl.length := by rw [← xl]; exact (List.getElem?_eq_some_iff.mp h1).1
      cases hf : fl[j]? with
      | none => rw [List.getElem?_eq_none_iff] at hf; omega
      | some b =>
        cases b with
        | true => exact hb ⟨j, hf, h1⟩
        | false => rw [on j hf] at h2; cases h2
  have ownEq : ∀ a, ownA σ (putBack env xs outs) a ↔ ownA σ env a := fun a => by
    constructor
    · rintro ⟨i, s, h1, h2, h3⟩
      rcases cases_ i with ⟨e, _⟩ | ⟨j, d, s', _, _, _, hs, ho, e⟩
      · exact ⟨i, s, by rw [← e]; exact h1, h2, h3⟩
      · exact ⟨i, s', hs, ho, h3⟩
    · rintro ⟨i, s, h1, h2, h3⟩
      rcases cases_ i with ⟨e, _⟩ | ⟨j, d, s', _, _, _, hs, ho, e⟩
      · exact ⟨i, s, by rw [e]; exact h1, h2, h3⟩
      · exact ⟨i, putBor s' d, e, by rw [putBor_own]; exact ho, h3⟩
  have fr : Fr1 H H' (Av σ env Z) (Av σ (putBack env xs outs) Zn) :=
    ⟨fun a o h n => step a o h fun b => n (.inl (isOwn_of a b)), fun a y => y.elim (fun z => .inl (.inl ((ownEq a).mp z))) fun z => (hz a z).elim (fun q => .inl (.inr q)) .inr⟩
  have av : ∀ {d : D} {a : Addr}, Bod G.K H' (Av σ env Zn) a d → Bod G.K H' (Av σ (putBack env xs outs) Zn) a d := fun b => b.fr (Fr1.less fun a y => y.elim (fun z => .inl ((ownEq a).mp z)) .inr) fun o h => h
  -- a slot that is not borrowed: its own place stands
  have stay : ∀ (i : Nat) (s : Sl) (a : Addr), env[i]? = some s → s.isOwn = true → σ[i]? = some (some (.ref a)) → (∀ j : Nat, fl[j]? = some true → xs[j]? ≠ some (.r i)) → ∀ o, H a = some o → H' a = some o := fun i s a h1 h2 h3 no o ho =>
    step a o ho fun hb => by
      obtain ⟨j, i', s', hf, hx, hs, ho', hσ⟩ := b2o a hb
      have := g.inj i i' s s' a h1 hs h2 ho' h3 hσ
      subst this
      exact no j hf hx
  have nz : ∀ (a : Addr) (d : D), Bod G.K H (Av σ env Z) a d → ¬ Z a → ¬ Zn a := fun a d b n z => (hz a z).elim n fun q => by
    obtain ⟨o, ho⟩ := b.there
    rw [ho] at q; cases q
  refine ⟨⟨by rw [putBack_len]; exact g.len, zd, fun i d h => ?_, fun i d h => ?_, fun i d h => ?_, fun i j s t a h1 h2 h3 h4 h5 h6 => ?_, fun i a h => ?_, fun a o h n => ?_⟩, ownEq⟩
  · rcases cases_ i with ⟨e, _⟩ | ⟨j, d', s, _, _, _, hs, ho, e⟩
    · rw [e] at h
      obtain ⟨v, hv, r⟩ := g.vals i d h
      exact ⟨v, hv, r.fr fr⟩
    · rw [e] at h
      cases s with
      | emp => cases ho
      | val _ => cases ho
      | own _ => simp [putBor] at h
      | bor _ => simp [putBor] at h
  · rcases cases_ i with ⟨e, no⟩ | ⟨j, d', s, hf, hx, hd, hs, ho, e⟩
    · rw [e] at h
      obtain ⟨a, ha, b, h0, nza⟩ := g.owns i d h
      exact ⟨a, ha, b.fr fr (stay i _ a h rfl ha no), h0, nz a d b nza⟩
    · rw [e] at h
      cases s with
      | emp => cases ho
      | val _ => cases ho
      | bor _ => simp [putBor] at h
      | own d0 =>
        simp only [putBor, Option.some.injEq, Sl.own.injEq] at h
        subst h
        obtain ⟨a, ha, b, h0, nza⟩ := g.owns i d0 hs
        obtain ⟨v, hv, hσ⟩ := (ar.at j).2 i hx
        rw [ha] at hσ; cases hσ
        obtain ⟨d2, hd2, b2⟩ := bout j a hf hv
        rw [hd] at hd2; cases hd2
        exact ⟨a, ha, av b2, h0, nz a d0 b nza⟩
  · rcases cases_ i with ⟨e, no⟩ | ⟨j, d', s, hf, hx, hd, hs, ho, e⟩
    · rw [e] at h
      obtain ⟨a, ha, b, h0, nza⟩ := g.bors i d h
      exact ⟨a, ha, b.fr fr (stay i _ a h rfl ha no), h0, nz a d b nza⟩
    · rw [e] at h
      cases s with
      | emp => cases ho
      | val _ => cases ho
      | own _ => simp [putBor] at h
      | bor d0 =>
        simp only [putBor, Option.some.injEq, Sl.bor.injEq] at h
        subst h
        obtain ⟨a, ha, b, h0, nza⟩ := g.bors i d0 hs
        obtain ⟨v, hv, hσ⟩ := (ar.at j).2 i hx
        rw [ha] at hσ; cases hσ
        obtain ⟨d2, hd2, b2⟩ := bout j a hf hv
        rw [hd] at hd2; cases hd2
        exact ⟨a, ha, av b2, h0, nz a d0 b nza⟩
  · have up : ∀ (i : Nat) (s : Sl), (putBack env xs outs)[i]? = some s → s.isOwn = true → ∃ s', env[i]? = some s' ∧ s'.isOwn = true := fun i s h ho => by
      rcases cases_ i with ⟨e, _⟩ | ⟨_, _, s', _, _, _, hs, ho', _⟩
      · exact ⟨s, by rw [← e]; exact h, ho⟩
      · exact ⟨s', hs, ho'⟩
    obtain ⟨s', e1, o1⟩ := up i s h1 h3
    obtain ⟨t', e2, o2⟩ := up j t h2 h4
    exact g.inj i j s' t' a e1 e2 o1 o2 h5 h6
  · obtain ⟨d, hd⟩ := g.held i a h
    rcases cases_ i with ⟨e, _⟩ | ⟨j, d', s, _, _, _, hs, ho, e⟩
    · exact ⟨d, by rw [e]; exact hd⟩
    · rw [hd] at hs; cases hs
      exact ⟨d', e⟩
  · refine step a o (g.frame a o h n) fun hb => ?_
    obtain ⟨j, i, s, _, _, hs, ho, hσ⟩ := b2o a hb
    cases s with
    | emp => cases ho
    | val _ => cases ho
    | own d =>
      obtain ⟨b, hb', _, h0, _⟩ := g.owns i d hs
      rw [hσ] at hb'; cases hb'
      rw [h0] at h; cases h
    | bor d =>
      obtain ⟨b, hb', _, h0, _⟩ := g.bors i d hs
      rw [hσ] at hb'; cases hb'
      exact n i h0
theorem call_core {f : Nat} {σ : St} {H H1 : Hp} {Z : Ys} {env env1 env' : En} {xs : List Av1} {r : Rs} {vs : List V} {Q : VK} (p1 : Post G Z σ H env σ H1 env1) (ar : ArgP G.K σ H1 (Av σ env1 Z) vs xs) (h : applyC rf C f xs env1 = some (r, env'))
    (q : ∀ v H', Post G Z σ H env σ H' env' → ResOk G Z σ H H' env' v r → Q v H') : spF G.K (rf f) C f vs H1 Q E0 := by
  unfold applyC at h
  split at h
  · rename_i bo
    cases h2 : looks env1 xs with
    | none => rw [h2] at h; cases h
    | some ds =>
      rw [h2] at h
      cases h3 : C f ds with
      | none => simp only [h3] at h; cases h
      | some p3 =>
        obtain ⟨r', outs⟩ := p3
        simp only [h3, Option.some.injEq, Prod.mk.injEq] at h
        obtain ⟨rfl, rfl⟩ := h
        have g1 := p1.good
        have inj := borOk_inj env1 (rf f) xs [] bo
        have bat := borOk_at env1 (rf f) xs [] bo
        have xl := borOk_len env1 (rf f) xs [] bo
        obtain ⟨dl, lat⟩ := looks_at env1 h2
        have b2o : ∀ a, isB (rf f) vs a → ownA σ env1 a := fun a ⟨j, e1, e2⟩ => by
          obtain ⟨i, s, hx, hs, ho, _⟩ := (bat j).1 e1
          obtain ⟨v, hv, hσ⟩ := (ar.at j).2 i hx
          rw [e2] at hv; cases hv
          exact ⟨i, s, hs, ho, hσ⟩
        have zb : ∀ a, (Av σ env1 Z a ∧ ¬ isB (rf f) vs a) ∨ isB (rf f) vs a ↔ Av σ env1 Z a := fun a => by
          constructor
          · rintro (z | z)
            · exact z.1
            · exact .inl (b2o a z)
          · intro z
            by_cases hb : isB (rf f) vs a
            · exact .inr hb
            · exact .inl ⟨z, hb⟩
        refine ⟨fun a => Av σ env1 Z a ∧ ¬ isB (rf f) vs a, ds, r', outs, ⟨ar.len.trans xl, dl.trans xl, fun a z => g1.avdom z.1, fun j v d hf hv hd => ?_, fun j v d hf hv hd => ?_, fun i j a hi hj hvi hvj => ?_⟩, h3, fun v H' cp => ?_⟩
        · obtain ⟨d', hx⟩ := (bat j).2 hf
          obtain ⟨v', hv', rp⟩ := (ar.at j).1 d' hx
          obtain ⟨d2, hd2, hl⟩ := lat j _ hx
          rw [hv] at hv'; cases hv'
          rw [hd] at hd2; cases hd2
          simp only [look, Option.some.injEq] at hl
          subst hl
          exact rp.fr (Fr1.less fun a y => (zb a).mp y)
        · obtain ⟨i, s, hx, hs, ho, _⟩ := (bat j).1 hf
          obtain ⟨v', hv', hσ⟩ := (ar.at j).2 i hx
          obtain ⟨d2, hd2, hl⟩ := lat j _ hx
          rw [hv] at hv'; cases hv'
          rw [hd] at hd2; cases hd2
          simp only [look, hs, Option.bind_some] at hl
          cases s with
          | emp => cases ho
          | val _ => cases ho
          | own d0 =>
            cases hl
            obtain ⟨a, ha, b, _⟩ := g1.owns i d hs
            rw [hσ] at ha; cases ha
            exact ⟨a, rfl, fun z => z.2 ⟨j, hf, hv⟩, b.fr (Fr1.less fun a y => (zb a).mp y) fun o h => h⟩
          | bor d0 =>
            cases hl
            obtain ⟨a, ha, b, _⟩ := g1.bors i d hs
            rw [hσ] at ha; cases ha
            exact ⟨a, rfl, fun z => z.2 ⟨j, hf, hv⟩, b.fr (Fr1.less fun a y => (zb a).mp y) fun o h => h⟩
        · obtain ⟨i', s, hx, hs, ho, _⟩ := (bat i).1 hi
          obtain ⟨j', t, hy, ht, hp, _⟩ := (bat j).1 hj
          obtain ⟨v1, e1, σ1⟩ := (ar.at i).2 i' hx
          obtain ⟨v2, e2, σ2⟩ := (ar.at j).2 j' hy
          rw [hvi] at e1; cases e1
          rw [hvj] at e2; cases e2
          have := g1.inj i' j' s t a hs ht ho hp σ1 σ2
          subst this
          exact inj i j i' hx hy
        · -- behind the call
          have ownStep : ∀ a o, H1 a = some o → ¬ ownA σ env1 a → H' a = some o := fun a o e n => cp.step a o e fun b => n (b2o a b)
          have hres := cp.res
          cases r' with
          | val d =>
            obtain ⟨rp, bout⟩ := hres
            have bout' : BorOut G.K (rf f) H' vs outs (Av σ env1 Z) := fun j a e1 e2 => by
              obtain ⟨d2, hd2, b⟩ := bout j a e1 e2
              exact ⟨d2, hd2, b.fr (Fr1.less fun a y => (zb a).mpr y) fun o h => h⟩
            have zd : ∀ a, Z a → H' a ≠ none := fun a z e => g1.zdom a z (cp.there a e)
            obtain ⟨g2, oe⟩ := call_good (Zn := Z) g1 bo ar cp.len cp.none_ cp.step (fun a z => .inl z) zd bout'
            have p2 : Post G Z σ H1 env1 σ H' (putBack env1 xs outs) := ⟨g2, ownStep, fun a z => .inl ((oe a).mp z), cp.there⟩
            exact q v H' (p1.trans p2) (rp.fr (Fr1.less fun a y => (zb a).mpr (y.elim (fun z => .inl ((oe a).mp z)) .inr)))
          | fr d =>
            obtain ⟨p, rfl, hp, bd, bout⟩ := hres
            obtain ⟨o, ho⟩ := bd.there
            have bout' : BorOut G.K (rf f) H' vs outs (Av σ env1 (zad Z p)) := fun j a e1 e2 => by
              obtain ⟨d2, hd2, b⟩ := bout j a e1 e2
              refine ⟨d2, hd2, b.fr (Fr1.less fun a y => ?_) fun o h => h⟩
              rcases y with y | y | y
              · exact .inl ((zb a).mpr (.inl y))
              · exact .inl ((zb a).mpr (.inr y))
              · exact .inr y
            have zd : ∀ a, zad Z p a → H' a ≠ none := fun a z e => by
              rcases z with z | z
              · exact g1.zdom a z (cp.there a e)
              · rw [z, ho] at e; cases e
            obtain ⟨g2, oe⟩ := call_good (Zn := zad Z p) g1 bo ar cp.len cp.none_ cp.step (fun a z => z.elim .inl fun e => .inr (by rw [e]; exact hp)) zd bout'
            have p2 : Post G Z σ H1 env1 σ H' (putBack env1 xs outs) := ⟨g2.less fun a z => .inl z, ownStep, fun a z => .inl ((oe a).mp z), cp.there⟩
            refine q _ H' (p1.trans p2) ⟨p, rfl, p1.there p hp, g2, bd.fr (Fr1.less fun a y => ?_) fun o h => h⟩
            rcases y with y | y | y
            · exact .inl ((zb a).mpr (.inl ((oe a).mp y)))
            · exact .inl ((zb a).mpr (.inr y))
            · exact .inr y
  · cases h
theorem call_red {f : Nat} {as : List Ex} {σ : St} {H : Hp} {Q : VK} (h : tE G rf C (.op (.call f) as) σ H Q) : tArgs G rf C as σ H (fun vs H1 => spF G.K (rf f) C f vs H1 Q E0) := by
  obtain ⟨Z, env, r, env', g, h, q⟩ := h
  simp only [evalE] at h
  cases h1 : evalAs rf C as env with
  | none => rw [h1] at h; cases h
  | some p =>
    obtain ⟨xs, env1⟩ := p
    rw [h1] at h
    exact args_ok as g h1 fun vs H1 p1 ar => call_core p1 ar h q
theorem ArgP.perm {K : PySem.W.Frag} {σ : St} {H : Hp} {Y : Ys} {vs : List V} {xs : List Av1} (ar : ArgP K σ H Y vs xs) : ∀ {pm : List Nat} {ys : List Av1}, permL pm xs = some ys → ∃ zs, permL pm vs = some zs ∧ ArgP K σ H Y zs ys
  | [], ys, h => by cases h; exact ⟨[], rfl, .nil⟩
  | i :: pr, ys, h => by
    unfold permL at h
    cases h1 : xs[i]? with
    | none => rw [h1] at h; cases h
    | some x =>
      cases h2 : permL pr xs with
      | none => rw [h1, h2] at h; cases h
      | some y =>
        rw [h1, h2] at h
        cases h
        obtain ⟨zs, e, a⟩ := ArgP.perm ar h2
        cases x with
        | v d =>
          obtain ⟨v, hv, rp⟩ := (ar.at i).1 d h1
          exact ⟨v :: zs, by unfold permL; rw [hv, e], .v rp a⟩
        | r j =>
          obtain ⟨v, hv, hs⟩ := (ar.at i).2 j h1
          exact ⟨v :: zs, by unfold permL; rw [hv, e], .r hs a⟩
theorem callK_red {f np : Nat} {ks : List Str} {pm : List Nat} {as : List Ex} {σ : St} {H : Hp} {Q : VK} (h : tE G rf C (.op (.callK f np ks pm) as) σ H Q) : tArgs G rf C as σ H (fun vs H1 => ∃ zs, permL pm vs = some zs ∧ spF G.K (rf f) C f zs H1 Q E0) := by
  obtain ⟨Z, env, r, env', g, h, q⟩ := h
  simp only [evalE] at h
  cases h1 : evalAs rf C as env with
  | none => rw [h1] at h; cases h
  | some p =>
    obtain ⟨xs, env1⟩ := p
    rw [h1] at h
    simp only [applyT] at h
    cases h2 : permL pm xs with
    | none => rw [h2] at h; cases h
    | some ys =>
      rw [h2] at h
      refine args_ok as g h1 fun vs H1 p1 ar => ?_
      obtain ⟨zs, e, a⟩ := ar.perm h2
      exact ⟨zs, e, call_core p1 a h q⟩
end
end Ofw
/-! Ofw 8: control within expressions -/
namespace Ofw
open PySem L2
section
variable (G : Gx)
def tEv (ev : En → Option (Rs × En)) : TE := fun σ H Q => ∃ Z env r env', Good G Z σ H env ∧ ev env = some (r, env') ∧
  ∀ v H', Post G Z σ H env σ H' env' → ResOk G Z σ H H' env' v r → Q v H'
def tTv (ev : En → Option (Rs × En)) : TT := fun σ H Q => ∃ Z env r env' b, Good G Z σ H env ∧ ev env = some (r, env') ∧ truD r.d = some b ∧
  ∀ H', Post G Z σ H env σ H' env' → Q b H'
end
section
variable {G : Gx} {rf : Nat → List Bool} {C : CallT} {X : Cx}
theorem tru_ar {K : PySem.W.Frag} {H : Hp} {Y : Ys} {v : V} {d : D} {b : Bool} (h : AR K H Y v d) (hb : truD d = some b) : TruV K v H b := by
  cases d with
  | non => obtain rfl := h.non; cases hb; rfl
  | bl _ => obtain rfl := h.bl; cases hb; rfl
  | int _ => obtain rfl := h.int; cases hb; rfl
  | str _ =>
    obtain rfl := h.str
    simp only [truD] at hb
    split at hb
    · cases hb; exact ⟨‹_›, rfl⟩
    · cases hb
  | tup ds =>
    obtain ⟨a, vs, rfl, st, r, _⟩ := h.tup
    cases hb
    have : ds.isEmpty = vs.isEmpty := by have := r.len; cases ds <;> cases vs <;> simp_all
    exact .inr (.inl ⟨vs, st, by rw [this]⟩)
  | lst ds =>
    obtain ⟨a, vs, rfl, st, r⟩ := h.lst
    cases hb
    have : ds.isEmpty = vs.isEmpty := by have := r.len; cases ds <;> cases vs <;> simp_all
    exact .inl ⟨vs, SqL.of st, by rw [this]⟩
  | dic ds => cases hb
  | scr ns =>
    obtain ⟨a, rfl, r⟩ := h.scr
    cases hb
    have : ns.isEmpty = (ns.map V.int).isEmpty := by cases ns <;> rfl
    exact .inl ⟨_, r, by rw [this]⟩
/-- a value's truth, where the test is the value's -/
theorem pt_of_pe {e : Expr} {ev : En → Option (Rs × En)} (hK : X.K = G.K) (h : PE X e (tEv G ev)) (he : ∀ whole, isTrue e X.env whole = (do let v ← whole; standAt e.pos; holding [v] (truthy v))) : PT X e (tTv G ev) := by
  refine (pt_truth h he).imp fun σ H Q ⟨Z, env, r, env', b, g, h, hb, q⟩ => ?_
  refine ⟨Z, env, r, env', g, h, fun v H' p ro => ⟨b, ?_, q H' p⟩⟩
  rw [hK]
  exact tru_ar (.inl (ro.rep g)) hb
/-- a comparison's -/
theorem pt_of_test {e : Expr} {t : TE} {ev : En → Option (Rs × En)} (h : PT X e (tTest t)) (ht : ∀ σ H Q, tEv G ev σ H Q → t σ H Q) (hb : ∀ env r env', ev env = some (r, env') → ∃ b, r = .val (.bl b)) : PT X e (tTv G ev) := by
  refine h.imp fun σ H Q ⟨Z, env, r, env', b, g, h, hb', q⟩ => ht σ H _ ⟨Z, env, r, env', g, h, fun v H' p ro => ?_⟩
  obtain ⟨c, rfl⟩ := hb env r env' h
  have e : c = b := by simpa [truD, Rs.d] using hb'
  subst e
  cases (show Rep G.K H' (Av σ env' Z) v (.bl c) from ro)
  exact ⟨c, rfl, q H' p⟩
def evNot (ev : En → Option (Rs × En)) : En → Option (Rs × En) := fun env => match ev env with
  | some (r, env1) => (truD r.d).map fun b => (.val (.bl (!b)), env1)
  | none => none
theorem evNot_inv {ev : En → Option (Rs × En)} {env env' : En} {r : Rs} (h : evNot ev env = some (r, env')) : ∃ r1 b, ev env = some (r1, env') ∧ truD r1.d = some b ∧ r = .val (.bl (!b)) := by
  unfold evNot at h
  cases h1 : ev env with
  | none => rw [h1] at h; cases h
  | some p =>
    obtain ⟨r1, env1⟩ := p
    rw [h1] at h
    cases h2 : truD r1.d with
    | none => simp only [h2, Option.map_none] at h; cases h
    | some b =>
      simp only [h2, Option.map_some, Option.some.injEq, Prod.mk.injEq] at h
      obtain ⟨rfl, rfl⟩ := h
      exact ⟨r1, b, rfl, h2, rfl⟩
theorem pe_not' {a : Expr} {pos : Pos} {ev : En → Option (Rs × En)} (hK : X.K = G.K) (h : PE X a (tEv G ev)) : PE X (.UnaryOp .Not a pos) (tEv G (evNot ev)) := by
  refine (pe_notT h).imp fun σ H Q ⟨Z, env, r, env', g, h, q⟩ => ?_
  obtain ⟨r1, b, h1, h2, rfl⟩ := evNot_inv h
  refine ⟨Z, env, r1, env', g, h1, fun v H' p ro => ⟨b, ?_, q _ H' p (.bl _)⟩⟩
  rw [hK]
  exact tru_ar (.inl (ro.rep g)) h2
theorem pt_not' {a : Expr} {pos : Pos} {ev : En → Option (Rs × En)} (h : PT X a (tTv G ev)) : PT X (.UnaryOp .Not a pos) (tTv G (evNot ev)) := by
  refine (pt_not h).imp fun σ H Q ⟨Z, env, r, env', b, g, h, hb, q⟩ => ?_
  obtain ⟨r1, c, h1, h2, rfl⟩ := evNot_inv h
  have e : (!c) = b := by simpa [truD, Rs.d] using hb
  refine ⟨Z, env, r1, env', c, g, h1, h2, fun H' p => ?_⟩
  show Q (!c) H'
  rw [e]; exact q H' p
def evAnd (ev ev' : En → Option (Rs × En)) : En → Option (Rs × En) := fun env => match ev env with
  | some (r, env1) => match truD r.d with
    | some true => ev' env1
    | some false => some (.val r.d, env1)
    | none => none
  | none => none
def evOr (ev ev' : En → Option (Rs × En)) : En → Option (Rs × En) := fun env => match ev env with
  | some (r, env1) => match truD r.d with
    | some true => some (.val r.d, env1)
    | some false => ev' env1
    | none => none
  | none => none
theorem evAnd_inv {ev ev' : En → Option (Rs × En)} {env env' : En} {r : Rs} (h : evAnd ev ev' env = some (r, env')) :
    ∃ r1 env1, ev env = some (r1, env1) ∧ ((truD r1.d = some true ∧ ev' env1 = some (r, env')) ∨ (truD r1.d = some false ∧ r = .val r1.d ∧ env' = env1)) := by
  unfold evAnd at h
  cases h1 : ev env with
  | none => rw [h1] at h; cases h
  | some p =>
    obtain ⟨r1, env1⟩ := p
    rw [h1] at h
    refine ⟨r1, env1, rfl, ?_⟩
    cases h2 : truD r1.d with
    | none => simp only [h2] at h; cases h
    | some b =>
      cases b with
      | true => simp only [h2] at h; exact .inl ⟨rfl, h⟩
      | false =>
        simp only [h2, Option.some.injEq, Prod.mk.injEq] at h
        exact .inr ⟨rfl, h.1.symm, h.2.symm⟩
theorem evOr_inv {ev ev' : En → Option (Rs × En)} {env env' : En} {r : Rs} (h : evOr ev ev' env = some (r, env')) :
    ∃ r1 env1, ev env = some (r1, env1) ∧ ((truD r1.d = some false ∧ ev' env1 = some (r, env')) ∨ (truD r1.d = some true ∧ r = .val r1.d ∧ env' = env1)) := by
  unfold evOr at h
  cases h1 : ev env with
  | none => rw [h1] at h; cases h
  | some p =>
    obtain ⟨r1, env1⟩ := p
    rw [h1] at h
    refine ⟨r1, env1, rfl, ?_⟩
    cases h2 : truD r1.d with
    | none => simp only [h2] at h; cases h
    | some b =>
      cases b with
      | false => simp only [h2] at h; exact .inl ⟨rfl, h⟩
      | true =>
        simp only [h2, Option.some.injEq, Prod.mk.injEq] at h
        exact .inr ⟨rfl, h.1.symm, h.2.symm⟩
/-- a result that came ahead of more -/
theorem ResOk.after {Z : Ys} {σ : L2.St} {H H1 H2 : Hp} {env env1 env2 : En} {v : V} {r : Rs} (p1 : Post G Z σ H env σ H1 env1) (h : ResOk G Z σ H1 H2 env2 v r) : ResOk G Z σ H H2 env2 v r := by
  cases r with
  | val d => exact h
  | fr d =>
    obtain ⟨p, e, hp, g, b⟩ := h
    exact ⟨p, e, p1.there p hp, g, b⟩
theorem pe_and' {a b : Expr} {rest : List Expr} {pos : Pos} {ev ev' : En → Option (Rs × En)} (hK : X.K = G.K) (ha : PE X a (tEv G ev)) (hb : PE X (.BoolOp .And (b :: rest) pos) (tEv G ev')) : PE X (.BoolOp .And (a :: b :: rest) pos) (tEv G (evAnd ev ev')) := by
  refine (pe_andT ha hb).imp fun σ H Q ⟨Z, env, r, env', g, h, q⟩ => ?_
  obtain ⟨r1, env1, h1, h2⟩ := evAnd_inv h
  refine ⟨Z, env, r1, env1, g, h1, fun v H' p ro => ?_⟩
  rcases h2 with ⟨ht, h2⟩ | ⟨ht, rfl, rfl⟩
  · refine ⟨true, by rw [hK]; exact tru_ar (.inl (ro.rep g)) ht, ?_⟩
    exact iteT ⟨Z, env1, r, env', p.good, h2, fun w H2 p2 ro2 => q w H2 (p.trans p2) (ro2.after p)⟩
  · refine ⟨false, by rw [hK]; exact tru_ar (.inl (ro.rep g)) ht, ?_⟩
    exact iteF (q v H' p (ro.rep g))
theorem pe_or' {a b : Expr} {rest : List Expr} {pos : Pos} {ev ev' : En → Option (Rs × En)} (hK : X.K = G.K) (ha : PE X a (tEv G ev)) (hb : PE X (.BoolOp .Or (b :: rest) pos) (tEv G ev')) : PE X (.BoolOp .Or (a :: b :: rest) pos) (tEv G (evOr ev ev')) := by
  refine (pe_orT ha hb).imp fun σ H Q ⟨Z, env, r, env', g, h, q⟩ => ?_
  obtain ⟨r1, env1, h1, h2⟩ := evOr_inv h
  refine ⟨Z, env, r1, env1, g, h1, fun v H' p ro => ?_⟩
  rcases h2 with ⟨ht, h2⟩ | ⟨ht, rfl, rfl⟩
  · refine ⟨false, by rw [hK]; exact tru_ar (.inl (ro.rep g)) ht, ?_⟩
    exact iteF ⟨Z, env1, r, env', p.good, h2, fun w H2 p2 ro2 => q w H2 (p.trans p2) (ro2.after p)⟩
  · refine ⟨true, by rw [hK]; exact tru_ar (.inl (ro.rep g)) ht, ?_⟩
    exact iteT (q v H' p (ro.rep g))
theorem pw_and' {a b : Expr} {rest : List Expr} {pos : Pos} {ev ev' : En → Option (Rs × En)} (ha : PT X a (tTv G ev)) (hb : PW X (.BoolOp .And (b :: rest) pos) (tTv G ev')) : PW X (.BoolOp .And (a :: b :: rest) pos) (tTv G (evAnd ev ev')) := by
  refine (pw_and ha hb).imp fun σ H Q ⟨Z, env, r, env', k, g, h, hk, q⟩ => ?_
  obtain ⟨r1, env1, h1, h2⟩ := evAnd_inv h
  rcases h2 with ⟨ht, h2⟩ | ⟨ht, rfl, rfl⟩
  · exact ⟨Z, env, r1, env1, true, g, h1, ht, fun H' p => iteT ⟨Z, env1, r, env', k, p.good, h2, hk, fun H2 p2 => q H2 (p.trans p2)⟩⟩
  · refine ⟨Z, env, r1, _, false, g, h1, ht, fun H' p => iteF ?_⟩
    have e : some false = some k := ht.symm.trans hk
    cases e
    exact q H' p
theorem pw_or' {a b : Expr} {rest : List Expr} {pos : Pos} {ev ev' : En → Option (Rs × En)} (ha : PT X a (tTv G ev)) (hb : PW X (.BoolOp .Or (b :: rest) pos) (tTv G ev')) : PW X (.BoolOp .Or (a :: b :: rest) pos) (tTv G (evOr ev ev')) := by
  refine (pw_or ha hb).imp fun σ H Q ⟨Z, env, r, env', k, g, h, hk, q⟩ => ?_
  obtain ⟨r1, env1, h1, h2⟩ := evOr_inv h
  rcases h2 with ⟨ht, h2⟩ | ⟨ht, rfl, rfl⟩
  · exact ⟨Z, env, r1, env1, false, g, h1, ht, fun H' p => iteF ⟨Z, env1, r, env', k, p.good, h2, hk, fun H2 p2 => q H2 (p.trans p2)⟩⟩
  · refine ⟨Z, env, r1, _, true, g, h1, ht, fun H' p => iteT ?_⟩
    have e : some true = some k := ht.symm.trans hk
    cases e
    exact q H' p
def evIf (ec ea eb : En → Option (Rs × En)) : En → Option (Rs × En) := fun env => match ec env with
  | some (r, env1) => match truD r.d with
    | some true => ea env1
    | some false => eb env1
    | none => none
  | none => none
theorem evIf_inv {ec ea eb : En → Option (Rs × En)} {env env' : En} {r : Rs} (h : evIf ec ea eb env = some (r, env')) :
    ∃ r1 env1 b, ec env = some (r1, env1) ∧ truD r1.d = some b ∧ (if b then ea env1 else eb env1) = some (r, env') := by
  unfold evIf at h
  cases h1 : ec env with
  | none => rw [h1] at h; cases h
  | some p =>
    obtain ⟨r1, env1⟩ := p
    rw [h1] at h
    cases h2 : truD r1.d with
    | none => simp only [h2] at h; cases h
    | some b =>
      refine ⟨r1, env1, b, rfl, h2, ?_⟩
      cases b <;> simp only [h2] at h <;> simpa using h
theorem pe_if' {c a b : Expr} {pos : Pos} {ec ea eb : En → Option (Rs × En)} (hc : PT X c (tTv G ec)) (ha : PE X a (tEv G ea)) (hb : PE X b (tEv G eb)) : PE X (.IfExp c a b pos) (tEv G (evIf ec ea eb)) := by
  refine (pe_ifExp hc ha hb).imp fun σ H Q ⟨Z, env, r, env', g, h, q⟩ => ?_
  obtain ⟨r1, env1, b, h1, h2, h3⟩ := evIf_inv h
  refine ⟨Z, env, r1, env1, b, g, h1, h2, fun H' p => ?_⟩
  cases b with
  | true => exact iteT ⟨Z, env1, r, env', p.good, by simpa using h3, fun w H2 p2 ro2 => q w H2 (p.trans p2) (ro2.after p)⟩
  | false => exact iteF ⟨Z, env1, r, env', p.good, by simpa using h3, fun w H2 p2 ro2 => q w H2 (p.trans p2) (ro2.after p)⟩
def evChain (p q : CmpOp) (ea eb ec : En → Option (Rs × En)) : En → Option (Rs × En) := fun env => match ea env with
    | some (ra, env1) => match eb env1 with
      | some (rb, env2) => match cmpD p ra.d rb.d with
        | some true => match ec env2 with
          | some (rc, env3) => (cmpD q rb.d rc.d).map fun k => (.val (.bl k), env3)
          | none => none
        | some false => some (.val (.bl false), env2)
        | none => none
      | none => none
    | none => none
theorem evChain_inv {p q : CmpOp} {ea eb ec : En → Option (Rs × En)} {env env' : En} {r : Rs} (h : evChain p q ea eb ec env = some (r, env')) :
    ∃ ra env1 rb env2, ea env = some (ra, env1) ∧ eb env1 = some (rb, env2) ∧
      ((cmpD p ra.d rb.d = some true ∧ ∃ rc k, ec env2 = some (rc, env') ∧ cmpD q rb.d rc.d = some k ∧ r = .val (.bl k)) ∨ (cmpD p ra.d rb.d = some false ∧ r = .val (.bl false) ∧ env' = env2)) := by
  unfold evChain at h
  cases h1 : ea env with
  | none => rw [h1] at h; cases h
  | some x =>
    obtain ⟨ra, env1⟩ := x
    rw [h1] at h
    cases h2 : eb env1 with
    | none => simp only [h2] at h; cases h
    | some y =>
      obtain ⟨rb, env2⟩ := y
      simp only [h2] at h
      refine ⟨ra, env1, rb, env2, rfl, h2, ?_⟩
      cases h3 : cmpD p ra.d rb.d with
      | none => simp only [h3] at h; cases h
      | some b =>
        cases b with
        | false =>
          simp only [h3, Option.some.injEq, Prod.mk.injEq] at h
          exact .inr ⟨rfl, h.1.symm, h.2.symm⟩
        | true =>
          simp only [h3] at h
          cases h4 : ec env2 with
          | none => simp only [h4] at h; cases h
          | some z =>
            obtain ⟨rc, env3⟩ := z
            simp only [h4] at h
            cases h5 : cmpD q rb.d rc.d with
            | none => simp only [h5, Option.map_none] at h; cases h
            | some k =>
              simp only [h5, Option.map_some, Option.some.injEq, Prod.mk.injEq] at h
              obtain ⟨rfl, rfl⟩ := h
              exact .inl ⟨rfl, rc, k, rfl, h5, rfl⟩
theorem chain_red {p q : CmpOp} {ea eb ec : En → Option (Rs × En)} (hK : X.K = G.K) (σ : L2.St) (H : Hp) (Q : VK) (h : tEv G (evChain p q ea eb ec) σ H Q) :
    tChain (fun x y => rTag X.K (.cmp p) [x, y]) (fun x y => rTag X.K (.cmp q) [x, y]) (tEv G ea) (tEv G eb) (tEv G ec) σ H Q := by
  obtain ⟨Z, env, r, env', g, h, k⟩ := h
  obtain ⟨ra, env1, rb, env2, h1, h2, h3⟩ := evChain_inv h
  refine ⟨Z, env, ra, env1, g, h1, fun x H1 p1 r1 => ⟨Z, env1, rb, env2, p1.good, h2, fun y H2 p2 r2 => ?_⟩⟩
  have rx : Rep G.K H2 (Av σ env2 Z) x ra.d := p2.rep (r1.rep g)
  have ry : Rep G.K H2 (Av σ env2 Z) y rb.d := r2.rep p1.good
  rw [hK]
  rcases h3 with ⟨hc, rc, j, h4, h5, rfl⟩ | ⟨hc, rfl, rfl⟩
  · refine ⟨Av σ env2 Z, [ra.d, rb.d], .val (.bl true), fun a y => p2.good.avdom y, .cons (.inl rx) (.cons (.inl ry) .nil), by simp [primD, prCmp, hc], fun v H3 s pr => ?_⟩
    cases (show Rep G.K H3 (Av σ env2 Z) v (.bl true) from pr)
    have p3 : Post G Z σ H2 env2 σ H3 env2 := Post.same p2.good s
    refine ⟨true, rfl, iteT ⟨Z, env2, rc, env', p3.good, h4, fun w H4 p4 r4 => ?_⟩⟩
    have ry' : Rep G.K H4 (Av σ env' Z) y rb.d := p4.rep (p3.rep ry)
    refine ⟨Av σ env' Z, [rb.d, rc.d], .val (.bl j), fun a y => p4.good.avdom y, .cons (.inl ry') (.cons (.inl (r4.rep p3.good)) .nil), by simp [primD, prCmp, h5], fun v H5 s pr => ?_⟩
    exact k v H5 ((((p1.trans p2).trans p3).trans p4).trans (Post.same p4.good s)) pr
  · refine ⟨Av σ _ Z, [ra.d, rb.d], .val (.bl false), fun a y => p2.good.avdom y, .cons (.inl rx) (.cons (.inl ry) .nil), by simp [primD, prCmp, hc], fun v H3 s pr => ?_⟩
    cases (show Rep G.K H3 (Av σ _ Z) v (.bl false) from pr)
    exact ⟨false, rfl, iteF (k _ H3 ((p1.trans p2).trans (Post.same p2.good s)) (.bl false))⟩
theorem evChain_bl {p q : CmpOp} {ea eb ec : En → Option (Rs × En)} (env : En) (r : Rs) (env' : En) (h : evChain p q ea eb ec env = some (r, env')) : ∃ b, r = .val (.bl b) := by
  obtain ⟨_, _, _, _, _, _, h3⟩ := evChain_inv h
  rcases h3 with ⟨_, _, k, _, _, e⟩ | ⟨_, e, _⟩
  · exact ⟨k, e⟩
  · exact ⟨false, e⟩
end
end Ofw
/-! Ofw G3: ranges of any ints, walked -/
namespace Ofw
open PySem L2
open PySem.Spec PyProof.Rows
theorem turn_long {P : Program} {w : World} {K : PySem.W.Frag} {tg : Expr} (it : Addr) (lo : Int) (n : Nat) : Turn P w K tg (Itr lo n) [it] it (fun i h => IsLongIter h it (lo + (i : Nat) * 1) ((n : Int) - (i : Nat)) 1) where
  mem := by simp
  obj := fun i h st b hb => by
    have e : b = it := by simpa using hb
    subst e
    exact ⟨_, st, fun v z => by
      have z' : Data.fields _ = Data.cell v := z
      cases z'⟩
  keep := fun i h h' st k => k it (by simp) _ st
  item := by
    intro X hP hw hK hc i pins s σ H E I hf st hg
    subst hP hw hK
    obtain ⟨f0, f1, f2, f3, f4, f5⟩ := hf it (by simp)
    have W := Walks.longrange (prog := X.prog) (w := X.w) (I.ok.hd hc) it lo 1 n
    refine W.item i s _ _ hg st fun v h' tk hv st' kk => ?_
    obtain ⟨t, rfl⟩ := hv
    have I1 : Inv X pins σ H { s with heap := h', toks := tk } := I.turned (fun b o hb e => kk b o (by simpa using hb) e) f0 f1 f3 f4 f5
    refine ⟨_, rfl, go_of (s := { s with heap := h', toks := tk }) (n := "longrange_iterator") st' rfl rfl (by decide) ⟨.int (lo + i), H, I1, ⟨t, ?_⟩, ⟨rfl, rfl⟩, st', fun b hb => (hf b hb).1⟩⟩
    rw [Int.mul_one]
  done := by
    intro X hP hw hK hc i pins s σ H E I hf st hg
    subst hP hw hK
    obtain ⟨f0, f1, f2, f3, f4, f5⟩ := hf it (by simp)
    exact wpAny_pyNext_long_end (I.ok.hd hc) st (by have : n ≤ i := hg; omega) fun h' eb => ⟨rfl, I.turned (t' := s.toks) (fun b o hb e => eb b o hb e) f0 f1 f3 f4 f5⟩
  self := fun _ _ _ _ _ st h => wpAny_pyIter_longiter st h
section
variable {X : Cx} {tg : Expr}
/-- a range of any bounds, just made, walked -/
theorem range_itA {pins : List (Addr × Obj)} {σ : L2.St} {H : Hp} {s : Shared} {R : It → Hp → Prop} {E : Value → Shared → Prop} {lo hi : Int} {t u v : Tok} {tk : Nat} (I : Inv X pins σ H s)
    (q : R (Itr lo (hi - lo).toNat) H) : wpAny (model X.prog X.w) X.A (pyIter (.ref s.heap.objs.size)) (PIE X pins σ tg R) E { s with heap := s.heap.push { cls := .type "range", data := .fields #[.int lo t, .int hi u, .int 1 v] }, toks := tk } := by
  have I1 : Inv X pins σ H { s with heap := s.heap.push { cls := .type "range", data := .fields #[.int lo t, .int hi u, .int 1 v] }, toks := tk } := I.kept fun b o e => Heap.get?_push_of_some _ e
  have e1 : lo + ((0 : Nat) : Int) * 1 = lo := by simp
  have e2 : (((hi - lo).toNat : Nat) : Int) - ((0 : Nat) : Int) = Builtin.Range.rangeSize lo hi 1 := by rw [rangeSize_one]; split <;> omega
  cases hs : Builtin.Range.small lo hi 1 with
  | true =>
    refine wpAny_pyIter_range (IsRange.new ..) hs ?_
    refine ⟨(s.heap.push { cls := .type "range", data := .fields #[.int lo t, .int hi u, .int 1 v] }).objs.size, [(s.heap.push { cls := .type "range", data := .fields #[.int lo t, .int hi u, .int 1 v] }).objs.size], _, _, H, rfl,
      I1.kept (t' := tk) fun b o e => Heap.get?_push_of_some _ e, turn_range _ lo (hi - lo).toNat, ?_, fun b hb => ?_, q⟩
    · show IsRangeIter _ _ (lo + ((0 : Nat) : Int) * 1) ((((hi - lo).toNat : Nat) : Int) - ((0 : Nat) : Int)) 1
      rw [e1, e2]
      exact Heap.get?_push_size _ rfl
    · have e : b = (s.heap.push { cls := .type "range", data := .fields #[.int lo t, .int hi u, .int 1 v] }).objs.size := by simpa using hb
      subst e
      exact I1.fpOk (Nat.le_refl _) (I1.hok.fresh (Nat.le_refl _))
  | false =>
    refine wpAny_pyIter_longrange (IsRange.new ..) hs ?_
    refine ⟨(s.heap.push { cls := .type "range", data := .fields #[.int lo t, .int hi u, .int 1 v] }).objs.size, [(s.heap.push { cls := .type "range", data := .fields #[.int lo t, .int hi u, .int 1 v] }).objs.size], _, _, H, rfl,
      I1.kept (t' := tk) fun b o e => Heap.get?_push_of_some _ e, turn_long _ lo (hi - lo).toNat, ?_, fun b hb => ?_, q⟩
    · show IsLongIter _ _ (lo + ((0 : Nat) : Int) * 1) ((((hi - lo).toNat : Nat) : Int) - ((0 : Nat) : Int)) 1
      rw [e1, e2]
      exact Heap.get?_push_size _ rfl
    · have e : b = (s.heap.push { cls := .type "range", data := .fields #[.int lo t, .int hi u, .int 1 v] }).objs.size := by simpa using hb
      subst e
      exact I1.fpOk (Nat.le_refl _) (I1.hok.fresh (Nat.le_refl _))
def iRngA (ta : TA) : TI := fun σ H R => ta σ H fun vs H1 => ∃ i j : Int, vs = [.int i, .int j] ∧ R (Itr i (j - i).toNat) H1
theorem pi_rangeA {a b : Expr} {ta : TA} {p pos : Pos} (hg : Gl X "range") (hm : X.mg "range" = none) (ha : PA X [a, b] ta) (hs : starEach [a, b] X.env = [(false, eval a X.env), (false, eval b X.env)]) (hs2 : starEach [b] X.env = [(false, eval b X.env)]) :
    PI X tg (.Call (.Name "range" p) [a, b] [] pos) (iRngA ta) := by
  refine ⟨fun pins s σ H R I h => ?_⟩
  refine Call_ (ld_blt I hg hm boot_range (PyProof.Rows.callWith_type1 (thn (ha.run pos pins s σ H _ I h) fun us s1 ⟨vs, H1, I1, r1, q1⟩ => ?_) (by rw [hs, hs2]) (by rw [hs2]; rfl)))
  obtain ⟨i, j, e, q⟩ := q1
  subst e
  cases r1 with
  | cons r rr =>
    cases rr with
    | cons r' rr =>
      cases rr
      obtain ⟨t, rfl⟩ := r
      obtain ⟨t', rfl⟩ := r'
      exact call_range_2 (range_itA I1 q)
end
end Ofw
/-! Ofw 9: what is walked; comprehensions -/
namespace Ofw
open PySem L2
/-- an iterator's turns are the items -/
structure Walk (K : PySem.W.Frag) (J : It) (S : Hp → Ys → Prop) (its : List D) : Prop where
  go : ∀ (i : Nat) (H : Hp) (Y : Ys), S H Y → i < its.length → J.go i H
  yld : ∀ (i : Nat) (H : Hp) (Y : Ys) (x : V) (H' : Hp), S H Y → (∀ a, Y a → H a ≠ none) → i < its.length → J.yld i H x H' → ∃ d, its[i]? = some d ∧ Same H H' ∧ Rep K H' Y x d
  stop : ∀ (H : Hp) (Y : Ys), S H Y → J.stop its.length H
  stab : ∀ (H H' : Hp) (Y Y' : Ys), Fr1 H H' Y Y' → S H Y → S H' Y'
/-- what is walked stands -/
def SR (K : PySem.W.Frag) (vs : List V) (ds : List D) : Hp → Ys → Prop := fun H Y => Reps K H Y vs ds
section
variable {K : PySem.W.Frag}
theorem Rep.lstA {H : Hp} {Y : Ys} {v : V} {ds : List D} (h : Rep K H Y v (.lst ds)) : ∃ a vs, v = .ref a ∧ H a = some (.lst vs) ∧ Reps K H Y vs ds := AR.lst (.inl h)
theorem lst_at {H : Hp} {Y : Ys} {a : Addr} {ds : List D} (h : Rep K H Y (.ref a) (.lst ds)) : ∃ vs, SqL K H a vs ∧ Reps K H Y vs ds := by
  obtain ⟨b, vs, e, h, r⟩ := h.lstA
  cases e
  exact ⟨vs, SqL.of h, r⟩
theorem scr_at {H : Hp} {Y : Ys} {a : Addr} {ns : List Int} (h : Rep K H Y (.ref a) (.scr ns)) : SqL K H a (ns.map V.int) := by
  obtain ⟨b, e, r⟩ := AR.scr (.inl h)
  cases e
  exact r
theorem reps1 {H : Hp} {Y : Ys} {v : V} {d : D} (h : Reps K H Y [v] [d]) : Rep K H Y v d := by
  cases h with
  | cons h _ => exact h
theorem reps2 {H : Hp} {Y : Ys} {v w : V} {d e : D} (h : Reps K H Y [v, w] [d, e]) : Rep K H Y v d ∧ Rep K H Y w e := by
  cases h with
  | cons h r => exact ⟨h, reps1 r⟩
theorem walk_lst {a : Addr} {ds : List D} : Walk K (Itl K a) (SR K [.ref a] [.lst ds]) ds where
  stab := fun _ _ _ _ f r => Reps.fr f r
  go := fun i H Y r h => by
    obtain ⟨vs, sq, rr⟩ := lst_at (reps1 r)
    obtain ⟨v, hv, _⟩ := rr.get (List.getElem?_eq_getElem h)
    exact ⟨vs, v, sq, hv⟩
  yld := fun i H Y x H' r hY h ⟨e, hx⟩ => by
    obtain ⟨vs, sq, rr⟩ := lst_at (reps1 r)
    obtain ⟨d, hd, rp⟩ := rr.get' (hx vs sq)
    exact ⟨d, hd, by rw [e]; exact Same.refl H, by rw [e]; exact rp⟩
  stop := fun H Y r => by
    obtain ⟨vs, sq, rr⟩ := lst_at (reps1 r)
    exact ⟨vs, sq, Nat.le_of_eq rr.len⟩
theorem walk_scr {a : Addr} {ns : List Int} : Walk K (Itl K a) (SR K [.ref a] [.scr ns]) (ns.map D.int) where
  stab := fun _ _ _ _ f r => Reps.fr f r
  go := fun i H Y r h => by
    have sq := scr_at (reps1 r)
    rw [List.length_map] at h
    exact ⟨_, _, sq, List.getElem?_eq_getElem (by rw [List.length_map]; exact h)⟩
  yld := fun i H Y x H' r hY h ⟨e, hx⟩ => by
    have sq := scr_at (reps1 r)
    have hx := hx _ sq
    rw [List.getElem?_map] at hx
    cases hn : ns[i]? with
    | none => rw [hn] at hx; cases hx
    | some n =>
      rw [hn] at hx
      simp only [Option.map_some, Option.some.injEq] at hx
      subst hx
      exact ⟨.int n, by rw [List.getElem?_map, hn]; rfl, by rw [e]; exact Same.refl H, .int n⟩
  stop := fun H Y r => ⟨_, scr_at (reps1 r), by simp⟩
theorem walk_tup {a : Addr} {ds : List D} : Walk K (Itt K a) (SR K [.ref a] [.tup ds]) ds where
  stab := fun _ _ _ _ f r => Reps.fr f r
  go := fun i H Y r h => by
    obtain ⟨vs, sq, rr⟩ := sqT_of (reps1 r)
    obtain ⟨v, hv, _⟩ := rr.get (List.getElem?_eq_getElem h)
    exact ⟨vs, v, sq, hv⟩
  yld := fun i H Y x H' r hY h ⟨e, hx⟩ => by
    obtain ⟨vs, sq, rr⟩ := sqT_of (reps1 r)
    obtain ⟨d, hd, rp⟩ := rr.get' (hx vs sq)
    exact ⟨d, hd, by rw [e]; exact Same.refl H, by rw [e]; exact rp⟩
  stop := fun H Y r => by
    obtain ⟨vs, sq, rr⟩ := sqT_of (reps1 r)
    exact ⟨vs, sq, Nat.le_of_eq rr.len⟩
theorem rngD_len (lo hi : Int) : (rngD lo hi).length = (hi - lo).toNat := by simp [rngD]
theorem walk_rng {vs : List V} {ds : List D} (lo hi : Int) : Walk K (Itr lo (hi - lo).toNat) (SR K vs ds) (rngD lo hi) where
  stab := fun _ _ _ _ f r => Reps.fr f r
  go := fun i H Y r h => by rw [rngD_len] at h; exact h
  yld := fun i H Y x H' r hY h ⟨e, hx⟩ => by
    rw [rngD_len] at h
    refine ⟨.int (lo + i), by simp [rngD, h], by rw [e]; exact Same.refl H, by rw [hx]; exact .int _⟩
  stop := fun H Y r => by show (hi - lo).toNat ≤ (rngD lo hi).length; rw [rngD_len]; exact Nat.le_refl _
theorem walk_str {x : Str} {vs : List V} {ds : List D} : Walk K (Its x) (SR K vs ds) (x.cps.toList.map fun c => D.str ⟨#[c]⟩) where
  stab := fun _ _ _ _ f r => Reps.fr f r
  go := fun i H Y r h => by rw [List.length_map, Array.length_toList] at h; exact h
  yld := fun i H Y v H' r hY h ⟨e, c, hc, hv⟩ => by
    refine ⟨.str ⟨#[c]⟩, ?_, by rw [e]; exact Same.refl H, by rw [hv]; exact .str _⟩
    rw [List.getElem?_map, Array.getElem?_toList, hc]; rfl
  stop := fun H Y r => by show x.cps.size ≤ _; rw [List.length_map, Array.length_toList]; exact Nat.le_refl _
theorem walk_down {vs : List V} {ds : List D} (lo hi c : Int) (n : Nat) : Walk K (Itc lo c n) (SR K vs ds) ((List.range n).map fun (k : Nat) => D.int (lo + (k : Int) * c)) where
  stab := fun _ _ _ _ f r => Reps.fr f r
  go := fun i H Y r h => by simp only [List.length_map, List.length_range] at h; exact h
  yld := fun i H Y x H' r hY h ⟨e, hx⟩ => by
    simp only [List.length_map, List.length_range] at h
    refine ⟨.int (lo + (i : Int) * c), by simp [h], by rw [e]; exact Same.refl H, by rw [hx]; exact .int _⟩
  stop := fun H Y r => by show n ≤ _; simp
theorem enumD_len (ds : List D) : (enumD ds).length = ds.length := by simp [enumD]
theorem pair_new {H : Hp} {Y : Ys} {T : Addr} {x y : V} {d e : D} (hY : ∀ a, Y a → H a ≠ none) (hT : H T = none) (hx : Rep K H Y x d) (hy : Rep K H Y y e) : Rep K (upd H T (.tup [x, y])) Y (.ref T) (.tup [d, e]) :=
  .tup upd_same (fun z => hY T z hT) (.cons (hx.fr (Fr1.same (same_new hT))) (.cons (hy.fr (Fr1.same (same_new hT))) .nil))
theorem walk_enum {a : Addr} {ds : List D} : Walk K (Ite K a) (SR K [.ref a] [.lst ds]) (enumD ds) where
  stab := fun _ _ _ _ f r => Reps.fr f r
  go := fun i H Y r h => by
    rw [enumD_len] at h
    obtain ⟨vs, sq, rr⟩ := lst_at (reps1 r)
    obtain ⟨v, hv, _⟩ := rr.get (List.getElem?_eq_getElem h)
    exact ⟨vs, v, sq, hv⟩
  yld := fun i H Y x H' r hY h ⟨T, z, e, hT, e', hx⟩ => by
    rw [enumD_len] at h
    obtain ⟨vs, sq, rr⟩ := lst_at (reps1 r)
    obtain ⟨d, hd, rp⟩ := rr.get' (hx vs sq)
    refine ⟨.tup [.int (i : Int), d], ?_, by rw [e']; exact same_new hT, ?_⟩
    · unfold enumD
      rw [List.getElem?_map, List.getElem?_range h, Option.map_some, List.getD_eq_getElem?_getD, hd]
      rfl
    · rw [e, e']
      exact pair_new hY hT (.int _) rp
  stop := fun H Y r => by
    obtain ⟨vs, sq, rr⟩ := lst_at (reps1 r)
    exact ⟨vs, sq, by rw [enumD_len]; exact Nat.le_of_eq rr.len⟩
theorem zipD_len (xs ys : List D) : (zipD xs ys).length = min xs.length ys.length := by simp [zipD]
theorem walk_zipL {a b : Addr} {xs ys : List D} : Walk K (Itz K a b) (SR K [.ref a, .ref b] [.lst xs, .lst ys]) (zipD xs ys) where
  stab := fun _ _ _ _ f r => Reps.fr f r
  go := fun i H Y r h => by
    rw [zipD_len] at h
    obtain ⟨r1, r2⟩ := reps2 r
    obtain ⟨vs, sq, rr⟩ := lst_at r1
    obtain ⟨ws, sq', rr'⟩ := lst_at r2
    obtain ⟨v, hv, _⟩ := rr.get (List.getElem?_eq_getElem (show i < xs.length by omega))
    obtain ⟨w, hw, _⟩ := rr'.get (List.getElem?_eq_getElem (show i < ys.length by omega))
    exact ⟨vs, ws, v, w, sq, sq', hv, hw⟩
  yld := fun i H Y x H' r hY h ⟨T, z, z', e, hT, e', hx, hy⟩ => by
    rw [zipD_len] at h
    obtain ⟨r1, r2⟩ := reps2 r
    obtain ⟨vs, sq, rr⟩ := lst_at r1
    obtain ⟨ws, sq', rr'⟩ := lst_at r2
    obtain ⟨d, hd, rp⟩ := rr.get' (hx vs sq)
    obtain ⟨d', hd', rp'⟩ := rr'.get' (hy ws sq')
    refine ⟨.tup [d, d'], ?_, by rw [e']; exact same_new hT, ?_⟩
    · unfold zipD
      rw [List.getElem?_map, List.getElem?_range h, Option.map_some, List.getD_eq_getElem?_getD, List.getD_eq_getElem?_getD, hd, hd']
      rfl
    · rw [e, e']
      exact pair_new hY hT rp rp'
  stop := fun H Y r => by
    obtain ⟨r1, r2⟩ := reps2 r
    obtain ⟨vs, sq, rr⟩ := lst_at r1
    obtain ⟨ws, sq', rr'⟩ := lst_at r2
    have := rr.len
    have := rr'.len
    exact ⟨vs, ws, sq, sq', by rw [zipD_len]; omega⟩
theorem walk_zipT {a b : Addr} {xs ys : List D} : Walk K (RZ.ItzT K a b) (SR K [.ref a, .ref b] [.tup xs, .tup ys]) (zipD xs ys) where
  stab := fun _ _ _ _ f r => Reps.fr f r
  go := fun i H Y r h => by
    rw [zipD_len] at h
    obtain ⟨r1, r2⟩ := reps2 r
    obtain ⟨vs, sq, rr⟩ := sqT_of r1
    obtain ⟨ws, sq', rr'⟩ := sqT_of r2
    obtain ⟨v, hv, _⟩ := rr.get (List.getElem?_eq_getElem (show i < xs.length by omega))
    obtain ⟨w, hw, _⟩ := rr'.get (List.getElem?_eq_getElem (show i < ys.length by omega))
    exact ⟨vs, ws, v, w, sq, sq', hv, hw⟩
  yld := fun i H Y x H' r hY h ⟨T, z, z', e, hT, e', hx, hy⟩ => by
    rw [zipD_len] at h
    obtain ⟨r1, r2⟩ := reps2 r
    obtain ⟨vs, sq, rr⟩ := sqT_of r1
    obtain ⟨ws, sq', rr'⟩ := sqT_of r2
    obtain ⟨d, hd, rp⟩ := rr.get' (hx vs sq)
    obtain ⟨d', hd', rp'⟩ := rr'.get' (hy ws sq')
    refine ⟨.tup [d, d'], ?_, by rw [e']; exact same_new hT, ?_⟩
    · unfold zipD
      rw [List.getElem?_map, List.getElem?_range h, Option.map_some, List.getD_eq_getElem?_getD, List.getD_eq_getElem?_getD, hd, hd']
      rfl
    · rw [e, e']
      exact pair_new hY hT rp rp'
  stop := fun H Y r => by
    obtain ⟨r1, r2⟩ := reps2 r
    obtain ⟨vs, sq, rr⟩ := sqT_of r1
    obtain ⟨ws, sq', rr'⟩ := sqT_of r2
    have := rr.len
    have := rr'.len
    exact ⟨vs, ws, sq, sq', by rw [zipD_len]; omega⟩
end
section
variable (G : Gx) (rf : Nat → List Bool) (C : CallT)
/-- a walk's begin -/
def tIt (k : ItK) (src : List Ex) : TI := fun σ H R => ∃ Z env xs env1 ds its, Good G Z σ H env ∧ evalAs rf C src env = some (xs, env1) ∧ valsOf xs = some ds ∧ itemsD k ds = some its ∧
  ∀ J S H1, Post G Z σ H env σ H1 env1 → S H1 (Av σ env1 Z) → Walk G.K J S its → R J H1
end
section
variable {G : Gx} {rf : Nat → List Bool} {C : CallT} {X : Cx} {tg : Expr}
theorem it_args {k : ItK} {src : List Ex} {σ : L2.St} {H : Hp} {R : It → Hp → Prop} (h : tIt G rf C k src σ H R) :
    ∃ (ds its : List D), itemsD k ds = some its ∧ tArgs G rf C src σ H (fun vs H1 => ∃ Y : Ys, (∀ a, Y a → H1 a ≠ none) ∧ Reps G.K H1 Y vs ds ∧ ∀ J, Walk G.K J (SR G.K vs ds) its → R J H1) := by
  obtain ⟨Z, env, xs, env1, ds, its, g, h1, h2, h3, q⟩ := h
  exact ⟨ds, its, h3, args_ok src g h1 fun vs H1 p ar => ⟨Av σ env1 Z, fun a y => p.good.avdom y, vals_ok ar h2, fun J w => q J (SR G.K vs ds) H1 p (vals_ok ar h2) w⟩⟩
theorem pi_seq' {e : Expr} {ex : Ex} (hp : ∀ i, ex ≠ .peek i) (hK : X.K = G.K) (h : PE X e (tE G rf C ex)) : PI X tg e (tIt G rf C .seq [ex]) := by
  refine (((pi_list h).or (pi_tup h)).or (pi_str h)).imp fun σ H R q => ?_
  obtain ⟨ds, its, hi, ta⟩ := it_args q
  have ta' : tE G rf C ex σ H fun x H1 => ∃ Y : Ys, (∀ a, Y a → H1 a ≠ none) ∧ Reps G.K H1 Y [x] ds ∧ ∀ J, Walk G.K J (SR G.K [x] ds) its → R J H1 := by
    have := ta
    unfold tArgs tCons at this
    rw [tArg_of hp] at this
    exact this
  rw [hK]
  change itSeq ds = some its at hi
  unfold itSeq at hi
  split at hi <;> try cases hi
  · left; left
    obtain ⟨Z, env, r, env', g, h1, q1⟩ := ta'
    refine ⟨Z, env, r, env', g, h1, fun x H1 p ro => ?_⟩
    obtain ⟨Y, hY, rs, w⟩ := q1 x H1 p ro
    obtain ⟨a, vs, rfl, e1, r1⟩ := (reps1 rs).lstA
    exact ⟨a, rfl, ⟨vs, SqL.of e1⟩, w _ walk_lst⟩
  · left; right
    obtain ⟨Z, env, r, env', g, h1, q1⟩ := ta'
    refine ⟨Z, env, r, env', g, h1, fun x H1 p ro => ?_⟩
    obtain ⟨Y, hY, rs, w⟩ := q1 x H1 p ro
    obtain ⟨a, vs, rfl, e1, r1, _⟩ := AR.tup (.inl (reps1 rs))
    exact ⟨a, rfl, ⟨vs, e1⟩, w _ walk_tup⟩
  · left; left
    obtain ⟨Z, env, r, env', g, h1, q1⟩ := ta'
    refine ⟨Z, env, r, env', g, h1, fun x H1 p ro => ?_⟩
    obtain ⟨Y, hY, rs, w⟩ := q1 x H1 p ro
    obtain ⟨a, rfl, r1⟩ := AR.scr (.inl (reps1 rs))
    exact ⟨a, rfl, ⟨_, r1⟩, w _ walk_scr⟩
  · right
    obtain ⟨Z, env, r, env', g, h1, q1⟩ := ta'
    refine ⟨Z, env, r, env', g, h1, fun x H1 p ro => ?_⟩
    obtain ⟨Y, hY, rs, w⟩ := q1 x H1 p ro
    obtain rfl := AR.str (.inl (reps1 rs))
    exact ⟨_, rfl, w _ walk_str⟩
theorem small_of {i : Int} (h : smallI i = true) : -(2 ^ 62) ≤ i ∧ i < 2 ^ 62 := by
  unfold smallI at h
  simpa using h
theorem tArgs_mono {src : List Ex} : ∀ {σ : L2.St} {H : Hp} {Q Q' : List V → Hp → Prop}, (∀ vs H1, Q vs H1 → Q' vs H1) → tArgs G rf C src σ H Q → tArgs G rf C src σ H Q' := by
  induction src with
  | nil => intro σ H Q Q' f h; exact f _ _ h
  | cons a as ih =>
    intro σ H Q Q' f h
    show tArg G rf C a σ H fun x H1 => tArgs G rf C as σ H1 fun xs H2 => Q' (x :: xs) H2
    have h : tArg G rf C a σ H fun x H1 => tArgs G rf C as σ H1 fun xs H2 => Q (x :: xs) H2 := h
    by_cases hp : ∃ i, a = .peek i
    · obtain ⟨i, rfl⟩ := hp
      obtain ⟨v, hv, q⟩ := h
      exact ⟨v, hv, ih (fun vs H1 => f _ _) q⟩
    · rw [tArg_of fun i e => hp ⟨i, e⟩] at h ⊢
      obtain ⟨Z, env, r, env', g, h1, q⟩ := h
      exact ⟨Z, env, r, env', g, h1, fun v H' p ro => ih (fun vs H1 => f _ _) (q v H' p ro)⟩
theorem pi_rng1' {a : Expr} {p pos : Pos} {src : List Ex} (hg : Gl X "range") (hm : X.mg "range" = none) (ha : PA X [a] (tArgs G rf C src)) (hs : starEach [a] X.env = [(false, eval a X.env)]) : PI X tg (.Call (.Name "range" p) [a] [] pos) (tIt G rf C .rng1 src) := by
  refine (pi_range1 hg hm ha hs).imp fun σ H R q => ?_
  obtain ⟨ds, its, hi, ta⟩ := it_args q
  change itRng1 ds = some its at hi
  unfold itRng1 at hi
  split at hi <;> try cases hi
  split at hi <;> try cases hi
  rename_i j hj
  refine tArgs_mono (fun vs H1 ⟨Y, hY, rs, w⟩ => ?_) ta
  cases rs with
  | cons r1 r2 =>
    cases r2
    cases r1
    have hj := small_of hj
    refine ⟨j, rfl, hj.1, hj.2, ?_⟩
    have := w (Itr 0 (j - 0).toNat) (walk_rng 0 j)
    rw [Int.sub_zero] at this
    exact this
theorem pi_rng2' {a b : Expr} {p pos : Pos} {src : List Ex} (hg : Gl X "range") (hm : X.mg "range" = none) (ha : PA X [a, b] (tArgs G rf C src)) (hs : starEach [a, b] X.env = [(false, eval a X.env), (false, eval b X.env)]) (hs2 : starEach [b] X.env = [(false, eval b X.env)]) :
    PI X tg (.Call (.Name "range" p) [a, b] [] pos) (tIt G rf C .rng2 src) := by
  refine (pi_rangeA hg hm ha hs hs2).imp fun σ H R q => ?_
  obtain ⟨ds, its, hi, ta⟩ := it_args q
  change itRng2 ds = some its at hi
  unfold itRng2 at hi
  split at hi <;> try cases hi
  rename_i i j
  refine tArgs_mono (fun vs H1 ⟨Y, hY, rs, w⟩ => ?_) ta
  cases rs with
  | cons r1 r2 =>
    cases r2 with
    | cons r2 r3 =>
      cases r3
      cases r1
      cases r2
      exact ⟨i, j, rfl, w _ (walk_rng i j)⟩
theorem pi_rng3' {a b c : Expr} {p pos : Pos} {src : List Ex} (hg : Gl X "range") (hm : X.mg "range" = none) (ha : PA X [a, b, c] (tArgs G rf C src)) (hs : starEach [a, b, c] X.env = (false, eval a X.env) :: starEach [b, c] X.env) (hpl : (backTo pos (starEach [b, c] X.env)).any (·.1) = false) :
    PI X tg (.Call (.Name "range" p) [a, b, c] [] pos) (tIt G rf C .rng3 src) := by
  refine (pi_range3 hg hm ha hs hpl).imp fun σ H R q => ?_
  obtain ⟨ds, its, hi, ta⟩ := it_args q
  change itRng3 ds = some its at hi
  unfold itRng3 at hi
  split at hi <;> try cases hi
  split at hi <;> try cases hi
  rename_i i j c hc
  obtain ⟨rfl, h1, h2⟩ := hc
  refine tArgs_mono (fun vs H1 ⟨Y, hY, rs, w⟩ => ?_) ta
  cases rs with
  | cons r1 r2 =>
    cases r2 with
    | cons r2 r3 =>
      cases r3 with
      | cons r3 r4 =>
        cases r4
        cases r1
        cases r2
        cases r3
        have h1 := small_of h1
        have h2 := small_of h2
        exact ⟨i, j, -1, _, rfl, RgC.neg h1.1 h1.2 h2.1 h2.2, w _ (walk_down i j (-1) _)⟩
theorem pi_enum' {a : Expr} {p pos tpos : Pos} {elts : List Expr} {kk : Nat} {src : List Ex} (hK : X.K = G.K) (hg : Gl X "enumerate") (hm : X.mg "enumerate" = none) (ha : PA X [a] (tArgs G rf C src)) (hs : starEach [a] X.env = [(false, eval a X.env)]) :
    PI X (.Tuple elts kk tpos) (.Call (.Name "enumerate" p) [a] [] pos) (tIt G rf C .enum src) := by
  refine (pi_enum hg hm ha hs).imp fun σ H R q => ?_
  obtain ⟨ds, its, hi, ta⟩ := it_args q
  change itEnum ds = some its at hi
  unfold itEnum at hi
  split at hi <;> try cases hi
  rw [hK]
  refine tArgs_mono (fun vs H1 ⟨Y, hY, rs, w⟩ => ?_) ta
  cases rs with
  | cons r1 r2 =>
    cases r2
    obtain ⟨a, vs, rfl, e1, _⟩ := r1.lstA
    exact ⟨a, vs, rfl, SqL.of e1, w _ walk_enum⟩
theorem pi_zip' {a b : Expr} {p pos tpos : Pos} {elts : List Expr} {kk : Nat} {src : List Ex} (hK : X.K = G.K) (hg : Gl X "zip") (hm : X.mg "zip" = none) (ha : PA X [a, b] (tArgs G rf C src)) (hs : starEach [a, b] X.env = (false, eval a X.env) :: starEach [b] X.env)
    (hpl : (backTo pos (starEach [b] X.env)).any (·.1) = false) : PI X (.Tuple elts kk tpos) (.Call (.Name "zip" p) [a, b] [] pos) (tIt G rf C .zip2 src) := by
  refine (RZ.pi_zipA hg hm ha hs hpl).imp fun σ H R q => ?_
  obtain ⟨ds, its, hi, ta⟩ := it_args q
  rw [hK]
  change itZip2 ds = some its at hi
  unfold itZip2 at hi
  split at hi <;> try cases hi
  · refine tArgs_mono (fun vs H1 ⟨Y, hY, rs, w⟩ => ?_) ta
    cases rs with
    | cons r1 r2 => cases r2 with
      | cons r2 r3 =>
        cases r3
        obtain ⟨a, vs, rfl, e1, _⟩ := r1.lstA
        obtain ⟨b, ws, rfl, e2, _⟩ := r2.lstA
        exact ⟨a, b, vs, ws, rfl, .inl ⟨SqL.of e1, SqL.of e2, w _ walk_zipL⟩⟩
  · refine tArgs_mono (fun vs H1 ⟨Y, hY, rs, w⟩ => ?_) ta
    cases rs with
    | cons r1 r2 => cases r2 with
      | cons r2 r3 =>
        cases r3
        obtain ⟨a, vs, rfl, e1, _⟩ := AR.tup (.inl r1)
        obtain ⟨b, ws, rfl, e2, _⟩ := AR.tup (.inl r2)
        exact ⟨a, b, vs, ws, rfl, .inr ⟨e1, e2, w _ walk_zipT⟩⟩
end
end Ofw
/-! Ofw 10: names stored -/
namespace Ofw
open PySem L2
section
variable {G : Gx} {Z : Ys} {σ : L2.St} {H H' : Hp} {env : En} {i : Nat} {v : V} {d : D}
theorem Good.fresh0 (g : Good G Z σ H env) {p : Addr} (hp : H p = none) : G.H_0 p = none := by
  cases h : G.H_0 p with
  | none => rfl
  | some o =>
    by_cases hb : ∃ i, G.ba i = some p
    · obtain ⟨i, hi⟩ := hb
      obtain ⟨d, hd⟩ := g.held i p hi
      obtain ⟨a, _, b, hba, _⟩ := g.bors i d hd
      rw [hi] at hba; cases hba
      obtain ⟨o', ho⟩ := b.there
      rw [hp] at ho; cases ho
    · rw [g.frame p o h fun i e => hb ⟨i, e⟩] at hp; cases hp
/-- slots but one as they were -/
theorem own_set {s : Sl} {x : Option V} (hs : s.isOwn = false) {a : Addr} (h : ownA (σ.set i x) (env.set i s) a) : ownA σ env a := by
  obtain ⟨j, t, h1, h2, h3⟩ := h
  by_cases e : i = j
  · subst e
    by_cases hl : i < env.length
    · rw [List.getElem?_set_self hl] at h1
      cases h1
      rw [hs] at h2; cases h2
    · rw [List.getElem?_eq_none_iff.mpr (by simp; omega)] at h1; cases h1
  · rw [List.getElem?_set_ne e] at h1 h3
    exact ⟨j, t, h1, h2, h3⟩
theorem Good.setVal (g : Good G Z σ H env) (hi : ∃ s, env[i]? = some s ∧ ∀ d, s ≠ .bor d) (r : Rep G.K H (Av σ env Z) v d) : Post G Z σ H env (σ.set i (some v)) H (env.set i (.val d)) := by
  obtain ⟨s, hs, nb⟩ := hi
  have hl : i < env.length := (List.getElem?_eq_some_iff.mp hs).1
  have hlσ : i < σ.length := by rw [← g.len]; exact hl
  have less : ∀ a, Av (σ.set i (some v)) (env.set i (.val d)) Z a → Av σ env Z a := fun a y => y.elim (fun z => .inl (own_set rfl z)) .inr
  refine ⟨⟨by simp [g.len], g.zdom, fun j e h => ?_, fun j e h => ?_, fun j e h => ?_, fun j k s t a h1 h2 h3 h4 h5 h6 => ?_, fun j a h => ?_, g.frame⟩, fun a o h _ => h, fun a z => .inl (own_set rfl z), fun _ h => h⟩
  · by_cases ej : i = j
    · subst ej
      rw [List.getElem?_set_self hl] at h
      cases h
      exact ⟨v, by rw [List.getElem?_set_self hlσ], r.fr (Fr1.less less)⟩
    · rw [List.getElem?_set_ne ej] at h ⊢
      obtain ⟨w, hw, rw'⟩ := g.vals j e h
      exact ⟨w, hw, rw'.fr (Fr1.less less)⟩
  · by_cases ej : i = j
    · subst ej
      rw [List.getElem?_set_self hl] at h
      cases h
    · rw [List.getElem?_set_ne ej] at h ⊢
      obtain ⟨w, hw, rw', h0⟩ := g.owns j e h
      exact ⟨w, hw, rw'.fr (Fr1.less less) fun o h => h, h0⟩
  · by_cases ej : i = j
    · subst ej
      rw [List.getElem?_set_self hl] at h
      cases h
    · rw [List.getElem?_set_ne ej] at h ⊢
      obtain ⟨w, hw, rw', h0⟩ := g.bors j e h
      exact ⟨w, hw, rw'.fr (Fr1.less less) fun o h => h, h0⟩
  · have nj : i ≠ j := fun e => by subst e; rw [List.getElem?_set_self hl] at h1; cases h1; cases h3
    have nk : i ≠ k := fun e => by subst e; rw [List.getElem?_set_self hl] at h2; cases h2; cases h4
    rw [List.getElem?_set_ne nj] at h1 h5
    rw [List.getElem?_set_ne nk] at h2 h6
    exact g.inj j k s t a h1 h2 h3 h4 h5 h6
  · obtain ⟨e, he⟩ := g.held j a h
    have nj : i ≠ j := fun q => by subst q; rw [hs] at he; cases he; exact nb _ rfl
    exact ⟨e, by rw [List.getElem?_set_ne nj]; exact he⟩
/-- a new thing becomes a slot's own -/
theorem Good.setOwn {p : Addr} (g : Good G (zad Z p) σ H env) (hi : ∃ s, env[i]? = some s ∧ ∀ d, s ≠ .bor d) (b : Bod G.K H (Av σ env (zad Z p)) p d) (h0 : G.H_0 p = none) (nz : ¬ Z p) : Good G Z (σ.set i (some (.ref p))) H (env.set i (.own d)) ∧
    ∀ a, ownA (σ.set i (some (.ref p))) (env.set i (.own d)) a → ownA σ env a ∨ a = p := by
  obtain ⟨s, hs, nb⟩ := hi
  have hl : i < env.length := (List.getElem?_eq_some_iff.mp hs).1
  have hlσ : i < σ.length := by rw [← g.len]; exact hl
  have ow : ∀ a, ownA (σ.set i (some (.ref p))) (env.set i (.own d)) a → ownA σ env a ∨ a = p := fun a ⟨j, t, h1, h2, h3⟩ => by
    by_cases e : i = j
    · subst e
      rw [List.getElem?_set_self hlσ] at h3
      cases h3
      exact .inr rfl
    · rw [List.getElem?_set_ne e] at h1 h3
      exact .inl ⟨j, t, h1, h2, h3⟩
  have less : ∀ a, Av (σ.set i (some (.ref p))) (env.set i (.own d)) Z a → Av σ env (zad Z p) a := fun a y => y.elim (fun z => (ow a z).elim .inl fun e => .inr (.inr e)) fun z => .inr (.inl z)
  refine ⟨⟨by simp [g.len], fun a z => g.zdom a (.inl z), fun j e h => ?_, fun j e h => ?_, fun j e h => ?_, fun j k s t a h1 h2 h3 h4 h5 h6 => ?_, fun j a h => ?_, g.frame⟩, ow⟩
  · by_cases ej : i = j
    · subst ej
      rw [List.getElem?_set_self hl] at h
      cases h
    · rw [List.getElem?_set_ne ej] at h ⊢
      obtain ⟨w, hw, rw'⟩ := g.vals j e h
      exact ⟨w, hw, rw'.fr (Fr1.less less)⟩
  · by_cases ej : i = j
    · subst ej
      rw [List.getElem?_set_self hl] at h
      cases h
      exact ⟨p, by rw [List.getElem?_set_self hlσ], b.fr (Fr1.less less) fun o h => h, h0, nz⟩
    · rw [List.getElem?_set_ne ej] at h ⊢
      obtain ⟨w, hw, rw', h0', nz'⟩ := g.owns j e h
      exact ⟨w, hw, rw'.fr (Fr1.less less) fun o h => h, h0', fun z => nz' (.inl z)⟩
  · by_cases ej : i = j
    · subst ej
      rw [List.getElem?_set_self hl] at h
      cases h
    · rw [List.getElem?_set_ne ej] at h ⊢
      obtain ⟨w, hw, rw', h0', nz'⟩ := g.bors j e h
      exact ⟨w, hw, rw'.fr (Fr1.less less) fun o h => h, h0', fun z => nz' (.inl z)⟩
  · have np : ∀ (j : Nat) (s : Sl), i ≠ j → env[j]? = some s → s.isOwn = true → σ[j]? = some (some (.ref p)) → False := fun j s _ e1 e2 e3 => g.ownZ ⟨j, s, e1, e2, e3⟩ (.inr rfl)
    by_cases ej : i = j
    · by_cases ek : i = k
      · exact ej.symm.trans ek
      · subst ej
        rw [List.getElem?_set_self hlσ] at h5
        cases h5
        rw [List.getElem?_set_ne ek] at h2 h6
        exact (np k t ek h2 h4 h6).elim
    · by_cases ek : i = k
      · subst ek
        rw [List.getElem?_set_self hlσ] at h6
        cases h6
        rw [List.getElem?_set_ne ej] at h1 h5
        exact (np j s ej h1 h3 h5).elim
      · rw [List.getElem?_set_ne ej] at h1 h5
        rw [List.getElem?_set_ne ek] at h2 h6
        exact g.inj j k s t a h1 h2 h3 h4 h5 h6
  · obtain ⟨e, he⟩ := g.held j a h
    have nj : i ≠ j := fun q => by subst q; rw [hs] at he; cases he; exact nb _ rfl
    exact ⟨e, by rw [List.getElem?_set_ne nj]; exact he⟩
end
def tgI : Tg → List Nat
  | .one i => [i]
  | .tup is => is
/-- a target is bound -/
def gBind (G : Gx) (tg : Tg) : TG := fun v σ H Q => ∃ Z env d env', Good G Z σ H env ∧ Rep G.K H (Av σ env Z) v d ∧ bindT tg d env = some env' ∧
  ∀ σ', Post G Z σ H env σ' H env' → σ'.length = σ.length → (∀ j, j ∉ tgI tg → σ'[j]? = σ[j]?) → Q σ' H
def gBinds (G : Gx) (is : List Nat) : TGs := fun vs σ H Q => ∃ Z env ds env', Good G Z σ H env ∧ Reps G.K H (Av σ env Z) vs ds ∧ bindT.bindTs is ds env = some env' ∧
  ∀ σ', Post G Z σ H env σ' H env' → σ'.length = σ.length → (∀ j, j ∉ is → σ'[j]? = σ[j]?) → Q σ' H
section
variable {G : Gx} {X : Cx}
theorem notBor_of {env : En} {i : Nat} {s : Sl} (h : env[i]? = some s) (nb : ∀ d, s ≠ .bor d) : ∃ s, env[i]? = some s ∧ ∀ d, s ≠ .bor d := ⟨s, h, nb⟩
theorem bind1 {env env' : En} {i : Nat} {d : D} (h : bindT (.one i) d env = some env') : (∃ s, env[i]? = some s ∧ ∀ d, s ≠ .bor d) ∧ env' = env.set i (.val d) := by
  simp only [bindT] at h
  cases hs : env[i]? with
  | none => rw [hs] at h; cases h
  | some s =>
    rw [hs] at h
    cases s <;> simp only [Option.some.injEq, reduceCtorEq] at h <;> exact ⟨⟨_, rfl, fun d e => nomatch e⟩, h.symm⟩
theorem bindTs_cons {env env' : En} {i : Nat} {is : List Nat} {d : D} {ds : List D} (h : bindT.bindTs (i :: is) (d :: ds) env = some env') : (∃ s, env[i]? = some s ∧ ∀ d, s ≠ .bor d) ∧ bindT.bindTs is ds (env.set i (.val d)) = some env' := by
  simp only [bindT.bindTs] at h
  cases hs : env[i]? with
  | none => rw [hs] at h; cases h
  | some s =>
    rw [hs] at h
    cases s <;> simp only [reduceCtorEq] at h <;> exact ⟨⟨_, rfl, fun d e => nomatch e⟩, h⟩
theorem pg_one {i : Nat} {x : Str} {pos : Pos} (hN : X.N.Nodup) (hi : X.N[i]? = some x) (hx : Loc X.env.scope x) (hf : X.fn x = true ∨ X.env.scope.names.lookup x = some .local) : PG X (.Name x pos) (gBind G (.one i)) := by
  have h := pg_name (pos := pos) hN hi hx hf
  refine ⟨fun pins s σ H v u Q I r ⟨Z, env, d, env', g, rp, hb, q⟩ => h.run pins s σ H v u Q I r ?_⟩
  obtain ⟨hs, rfl⟩ := bind1 hb
  exact q _ (g.setVal hs rp) (by simp) fun j hj => by
    rw [List.getElem?_set_ne]
    intro e; exact hj (by simp [tgI, e])
theorem pgs_names : ∀ {es : List Expr} {is : List Nat}, X.N.Nodup → (es.length = is.length) → (∀ (j : Nat) (i : Nat) (e : Expr), es[j]? = some e → is[j]? = some i → ∃ x pos, e = .Name x pos ∧ X.N[i]? = some x ∧ Loc X.env.scope x ∧ (X.fn x = true ∨ X.env.scope.names.lookup x = some .local)) →
    PGs X es (gBinds G is)
  | [], [], _, _, _ => ⟨fun pins s σ H vs us Q I r ⟨Z, env, ds, env', g, rp, hb, q⟩ => pgs_nil.run pins s σ H vs us Q I r (by
      cases rp with
      | nil =>
        simp only [bindT.bindTs, Option.some.injEq] at hb
        subst hb
        exact ⟨rfl, q σ (Post.refl g) rfl fun _ _ => rfl⟩
      | cons _ _ => simp [bindT.bindTs] at hb)⟩
  | e :: es, i :: is, hN, hl, hx => by
    obtain ⟨x, pos, rfl, hi, hloc, hf⟩ := hx 0 i e (by simp) (by simp)
    have h1 := pg_name (pos := pos) hN hi hloc hf
    have h2 := pgs_names (es := es) (is := is) hN (by simpa using hl) fun j i e h1 h2 => hx (j + 1) i e (by simpa using h1) (by simpa using h2)
    have h := pgs_cons h1 h2 rfl
    refine ⟨fun pins s σ H vs us Q I r ⟨Z, env, ds, env', g, rp, hb, q⟩ => h.run pins s σ H vs us Q I r ?_⟩
    cases rp with
    | nil => simp [bindT.bindTs] at hb
    | cons rv rs =>
      obtain ⟨hs, hb'⟩ := bindTs_cons hb
      have p1 := g.setVal hs rv
      refine ⟨_, _, rfl, Z, _, _, env', p1.good, p1.reps rs, hb', fun σ' p2 hl2 hσ => q σ' (p1.trans p2) (by rw [hl2]; simp) fun j hj => ?_⟩
      rw [hσ j fun z => hj (List.mem_cons_of_mem _ z), List.getElem?_set_ne fun e => hj (by simp [e])]
  | [], _ :: _, _, hl, _ => by simp at hl
  | _ :: _, [], _, hl, _ => by simp at hl
theorem assign_names {env : Env} : ∀ {es : List Expr}, (∀ e ∈ es, ∃ x pos, e = .Name x pos) → (assignEach es env).length = es.length ∧ (assignEach es env).findIdx? (·.1) = none
  | [], _ => ⟨rfl, rfl⟩
  | e :: es, h => by
    obtain ⟨x, pos, rfl⟩ := h e List.mem_cons_self
    obtain ⟨h1, h2⟩ := assign_names (es := es) (env := env) fun e he => h e (List.mem_cons_of_mem _ he)
    have e : assignEach (.Name x pos :: es) env = (false, assign (.Name x pos) env) :: assignEach es env := by rfl
    rw [e]
    refine ⟨by simp [h1], ?_⟩
    rw [List.findIdx?_cons, h2]
    rfl
theorem pg_tups {es : List Expr} {k : Nat} {pos : Pos} {is : List Nat} (hK : X.K = G.K) (hc : X.calm = true) (hN : X.N.Nodup) (hl : es.length = is.length) (hx : ∀ (j : Nat) (i : Nat) (e : Expr), es[j]? = some e → is[j]? = some i → ∃ x pos, e = .Name x pos ∧ X.N[i]? = some x ∧ Loc X.env.scope x ∧ (X.fn x = true ∨ X.env.scope.names.lookup x = some .local)) :
    PG X (.Tuple es k pos) (gBind G (.tup is)) := by
  have nm : ∀ e ∈ es, ∃ x pos, e = .Name x pos := fun e he => by
    obtain ⟨j, hj⟩ := List.getElem?_of_mem he
    have hjl : j < is.length := by rw [← hl]; exact (List.getElem?_eq_some_iff.mp hj).1
    obtain ⟨x, pos, e', _⟩ := hx j is[j] e hj (List.getElem?_eq_getElem hjl)
    exact ⟨x, pos, e'⟩
  obtain ⟨a1, a2⟩ := assign_names (env := X.env) nm
  have h := pg_tup (k := k) (pos := pos) hc (pgs_names (G := G) hN hl hx) a1 a2
  refine ⟨fun pins s σ H v u Q I r ⟨Z, env, d, env', g, rp, hb, q⟩ => h.run pins s σ H v u Q I r ?_⟩
  cases d with
  | tup ds =>
    obtain ⟨a, vs, rfl, st, rs, _⟩ := AR.tup (.inl rp)
    simp only [bindT] at hb
    split at hb
    · rename_i hlen
      refine ⟨a, vs, rfl, by rw [hK]; exact st, by rw [rs.len, ← hlen, hl], Z, env, ds, env', g, rs, hb, q⟩
    · cases hb
  | _ => simp [bindT] at hb
end
end Ofw
/-! Ofw 11: comprehensions -/
namespace Ofw
open PySem L2
section
theorem wipeE_len (env : En) : ∀ vs : List Nat, (wipeE env vs).length = env.length
  | [] => rfl
  | v :: vs => by simp [wipeE, wipeE_len env vs]
theorem wipeE_out (env : En) {i : Nat} : ∀ {vs : List Nat}, i ∉ vs → (wipeE env vs)[i]? = env[i]?
  | [], _ => rfl
  | v :: vs, h => by
    simp only [List.mem_cons, not_or] at h
    simp only [wipeE]
    rw [List.getElem?_set_ne (Ne.symm h.1), wipeE_out env h.2]
theorem wipeE_in (env : En) {i : Nat} : ∀ {vs : List Nat}, i ∈ vs → (wipeE env vs)[i]? = none ∨ (wipeE env vs)[i]? = some .emp
  | [], h => by simp at h
  | v :: vs, h => by
    simp only [wipeE]
    by_cases e : v = i
    · subst e
      by_cases hl : v < (wipeE env vs).length
      · right; rw [List.getElem?_set_self hl]
      · left; rw [List.getElem?_eq_none_iff]; simp; omega
    · rw [List.getElem?_set_ne e]
      exact wipeE_in env ((List.mem_cons.mp h).resolve_left fun q => e q.symm)
theorem backE_len (old env : En) : ∀ vs : List Nat, (backE old env vs).length = env.length
  | [] => rfl
  | v :: vs => by simp [backE, backE_len old env vs]
theorem backE_out (old env : En) {i : Nat} : ∀ {vs : List Nat}, i ∉ vs → (backE old env vs)[i]? = env[i]?
  | [], _ => rfl
  | v :: vs, h => by
    simp only [List.mem_cons, not_or] at h
    simp only [backE]
    rw [List.getElem?_set_ne (Ne.symm h.1), backE_out old env h.2]
theorem backE_in (old env : En) (hl : env.length = old.length) {i : Nat} : ∀ {vs : List Nat}, i ∈ vs → (backE old env vs)[i]? = old[i]?
  | [], h => by simp at h
  | v :: vs, h => by
    simp only [backE]
    by_cases e : v = i
    · subst e
      by_cases hv : v < old.length
      · rw [List.getElem?_set_self (by rw [backE_len, hl]; exact hv), List.getD_eq_getElem?_getD, List.getElem?_eq_getElem hv]; rfl
      · rw [List.getElem?_eq_none_iff.mpr (by simp [backE_len]; omega), List.getElem?_eq_none_iff.mpr (by omega)]
    · rw [List.getElem?_set_ne e]
      exact backE_in old env hl ((List.mem_cons.mp h).resolve_left fun q => e q.symm)
theorem plain_of {env : En} {vs : List Nat} (h : plainSlots env vs = true) {i : Nat} (hi : i ∈ vs) : ∃ s, env[i]? = some s ∧ s.isOwn = false := by
  unfold plainSlots at h
  rw [List.all_eq_true] at h
  have := h i hi
  cases e : env[i]? with
  | none => rw [e] at this; simp at this
  | some s => rw [e] at this; exact ⟨s, rfl, by simpa using this⟩
end
section
variable {G : Gx} {Z : Ys} {σ : L2.St} {H H' : Hp} {env : En} {vs : List Nat}
theorem own_wipe {a : Addr} (h : ownA (wipe σ vs) (wipeE env vs) a) : ownA σ env a := by
  obtain ⟨i, s, h1, h2, h3⟩ := h
  obtain ⟨e, n⟩ := wipe_some h3
  exact ⟨i, s, by rw [← wipeE_out env n]; exact h1, h2, e⟩
/-- the block's slots forgotten -/
theorem Good.wiped (g : Good G Z σ H env) (hp : plainSlots env vs = true) : Good G Z (wipe σ vs) H (wipeE env vs) := by
  have less : ∀ a, Av (wipe σ vs) (wipeE env vs) Z a → Av σ env Z a := fun a y => y.elim (fun z => .inl (own_wipe z)) .inr
  have back : ∀ (i : Nat) (s : Sl), s ≠ .emp → (wipeE env vs)[i]? = some s → i ∉ vs ∧ env[i]? = some s := fun i s ne h => by
    by_cases hi : i ∈ vs
    · rcases wipeE_in env hi with e | e
      · rw [e] at h; cases h
      · rw [e] at h; cases h; exact absurd rfl ne
    · exact ⟨hi, by rw [← wipeE_out env hi]; exact h⟩
  refine ⟨by rw [wipeE_len, wipe_length]; exact g.len, g.zdom, fun i d h => ?_, fun i d h => ?_, fun i d h => ?_, fun i j s t a h1 h2 h3 h4 h5 h6 => ?_, fun i a h => ?_, g.frame⟩
  · obtain ⟨hi, h⟩ := back i (.val d) (fun e => nomatch e) h
    obtain ⟨v, hv, r⟩ := g.vals i d h
    exact ⟨v, by rw [wipe_out hi]; exact hv, r.fr (Fr1.less less)⟩
  · obtain ⟨hi, h⟩ := back i (.own d) (fun e => nomatch e) h
    obtain ⟨v, hv, r, h0⟩ := g.owns i d h
    exact ⟨v, by rw [wipe_out hi]; exact hv, r.fr (Fr1.less less) fun o h => h, h0⟩
  · obtain ⟨hi, h⟩ := back i (.bor d) (fun e => nomatch e) h
    obtain ⟨v, hv, r, h0⟩ := g.bors i d h
    exact ⟨v, by rw [wipe_out hi]; exact hv, r.fr (Fr1.less less) fun o h => h, h0⟩
  · have ns : s ≠ .emp := fun e => by rw [e] at h3; cases h3
    have nt : t ≠ .emp := fun e => by rw [e] at h4; cases h4
    obtain ⟨hi, h1⟩ := back i s ns h1
    obtain ⟨hj, h2⟩ := back j t nt h2
    rw [wipe_out hi] at h5
    rw [wipe_out hj] at h6
    exact g.inj i j s t a h1 h2 h3 h4 h5 h6
  · obtain ⟨d, hd⟩ := g.held i a h
    have hi : i ∉ vs := fun hi => by
      obtain ⟨s, hs, ho⟩ := plain_of hp hi
      rw [hd] at hs; cases hs; cases ho
    exact ⟨d, by rw [wipeE_out env hi]; exact hd⟩
/-- what no one has is changed: a place that is forbidden and no slot's -/
theorem Good.mutZ {D : Addr} {o : HO} (g : Good G (zad Z D) σ H env) (h0 : G.H_0 D = none) (hD : H D ≠ none) : Good G (zad Z D) σ (upd H D o) env := by
  have nD : ∀ a, ¬ zad Z D a → a ≠ D := fun a n e => n (.inr e)
  have fr : Fr1 H (upd H D o) (Av σ env (zad Z D)) (Av σ env (zad Z D)) := ⟨fun a u h n => by rw [upd_ne (nD a fun z => n (.inr z))]; exact h, fun _ y => .inl y⟩
  refine ⟨g.len, fun a z => ?_, fun i d h => ?_, fun i d h => ?_, fun i d h => ?_, g.inj, g.held, fun a u h n => ?_⟩
  · by_cases e : a = D
    · rw [e, upd_same]; exact fun q => nomatch q
    · rw [upd_ne e]; exact g.zdom a z
  · obtain ⟨v, hv, r⟩ := g.vals i d h
    exact ⟨v, hv, r.fr fr⟩
  · obtain ⟨v, hv, r, h1, nz⟩ := g.owns i d h
    exact ⟨v, hv, r.fr fr fun u h => by rw [upd_ne (nD v nz)]; exact h, h1, nz⟩
  · obtain ⟨v, hv, r, h1, nz⟩ := g.bors i d h
    exact ⟨v, hv, r.fr fr fun u h => by rw [upd_ne (nD v nz)]; exact h, h1, nz⟩
  · have e : a ≠ D := fun e => by rw [e, h0] at h; cases h
    rw [upd_ne e]; exact g.frame a u h n
theorem wipe_eq {σ σ' : L2.St} (hl : σ'.length = σ.length) (h : ∀ j, j ∉ vs → σ'[j]? = σ[j]?) : wipe σ' vs = wipe σ vs := by
  refine List.ext_getElem? fun j => ?_
  by_cases hj : j ∈ vs
  · have in_ : ∀ (τ : L2.St) {ws : List Nat}, j ∈ ws → (wipe τ ws)[j]? = if j < τ.length then some none else none := fun τ ws => by
      induction ws with
      | nil => intro h; simp at h
      | cons w ws ih =>
        intro h
        simp only [wipe]
        by_cases e : w = j
        · subst e
          by_cases hl : w < τ.length
          · rw [List.getElem?_set_self (by rw [wipe_length]; exact hl), if_pos hl]
          · rw [List.getElem?_eq_none_iff.mpr (by simp [wipe_length]; omega), if_neg hl]
        · rw [List.getElem?_set_ne e]
          exact ih ((List.mem_cons.mp h).resolve_left fun q => e q.symm)
    rw [in_ σ' hj, in_ σ hj, hl]
  · rw [wipe_out hj, wipe_out hj, h j hj]
theorem wipe_wipe (σ : L2.St) : wipe (wipe σ vs) vs = wipe σ vs := wipe_eq (wipe_length σ vs) fun j hj => wipe_out hj
end
/-! ### the loop -/
section
variable (G : Gx) (rf : Nat → List Bool) (C : CallT)
def tIfs : List Ex → TT
  | [] => tYes
  | a :: _ => tTv G (evalE rf C a)
end
def evTurn (rf : Nat → List Bool) (C : CallT) (elt : Ex) (tg : Tg) (ifs : List Ex) (vs : List Nat) (d : D) (en : En) : Option (Option D × En) := match bindT tg d en with
  | some en1 => match evalIfs rf C ifs en1 with
    | some (true, en2) => match evalE rf C elt en2 with
      | some (r, en3) => if plainSlots en3 vs then some (some r.d, wipeE en3 vs) else none
      | none => none
    | some (false, en2) => if plainSlots en2 vs then some (none, wipeE en2 vs) else none
    | none => none
  | none => none
def evLc (rf : Nat → List Bool) (C : CallT) (elt : Ex) (tg : Tg) (k : ItK) (src ifs : List Ex) (vs : List Nat) : En → Option (Rs × En) := fun env => match evalAs rf C src env with
    | some (xs, env1) => match valsOf xs with
      | some ds => match itemsD k ds with
        | some its => if plainSlots env1 vs && decide (its.length < sizeLine) then
            match lcLoop (evTurn rf C elt tg ifs vs) its (wipeE env1 vs) with
            | some (out, env2) => some (.fr (.lst out), backE env1 env2 vs)
            | none => none
          else none
        | none => none
      | none => none
    | none => none
theorem evalE_lc (rf : Nat → List Bool) (C : CallT) (elt : Ex) (tg : Tg) (k : ItK) (src ifs : List Ex) (vs : List Nat) (env : En) : evalE rf C (.lc elt tg k src ifs vs) env = evLc rf C elt tg k src ifs vs env := by
  simp only [evalE]; rfl
section
variable {G : Gx} {rf : Nat → List Bool} {C : CallT}
theorem evLc_inv {elt : Ex} {tg : Tg} {k : ItK} {src ifs : List Ex} {vs : List Nat} {env env' : En} {r : Rs} (h : evLc rf C elt tg k src ifs vs env = some (r, env')) :
    ∃ xs env1 ds its out env2, evalAs rf C src env = some (xs, env1) ∧ valsOf xs = some ds ∧ itemsD k ds = some its ∧ plainSlots env1 vs = true ∧ its.length < sizeLine ∧
      lcLoop (evTurn rf C elt tg ifs vs) its (wipeE env1 vs) = some (out, env2) ∧ r = .fr (.lst out) ∧ env' = backE env1 env2 vs := by
  unfold evLc at h
  cases h1 : evalAs rf C src env with
  | none => rw [h1] at h; cases h
  | some p =>
    obtain ⟨xs, env1⟩ := p
    rw [h1] at h
    cases h2 : valsOf xs with
    | none => simp only [h2] at h; cases h
    | some ds =>
      simp only [h2] at h
      cases h3 : itemsD k ds with
      | none => simp only [h3] at h; cases h
      | some its =>
        simp only [h3] at h
        split at h
        · rename_i hc
          simp only [Bool.and_eq_true, decide_eq_true_eq] at hc
          cases h4 : lcLoop (evTurn rf C elt tg ifs vs) its (wipeE env1 vs) with
          | none => rw [h4] at h; cases h
          | some p =>
            obtain ⟨out, env2⟩ := p
            rw [h4] at h
            simp only [Option.some.injEq, Prod.mk.injEq] at h
            exact ⟨xs, env1, ds, its, out, env2, rfl, h2, h3, hc.1, hc.2, h4, h.1.symm, h.2.symm⟩
        · cases h
theorem evTurn_inv {elt : Ex} {tg : Tg} {ifs : List Ex} {vs : List Nat} {d : D} {en en' : En} {o : Option D} (h : evTurn rf C elt tg ifs vs d en = some (o, en')) :
    ∃ en1 b en2, bindT tg d en = some en1 ∧ evalIfs rf C ifs en1 = some (b, en2) ∧
      ((b = true ∧ ∃ r en3, evalE rf C elt en2 = some (r, en3) ∧ plainSlots en3 vs = true ∧ o = some r.d ∧ en' = wipeE en3 vs) ∨ (b = false ∧ plainSlots en2 vs = true ∧ o = none ∧ en' = wipeE en2 vs)) := by
  unfold evTurn at h
  cases h1 : bindT tg d en with
  | none => rw [h1] at h; cases h
  | some en1 =>
    rw [h1] at h
    cases h2 : evalIfs rf C ifs en1 with
    | none => simp only [h2] at h; cases h
    | some p =>
      obtain ⟨b, en2⟩ := p
      refine ⟨en1, b, en2, rfl, h2, ?_⟩
      cases b with
      | true =>
        simp only [h2] at h
        cases h3 : evalE rf C elt en2 with
        | none => simp only [h3] at h; cases h
        | some q =>
          obtain ⟨r, en3⟩ := q
          simp only [h3] at h
          split at h
          · simp only [Option.some.injEq, Prod.mk.injEq] at h
            exact .inl ⟨rfl, r, en3, rfl, ‹_›, h.1.symm, h.2.symm⟩
          · cases h
      | false =>
        simp only [h2] at h
        split at h
        · simp only [Option.some.injEq, Prod.mk.injEq] at h
          exact .inr ⟨rfl, ‹_›, h.1.symm, h.2.symm⟩
        · cases h
theorem lcLoop_cons {f : D → En → Option (Option D × En)} {d : D} {ds : List D} {env env' : En} {out : List D} (h : lcLoop f (d :: ds) env = some (out, env')) : ∃ o env1 r, f d env = some (o, env1) ∧ lcLoop f ds env1 = some (r, env') ∧ out = o.toList ++ r := by
  simp only [lcLoop] at h
  cases h1 : f d env with
  | none => rw [h1] at h; cases h
  | some p =>
    obtain ⟨o, env1⟩ := p
    rw [h1] at h
    cases h2 : lcLoop f ds env1 with
    | none => simp only [h2] at h; cases h
    | some q =>
      obtain ⟨r, env2⟩ := q
      simp only [h2, Option.some.injEq, Prod.mk.injEq] at h
      obtain ⟨rfl, rfl⟩ := h
      exact ⟨o, env1, r, rfl, h2, rfl⟩
theorem ifs_ok {ifs : List Ex} {Z : Ys} {σ : L2.St} {H : Hp} {en en' : En} {b : Bool} {Q : Bool → Hp → Prop} (g : Good G Z σ H en) (h : evalIfs rf C ifs en = some (b, en')) (q : ∀ H', Post G Z σ H en σ H' en' → Q b H') : tIfs G rf C ifs σ H Q := by
  cases ifs with
  | nil =>
    simp only [evalIfs, Option.some.injEq, Prod.mk.injEq] at h
    obtain ⟨rfl, rfl⟩ := h
    exact q H (Post.refl g)
  | cons a as =>
    simp only [evalIfs] at h
    cases h1 : evalE rf C a en with
    | none => rw [h1] at h; cases h
    | some p =>
      obtain ⟨r, en1⟩ := p
      rw [h1] at h
      cases h2 : truD r.d with
      | none => simp only [h2, Option.map_none] at h; cases h
      | some c =>
        simp only [h2, Option.map_some, Option.some.injEq, Prod.mk.injEq] at h
        obtain ⟨rfl, rfl⟩ := h
        exact ⟨Z, en, r, en1, c, g, h1, h2, q⟩
/-- a walk that has begun -/
theorem lc_core {elt : Ex} {tg : Tg} {ifs : List Ex} {vs : List Nat} (hv : ∀ i ∈ tgI tg, i ∈ vs) {J : It} {S : Hp → Ys → Prop} {its : List D} {Z : Ys} {σ : L2.St} {H1 : Hp} {env1 env2 : En} {out : List D} {Q : VK} (g1 : Good G Z σ H1 env1) (rs : S H1 (Av σ env1 Z)) (wk : Walk G.K J S its) (hp : plainSlots env1 vs = true) (hsz : its.length < sizeLine)
    (h4 : lcLoop (evTurn rf C elt tg ifs vs) its (wipeE env1 vs) = some (out, env2)) (q : ∀ v H', Post G Z σ H1 env1 σ H' (backE env1 env2 vs) → ResOk G Z σ H1 H' (backE env1 env2 vs) v (.fr (.lst out)) → Q v H') {gg : TG} {tt : TT} {te : TE} (hgg : ∀ v σ H Q, gBind G tg v σ H Q → gg v σ H Q) (htt : ∀ σ H Q, tIfs G rf C ifs σ H Q → tt σ H Q) (hte : ∀ σ H Q, tE G rf C elt σ H Q → te σ H Q) :
    tLc (fun _ _ R => R J H1) gg tt te vs σ H1 Q := by
  intro D hD
  have h0 : G.H_0 D = none := g1.fresh0 hD
  have gD : Good G (zad Z D) σ (upd H1 D (.lst [])) env1 := g1.ext (same_new hD) (fun a z => z.elim .inl fun e => .inr (by rw [e]; exact hD)) fun a z => by
    by_cases e : a = D
    · rw [e, upd_same]; exact fun q => nomatch q
    · rw [upd_ne e]; exact z.elim (g1.zdom a) fun q => absurd q e
  have gW := gD.wiped hp
  refine ⟨fun i m H => m = its.length - i ∧ i ≤ its.length ∧ ∃ (en : En) (acc : List V) (done rest : List Ofw.D), Good G (zad Z D) (wipe σ vs) H en ∧ lcLoop (evTurn rf C elt tg ifs vs) (its.drop i) en = some (rest, env2) ∧ H D = some (.lst acc) ∧
      Reps G.K H (Av (wipe σ vs) en (zad Z D)) acc done ∧ out = done ++ rest ∧ acc.length ≤ i ∧ S H (Av (wipe σ vs) en (zad Z D)) ∧ (∀ a o, H1 a = some o → ¬ ownA σ env1 a → H a = some o) ∧ (∀ a, H a = none → H1 a = none) ∧
      (∀ a, ownA (wipe σ vs) en a → ownA σ env1 a ∨ H1 a = none), ⟨its.length, rfl, Nat.zero_le _, _, [], [], out, gW, h4, upd_same, .nil, rfl, Nat.le_refl _, ?_, ?_, ?_, ?_⟩, ?_⟩
  · exact wk.stab _ _ _ _ ⟨fun a o h _ => same_new hD a o h, fun a y => by
      rcases y with y | y | y
      · exact .inl (.inl (own_wipe y))
      · exact .inl (.inr y)
      · exact .inr (by rw [y]; exact hD)⟩ rs
  · exact fun a o h _ => same_new hD a o h
  · exact fun a h => (same_new hD).free h
  · exact fun a z => .inl (own_wipe z)
  · rintro i m H ⟨rfl, hi, en, acc, done, rest, ge, hl, hacc, racc, hout, hal, rsv, st, th, ow⟩
    have nD : ¬ ownA (wipe σ vs) en D := fun z => ge.ownZ z (.inr rfl)
    rcases Nat.lt_or_ge i its.length with hlt | hge
    · right
      refine ⟨wk.go i H _ rsv hlt, fun H' => _, fun H' hN => ⟨its.length - (i + 1), by omega, hN⟩, fun x H2 hy => ?_⟩
      obtain ⟨d, hd, s2, rx⟩ := wk.yld i H _ x H2 rsv (fun a y => ge.avdom y) hlt hy
      have hdrop : its.drop i = d :: its.drop (i + 1) := by
        rw [List.drop_eq_getElem_cons hlt]
        rw [List.getElem?_eq_getElem hlt] at hd
        cases hd
        rfl
      rw [hdrop] at hl
      obtain ⟨o, en1', r', ht, hl', rfl⟩ := lcLoop_cons hl
      obtain ⟨en1, b, en2, hb, hif, hcase⟩ := evTurn_inv ht
      have ps := Post.same ge s2
      refine hgg _ _ _ _ ⟨zad Z D, en, d, en1, ps.good, rx, hb, fun σ2 p2 hl2 hσ => ⟨?_, ?_⟩⟩
      · rw [wipe_eq hl2 fun j hj => hσ j fun z => hj (hv j z), wipe_wipe]
      · have eW : wipe σ2 vs = wipe σ vs := by rw [wipe_eq hl2 fun j hj => hσ j fun z => hj (hv j z), wipe_wipe]
        refine htt _ _ _ (ifs_ok p2.good hif fun H3 p3 => ?_)
        -- one more turn done, at a heap H4, its slots en4
        have fin : ∀ (H4 : Hp) (en4 : En) (acc' : List V) (o' : Option Ofw.D), Post G (zad Z D) (wipe σ vs) H en σ2 H4 en4 → plainSlots en4 vs = true → en1' = wipeE en4 vs →
            (∀ y ∈ acc'.drop acc.length, True) → acc'.length ≤ acc.length + 1 → Reps G.K H4 (Av σ2 en4 (zad Z D)) acc' (done ++ o.toList) →
            (i + 1 ≤ its.length ∧ ∃ (en : En) (acc : List V) (done rest : List Ofw.D), Good G (zad Z D) (wipe σ vs) (upd H4 D (.lst acc')) en ∧ lcLoop (evTurn rf C elt tg ifs vs) (its.drop (i + 1)) en = some (rest, env2) ∧ (upd H4 D (.lst acc')) D = some (.lst acc) ∧
              Reps G.K (upd H4 D (.lst acc')) (Av (wipe σ vs) en (zad Z D)) acc done ∧ out = done ++ rest ∧ acc.length ≤ i + 1 ∧ S (upd H4 D (.lst acc')) (Av (wipe σ vs) en (zad Z D)) ∧ (∀ a o, H1 a = some o → ¬ ownA σ env1 a → (upd H4 D (.lst acc')) a = some o) ∧
              (∀ a, (upd H4 D (.lst acc')) a = none → H1 a = none) ∧ (∀ a, ownA (wipe σ vs) en a → ownA σ env1 a ∨ H1 a = none)) := by
          intro H4 en4 acc' o' P hpl e1 _ hlen rp
          subst e1
          have hD4 : H4 D ≠ none := fun e => by rw [P.step D _ hacc nD] at e; cases e
          have g4 := (P.good.mutZ (o := .lst acc') h0 hD4).wiped hpl
          rw [eW] at g4
          have less : ∀ a, Av (wipe σ vs) (wipeE en4 vs) (zad Z D) a → Av σ2 en4 (zad Z D) a := fun a y => y.elim (fun z => by rw [← eW] at z; exact .inl (own_wipe z)) .inr
          have fr4 : Fr1 H4 (upd H4 D (.lst acc')) (Av σ2 en4 (zad Z D)) (Av (wipe σ vs) (wipeE en4 vs) (zad Z D)) :=
            ⟨fun a u h n => by rw [upd_ne fun e => n (.inr (.inr e))]; exact h, fun a y => .inl (less a y)⟩
          refine ⟨by omega, _, acc', done ++ o.toList, r', g4, hl', upd_same, rp.fr fr4, by rw [hout, List.append_assoc], by omega, wk.stab _ _ _ _ fr4 (wk.stab _ _ _ _ (P.frZ _) rsv), fun a u h n => ?_, fun a h => ?_, fun a z => ?_⟩
          · have ne : a ≠ D := fun e => by rw [e, hD] at h; cases h
            rw [upd_ne ne]
            exact P.step a u (st a u h n) fun z => (ow a z).elim n fun q => by rw [h] at q; cases q
          · have ne : a ≠ D := fun e => by rw [e, upd_same] at h; cases h
            rw [upd_ne ne] at h
            exact th a (P.there a h)
          · rw [← eW] at z
            rcases P.own a (own_wipe z) with z | z
            · exact ow a z
            · exact .inr (th a z)
        rcases hcase with ⟨rfl, r, en3, he, hpl, rfl, e1⟩ | ⟨rfl, hpl, rfl, e1⟩
        · refine iteT (hte _ _ _ ⟨zad Z D, en2, r, en3, p3.good, he, fun y H4 p4 ro => ?_⟩)
          have P : Post G (zad Z D) (wipe σ vs) H en σ2 H4 en3 := ((ps.trans p2).trans p3).trans p4
          refine ⟨acc, P.step D _ hacc nD, by omega, rfl, ?_⟩
          refine fin H4 en3 (acc ++ [y]) (some r.d) P hpl e1 (fun _ _ => trivial) (by simp) ?_
          exact (P.reps racc).app (.cons (ro.rep p3.good) .nil)
        · refine iteF ?_
          have P : Post G (zad Z D) (wipe σ vs) H en σ2 H3 en2 := (ps.trans p2).trans p3
          have hD3 := P.step D _ hacc nD
          have eU : upd H3 D (.lst acc) = H3 := by
            funext a
            by_cases e : a = D
            · rw [e, upd_same, hD3]
            · rw [upd_ne e]
          have := fin H3 en2 acc none P hpl e1 (fun _ _ => trivial) (by omega) (by simpa using P.reps racc)
          rw [eU] at this
          exact ⟨rfl, this⟩
    · left
      have ei : i = its.length := by omega
      subst ei
      refine ⟨wk.stop H _ rsv, ?_⟩
      rw [List.drop_length] at hl
      simp only [lcLoop, Option.some.injEq, Prod.mk.injEq] at hl
      obtain ⟨rfl, rfl⟩ := hl
      rw [List.append_nil] at hout
      subst hout
      have hlen : en.length = env1.length := by rw [ge.len, wipe_length, ← g1.len]
      have notv : ∀ (i : Nat) (s : Sl), (backE env1 en vs)[i]? = some s → s.isOwn = true → i ∉ vs ∧ en[i]? = some s := fun i s h ho => by
        by_cases hi : i ∈ vs
        · rw [backE_in env1 en hlen hi] at h
          obtain ⟨s', hs, hn⟩ := plain_of hp hi
          rw [h] at hs; cases hs
          rw [ho] at hn; cases hn
        · exact ⟨hi, by rw [← backE_out env1 en hi]; exact h⟩
      have ob : ∀ a, ownA σ (backE env1 en vs) a → ownA (wipe σ vs) en a := fun a ⟨i, s, h1, h2, h3⟩ => by
        obtain ⟨hi, he⟩ := notv i s h1 h2
        exact ⟨i, s, he, h2, by rw [wipe_out hi]; exact h3⟩
      have less : ∀ a, Av σ (backE env1 en vs) (zad Z D) a → Av (wipe σ vs) en (zad Z D) a := fun a y => y.elim (fun z => .inl (ob a z)) .inr
      have gb : Good G (zad Z D) σ H (backE env1 en vs) := by
        refine ⟨by rw [backE_len, hlen]; exact g1.len, ge.zdom, fun i d h => ?_, fun i d h => ?_, fun i d h => ?_, fun i j s t a h1 h2 h3 h4 h5 h6 => ?_, fun i a h => ?_, ge.frame⟩
        · by_cases hi : i ∈ vs
          · rw [backE_in env1 en hlen hi] at h
            obtain ⟨v, hv', rp⟩ := g1.vals i d h
            refine ⟨v, hv', rp.fr ⟨fun a o h n => st a o h fun z => n (.inl z), fun a y => ?_⟩⟩
            rcases y with y | y | y
            · exact (ow a (ob a y)).elim (fun z => .inl (.inl z)) .inr
            · exact .inl (.inr y)
            · exact .inr (by rw [y]; exact hD)
          · rw [backE_out env1 en hi] at h
            obtain ⟨v, hv', rp⟩ := ge.vals i d h
            exact ⟨v, by rw [← wipe_out hi]; exact hv', rp.fr (Fr1.less less)⟩
        · obtain ⟨hi, he⟩ := notv i _ h rfl
          obtain ⟨v, hv', rp, h0⟩ := ge.owns i d he
          exact ⟨v, by rw [← wipe_out hi]; exact hv', rp.fr (Fr1.less less) fun o h => h, h0⟩
        · obtain ⟨hi, he⟩ := notv i _ h rfl
          obtain ⟨v, hv', rp, h0⟩ := ge.bors i d he
          exact ⟨v, by rw [← wipe_out hi]; exact hv', rp.fr (Fr1.less less) fun o h => h, h0⟩
        · obtain ⟨hi, e1⟩ := notv i s h1 h3
          obtain ⟨hj, e2⟩ := notv j t h2 h4
          exact ge.inj i j s t a e1 e2 h3 h4 (by rw [wipe_out hi]; exact h5) (by rw [wipe_out hj]; exact h6)
        · obtain ⟨d, hd⟩ := ge.held i a h
          obtain ⟨v, hv', _⟩ := ge.bors i d hd
          have hi : i ∉ vs := (wipe_some hv').2
          exact ⟨d, by rw [backE_out env1 en hi]; exact hd⟩
      have P : Post G Z σ H1 env1 σ H (backE env1 en vs) := ⟨gb.less fun a z => .inl z, st, fun a z => ow a (ob a z), th⟩
      exact q _ H P ⟨D, rfl, hD, gb, acc, hacc, racc.fr (Fr1.less less)⟩
theorem lc_red {elt : Ex} {tg : Tg} {k : ItK} {src ifs : List Ex} {vs : List Nat} (hv : ∀ i ∈ tgI tg, i ∈ vs) (σ : L2.St) (H : Hp) (Q : VK) (h : tEv G (evLc rf C elt tg k src ifs vs) σ H Q) :
    tLc (tIt G rf C k src) (gBind G tg) (tIfs G rf C ifs) (tE G rf C elt) vs σ H Q := by
  obtain ⟨Z, env, r, env', g, h, q⟩ := h
  obtain ⟨xs, env1, ds, its, out, env2, h1, h2, h3, hp, hsz, h4, rfl, rfl⟩ := evLc_inv h
  refine ⟨Z, env, xs, env1, ds, its, g, h1, h2, h3, fun J S H1 p1 rs wk => ?_⟩
  refine lc_core hv p1.good rs wk hp hsz h4 (fun v H' P ro => q v H' (p1.trans P) ?_) (fun _ _ _ _ h => h) (fun _ _ _ h => h) fun _ _ _ h => h
  obtain ⟨D, e, hD, r⟩ := ro
  exact ⟨D, e, p1.there D hD, r⟩
end
end Ofw
/-! Ofw K1: a dict walked: locked meanwhile -/
namespace Ofw
open PySem L2
/-- a call's begin, one place forgotten -/
def Gx.no (G : Gx) (d : Addr) : Gx := { G with H_0 := fun b => if b = d then none else G.H_0 b }
section
variable {K : PySem.W.Frag} {H : Hp} {Y : Ys} {d : Addr} {kvs : List (Key × V)} {od : Obj}
/-- the same but for a dict's lock -/
structure Lk (H H' : Hp) : Prop where
  non : ∀ a o, H a = some o → (∀ kvs, o ≠ .dK kvs) → (∀ o' kvs, o ≠ .frz o' (.dK kvs)) → H' a = some o
  dic : ∀ a kvs, Rd H a (.dK kvs) → Rd H' a (.dK kvs)
mutual
theorem Rep.lk {H' : Hp} (f : Lk H H') : ∀ {v : V} {x : D}, Rep K H Y v x → Rep K H' Y v x
  | _, _, .non => .non
  | _, _, .bl b => .bl b
  | _, _, .int i => .int i
  | _, _, .str x => .str x
  | _, _, .tup h n r => .tup (f.non _ _ h (fun _ e => nomatch e) fun _ _ e => nomatch e) n (Reps.lk f r)
  | _, _, .tupW h r => .tupW h (Reps.lk f r)
  | _, _, .lst h n r => .lst (f.non _ _ h (fun _ e => nomatch e) fun _ _ e => nomatch e) n (Reps.lk f r)
  | _, _, .dic h n r => .dic (f.dic _ _ h) n (RepK.lk f r)
  | _, _, .scr h n => .scr (f.non _ _ h (fun _ e => nomatch e) fun _ _ e => nomatch e) n
  | _, _, .scrW h => .scrW h
theorem Reps.lk {H' : Hp} (f : Lk H H') : ∀ {vs : List V} {ds : List D}, Reps K H Y vs ds → Reps K H' Y vs ds
  | _, _, .nil => .nil
  | _, _, .cons h r => .cons (Rep.lk f h) (Reps.lk f r)
theorem RepK.lk {H' : Hp} (f : Lk H H') : ∀ {vs : List (Key × V)} {ds : List (Key × D)}, RepK K H Y vs ds → RepK K H' Y vs ds
  | _, _, .nil => .nil
  | _, _, .cons h r => .cons (Rep.lk f h) (RepK.lk f r)
end
theorem lk_lock (h : H d = some (.dK kvs)) : Lk H (upd H d (.frz od (.dK kvs))) where
  non := fun a o ho n _ => by
    rw [upd_ne fun e => by rw [e, h] at ho; cases ho; exact n _ rfl]; exact ho
  dic := fun a ks hr => by
    by_cases e : a = d
    · subst e
      rcases hr with hr | ⟨o, hr⟩
      · rw [h] at hr; cases hr; exact .inr ⟨od, upd_same⟩
      · rw [h] at hr; cases hr
    · rcases hr with hr | ⟨o, hr⟩
      · exact .inl (by rw [upd_ne e]; exact hr)
      · exact .inr ⟨o, by rw [upd_ne e]; exact hr⟩
theorem lk_unlock (h : H d = some (.frz od (.dK kvs))) : Lk H (upd H d (.dK kvs)) where
  non := fun a o ho _ n => by
    rw [upd_ne fun e => by rw [e, h] at ho; cases ho; exact n _ _ rfl]; exact ho
  dic := fun a ks hr => by
    by_cases e : a = d
    · subst e
      rcases hr with hr | ⟨o, hr⟩
      · rw [h] at hr; cases hr
      · rw [h] at hr; cases hr; exact .inl upd_same
    · rcases hr with hr | ⟨o, hr⟩
      · exact .inl (by rw [upd_ne e]; exact hr)
      · exact .inr ⟨o, by rw [upd_ne e]; exact hr⟩
theorem Bod.lk {H' : Hp} {a : Addr} {x : D} (f : Lk H H') (s : ∀ o, H a = some o → H' a = some o) (b : Bod K H Y a x) : Bod K H' Y a x := by
  cases x <;> first | exact b.elim | skip
  · obtain ⟨vs, h, r⟩ := b; exact ⟨vs, s _ h, r.lk f⟩
  · obtain ⟨vs, h, r⟩ := b; exact ⟨vs, s _ h, r.lk f⟩
end
section
variable {G : Gx} {Z : Ys} {σ : L2.St} {H : Hp} {env : En} {d : Addr} {kvs : List (Key × V)} {od : Obj}
theorem upd_there {o : HO} {a : Addr} (h : H a ≠ none) : upd H d o a ≠ none := by
  by_cases e : a = d
  · rw [e, upd_same]; exact fun z => nomatch z
  · rw [upd_ne e]; exact h
theorem own_of_bor {i : Nat} {x : D} {a : Addr} (h : env[i]? = some (Sl.bor x)) (ha : σ[i]? = some (some (.ref a))) : ownA σ env a := ⟨i, _, h, rfl, ha⟩
theorem own_of_own {i : Nat} {x : D} {a : Addr} (h : env[i]? = some (Sl.own x)) (ha : σ[i]? = some (some (.ref a))) : ownA σ env a := ⟨i, _, h, rfl, ha⟩
theorem Good.lock (g : Good G Z σ H env) (h : H d = some (.dK kvs)) (nd : ¬ ownA σ env d) : Good (G.no d) Z σ (upd H d (.frz od (.dK kvs))) env where
  len := g.len
  zdom := fun a z => upd_there (g.zdom a z)
  vals := fun i x hx => by
    obtain ⟨v, e, r⟩ := g.vals i x hx
    exact ⟨v, e, r.lk (lk_lock h)⟩
  owns := fun i x hx => by
    obtain ⟨a, e, r, n, nz⟩ := g.owns i x hx
    have ne : a ≠ d := fun z => nd (by rw [← z]; exact own_of_own hx e)
    exact ⟨a, e, r.lk (lk_lock h) fun o ho => by rw [upd_ne ne]; exact ho, by show (if a = d then none else G.H_0 a) = none; rw [if_neg ne]; exact n, nz⟩
  bors := fun i x hx => by
    obtain ⟨a, e, r, n, nz⟩ := g.bors i x hx
    have ne : a ≠ d := fun z => nd (by rw [← z]; exact own_of_bor hx e)
    exact ⟨a, e, r.lk (lk_lock h) fun o ho => by rw [upd_ne ne]; exact ho, n, nz⟩
  inj := g.inj
  held := g.held
  frame := fun a o ho hn => by
    have ho : (if a = d then none else G.H_0 a) = some o := ho
    by_cases e : a = d
    · rw [if_pos e] at ho; cases ho
    · rw [if_neg e] at ho
      rw [upd_ne e]; exact g.frame a o ho hn
theorem Good.unlock (g : Good (G.no d) Z σ H env) (h : H d = some (.frz od (.dK kvs))) (nd : ¬ ownA σ env d) (h0 : ∀ o, G.H_0 d = some o → (∀ i, G.ba i ≠ some d) → o = .dK kvs) : Good G Z σ (upd H d (.dK kvs)) env where
  len := g.len
  zdom := fun a z => upd_there (g.zdom a z)
  vals := fun i x hx => by
    obtain ⟨v, e, r⟩ := g.vals i x hx
    exact ⟨v, e, r.lk (lk_unlock h)⟩
  owns := fun i x hx => by
    obtain ⟨a, e, r, n, nz⟩ := g.owns i x hx
    have ne : a ≠ d := fun z => nd (by rw [← z]; exact own_of_own hx e)
    have n : (if a = d then none else G.H_0 a) = none := n
    rw [if_neg ne] at n
    exact ⟨a, e, r.lk (lk_unlock h) fun o ho => by rw [upd_ne ne]; exact ho, n, nz⟩
  bors := fun i x hx => by
    obtain ⟨a, e, r, n, nz⟩ := g.bors i x hx
    have ne : a ≠ d := fun z => nd (by rw [← z]; exact own_of_bor hx e)
    exact ⟨a, e, r.lk (lk_unlock h) fun o ho => by rw [upd_ne ne]; exact ho, n, nz⟩
  inj := g.inj
  held := g.held
  frame := fun a o ho hn => by
    by_cases e : a = d
    · subst e
      rw [upd_same, h0 o ho hn]
    · rw [upd_ne e]
      exact g.frame a o (by show (if a = d then none else G.H_0 a) = some o; rw [if_neg e]; exact ho) hn
theorem Post.unlock {σ' : L2.St} {H' : Hp} {en : En} (g : Good G Z σ H env) (h : H d = some (.dK kvs)) (nd : ¬ ownA σ env d) (P : Post (G.no d) Z σ (upd H d (.frz od (.dK kvs))) env σ' H' en) :
    H' d = some (.frz od (.dK kvs)) ∧ ¬ ownA σ' en d ∧ Post G Z σ H env σ' (upd H' d (.dK kvs)) en := by
  have hd := P.step d _ upd_same nd
  have nd' : ¬ ownA σ' en d := fun z => (P.own d z).elim nd fun q => by rw [upd_same] at q; cases q
  have h0 : ∀ o, G.H_0 d = some o → (∀ i, G.ba i ≠ some d) → o = .dK kvs := fun o ho hn => by
    have := g.frame d o ho hn
    rw [h] at this
    cases this
    rfl
  refine ⟨hd, nd', P.good.unlock hd nd' h0, fun a o ho n => ?_, fun a z => ?_, fun a z => ?_⟩
  · by_cases e : a = d
    · subst e
      rw [h] at ho; cases ho
      exact upd_same
    · rw [upd_ne e]
      exact P.step a o (by rw [upd_ne e]; exact ho) n
  · rcases P.own a z with q | q
    · exact .inl q
    · by_cases e : a = d
      · subst e; rw [upd_same] at q; cases q
      · rw [upd_ne e] at q; exact .inr q
  · by_cases e : a = d
    · subst e; rw [upd_same] at z; cases z
    · rw [upd_ne e] at z
      have := P.there a z
      rwa [upd_ne e] at this
theorem walk_keys {K : PySem.W.Frag} {o : Obj} {kds : List (Key × D)} (hk : kvs.map (·.1) = kds.map (·.1)) : Walk K (Itk d o kvs) (fun H Y => H d = some (.frz o (.dK kvs)) ∧ ¬ Y d) (kds.map fun kd => keyD kd.1) where
  go := fun i H Y r h => ⟨r.1, by
    have := congrArg List.length hk
    simp only [List.length_map] at this h
    omega⟩
  yld := fun i H Y x H' r hY h ⟨e, k, v, hkv, hx⟩ => by
    subst e
    subst hx
    have h1 : (kvs.map (·.1))[i]? = some k := by rw [List.getElem?_map, hkv]; rfl
    rw [hk, List.getElem?_map] at h1
    obtain ⟨p, hp, e2⟩ := Option.map_eq_some_iff.mp h1
    refine ⟨keyD k, by rw [List.getElem?_map, hp, ← e2]; rfl, Same.refl _, ?_⟩
    cases k
    · exact .int _
    · exact .str _
  stop := fun H Y r => ⟨r.1, by
    have := congrArg List.length hk
    simp only [List.length_map] at this ⊢
    omega⟩
  stab := fun H H' Y Y' f r => ⟨f.stay _ _ r.1 r.2, fun y => (f.more _ y).elim r.2 fun z => by rw [r.1] at z; cases z⟩
end
/-! ### rules -/
section
variable {X : Cx} {tg e : Expr} {td : TE}
def noFz (X : Cx) (d : Addr) : Prop := ∀ o' u', X.H_0 d ≠ some (.frz o' u')
def iKL (X : Cx) (td : TE) : TI := fun σ H R => td σ H fun x H1 => ∃ (d : Addr) (kvs : List (Key × V)), x = .ref d ∧ ((H1 d = some (.dK kvs) ∧ ∀ od, noFz X d → R (Itk d od kvs) (upd H1 d (.frz od (.dK kvs)))) ∨ ∃ o, H1 d = some (.frz o (.dK kvs)) ∧ R (Itk d o kvs) H1)
theorem pi_keysL (he : PE X e td) : PI X tg e (iKL X td) := by
  refine ⟨fun pins s σ H R I h => ?_⟩
  refine thn (he.run pins s σ H _ I h) fun u s1 ⟨x, H1, I1, rx, d, kvs, ex, q⟩ => ?_
  subst ex
  obtain rfl : u = Value.ref d := rx
  rcases q with ⟨hd, q⟩ | ⟨o, hd, q⟩
  · obtain ⟨od, I2⟩ := I1.lock hd trivial
    have hd2 : (upd H1 d (.frz od (.dK kvs))) d = some (.frz od (.dK kvs)) := upd_same
    obtain ⟨hs, hgd, hx, es, ep, vs, hdt, hsz, kv, hm⟩ := I2.frzK hd2
    refine iter_keys hs hgd hx hdt (pi_one (tk := s1.toks) I2 _ (turn_keys _ hdt) ⟨_, Heap.get?_push_size _ rfl, rfl, ?_⟩ (q od (I1.nofrz hd trivial)))
    rw [hsz] <;> rfl
  · obtain ⟨hs, hgd, hx, es, ep, vs, hdt, hsz, kv, hm⟩ := I1.frzK hd
    refine iter_keys hs hgd hx hdt (pi_one (tk := s1.toks) I1 _ (turn_keys _ hdt) ⟨_, Heap.get?_push_size _ rfl, rfl, ?_⟩ q)
    rw [hsz] <;> rfl
/-- unlocked behind, or as it is -/
def unlP {α : Type} (X : Cx) (Q : α → Hp → Prop) : α → Hp → Prop := fun v H => Q v H ∨ ∃ d od u, H d = some (.frz od u) ∧ noFz X d ∧ Q v (upd H d u)
def unl (X : Cx) (D : Ends) : Ends := ⟨unlP X D.nx, unlP X D.rt, unlP X D.bk, unlP X D.ct⟩
theorem ps_unl {st : Stmt} {t : TS} (h : PS X st t) : PS X st (fun D σ H => t (unl X D) σ H) := by
  refine ⟨fun pins s σ H D I hw => ?_⟩
  refine thn (h.run pins s σ _ _ I hw) fun f s1 q => ?_
  cases f with
  | next =>
    obtain ⟨σ', H', I2, q⟩ := q
    rcases q with q | ⟨d, od, u, e, n, q⟩
    · exact ⟨σ', H', I2, q⟩
    · exact ⟨σ', _, I2.unlock e n, q⟩
  | brk =>
    obtain ⟨σ', H', I2, q⟩ := q
    rcases q with q | ⟨d, od, u, e, n, q⟩
    · exact ⟨σ', H', I2, q⟩
    · exact ⟨σ', _, I2.unlock e n, q⟩
  | cont =>
    obtain ⟨σ', H', I2, q⟩ := q
    rcases q with q | ⟨d, od, u, e, n, q⟩
    · exact ⟨σ', H', I2, q⟩
    · exact ⟨σ', _, I2.unlock e n, q⟩
  | ret v =>
    obtain ⟨x, σ', H', I2, r, q⟩ := q
    rcases q with q | ⟨d, od, u, e, n, q⟩
    · exact ⟨x, σ', H', I2, r, q⟩
    · exact ⟨x, σ', _, I2.unlock e n, r, q⟩
theorem pe_unl {t : TE} (h : PE X e t) : PE X e (fun σ H Q => t σ H (unlP X Q)) := by
  refine ⟨fun pins s σ H Q I hw => ?_⟩
  refine thn (h.run pins s σ _ _ I hw) fun v s1 ⟨x, H1, I2, r, q⟩ => ?_
  rcases q with q | ⟨d, od, u, e, n, q⟩
  · exact ⟨x, H1, I2, r, q⟩
  · exact ⟨x, _, I2.unlock e n, r, q⟩
/-! ### loops over a dict's keys -/
section
variable {G : Gx} {rf : Nat → List Bool} {C : CallT}
def gBX (K : PySem.W.Frag) (tg : Tg) : TG := fun v σ H Q => ∃ G : Gx, G.K = K ∧ gBind G tg v σ H Q
def tIX (K : PySem.W.Frag) (rf : Nat → List Bool) (C : CallT) (ifs : List Ex) : TT := fun σ H Q => ∃ G : Gx, G.K = K ∧ tIfs G rf C ifs σ H Q
def tEX (K : PySem.W.Frag) (rf : Nat → List Bool) (C : CallT) (e : Ex) : TE := fun σ H Q => ∃ G : Gx, G.K = K ∧ tE G rf C e σ H Q
theorem pgX {t : Expr} {tg : Tg} (h : ∀ G : Gx, G.K = X.K → PG X t (gBind G tg)) : PG X t (gBX X.K tg) := ⟨fun pins s σ H v u Q I r ⟨G, e, q⟩ => (h G e).run pins s σ H v u Q I r q⟩
theorem ptsX {es : List Expr} {ifs : List Ex} (h : ∀ G : Gx, G.K = X.K → PTs X es (tIfs G rf C ifs)) : PTs X es (tIX X.K rf C ifs) := ⟨fun pins s σ H Q I ⟨G, e, q⟩ => (h G e).run pins s σ H Q I q⟩
theorem peX {e : Expr} {ex : Ex} (h : ∀ G : Gx, G.K = X.K → PE X e (tE G rf C ex)) : PE X e (tEX X.K rf C ex) := ⟨fun pins s σ H Q I ⟨G, e, q⟩ => (h G e).run pins s σ H Q I q⟩
theorem ResOk.unlock {Z : Ys} {σ : L2.St} {H1 H' : Hp} {en : En} {d : Addr} {kvs : List (Key × V)} {od : Obj} {v : V} {r : Rs} (hd1 : H1 d = some (.dK kvs)) (hd : H' d = some (.frz od (.dK kvs))) (nd : ¬ ownA σ en d) (h0 : ∀ o, G.H_0 d = some o → (∀ i, G.ba i ≠ some d) → o = .dK kvs)
    (h : ResOk (G.no d) Z σ (upd H1 d (.frz od (.dK kvs))) H' en v r) : ResOk G Z σ H1 (upd H' d (.dK kvs)) en v r := by
  cases r with
  | val x => exact h.lk (lk_unlock hd)
  | fr x =>
    obtain ⟨p, rfl, hp, g, b⟩ := h
    have ne : p ≠ d := fun e => by rw [e, upd_same] at hp; cases hp
    rw [upd_ne ne] at hp
    exact ⟨p, rfl, hp, g.unlock hd nd h0, b.lk (lk_unlock hd) fun o ho => by rw [upd_ne ne]; exact ho⟩
theorem keys_src {ex : Ex} (hp : ∀ i, ex ≠ .peek i) {env env1 : En} {xs : List Av1} {ds its : List D} (h1 : evalAs rf C [ex] env = some (xs, env1)) (h2 : valsOf xs = some ds) (h3 : itemsD .keys ds = some its) :
    ∃ r kds, evalE rf C ex env = some (r, env1) ∧ r.d = .dic kds ∧ its = kds.map fun kd => keyD kd.1 := by
  rw [evalAs_cons hp] at h1
  cases he : evalE rf C ex env with
  | none => rw [he] at h1; cases h1
  | some p =>
    obtain ⟨r, en⟩ := p
    rw [he] at h1
    simp only [evalAs, Option.some.injEq, Prod.mk.injEq] at h1
    obtain ⟨rfl, rfl⟩ := h1
    simp only [valsOf, Option.map_some, Option.some.injEq] at h2
    subst h2
    unfold itemsD itKeys at h3
    simp only at h3
    split at h3
    · rename_i kds e
      simp only [List.cons.injEq, and_true] at e
      simp only [Option.some.injEq] at h3
      exact ⟨r, kds, rfl, e, h3.symm⟩
    · cases h3
theorem lc_redD {elt : Ex} {tg : Tg} {ex : Ex} {ifs : List Ex} {vs : List Nat} (hp : ∀ i, ex ≠ .peek i) (hK : G.K = X.K) (hv : ∀ i ∈ tgI tg, i ∈ vs) (σ : L2.St) (H : Hp) (Q : VK) (h : tEv G (evLc rf C elt tg .keys [ex] ifs vs) σ H Q) :
    tLc (iKL X (tE G rf C ex)) (gBX X.K tg) (tIX X.K rf C ifs) (tEX X.K rf C elt) vs σ H (unlP X Q) := by
  obtain ⟨Z, env, r, env', g, h, q⟩ := h
  obtain ⟨xs, env1, ds, its, out, env2, h1, h2, h3, hps, hsz, h4, rfl, rfl⟩ := evLc_inv h
  obtain ⟨r, kds, he, hr, rfl⟩ := keys_src hp h1 h2 h3
  refine ⟨Z, env, r, env1, g, he, fun v H1 p1 ro => ?_⟩
  have rp := ro.rep g
  rw [hr] at rp
  have q1 : ∀ v H', Post G Z σ H1 env1 σ H' (backE env1 env2 vs) → ResOk G Z σ H1 H' (backE env1 env2 vs) v (.fr (.lst out)) → Q v H' := fun v H' P ro => q v H' (p1.trans P) (by
    obtain ⟨D, e, hD, r⟩ := ro
    exact ⟨D, e, p1.there D hD, r⟩)
  cases rp with
  | dic hd n rk =>
    rename_i d kvs
    have nd : ¬ ownA σ env1 d := fun z => n (.inl z)
    have hk : kvs.map (·.1) = kds.map (·.1) := rk.keys
    refine ⟨d, kvs, rfl, ?_⟩
    rcases hd with hd | ⟨o, hd⟩
    · refine .inl ⟨hd, fun od nf => ?_⟩
      have h0 : ∀ o, G.H_0 d = some o → (∀ i, G.ba i ≠ some d) → o = .dK kvs := fun o ho hn => by
        have := p1.good.frame d o ho hn
        rw [hd] at this
        cases this
        rfl
      refine lc_core (G := G.no d) hv (p1.good.lock hd nd) ⟨upd_same, n⟩ (walk_keys hk) hps hsz h4 (fun v H' P ro => ?_) (fun _ _ _ _ h => ⟨G.no d, hK, h⟩) (fun _ _ _ h => ⟨G.no d, hK, h⟩) fun _ _ _ h => ⟨G.no d, hK, h⟩
      obtain ⟨hd', nd', P'⟩ := P.unlock p1.good hd nd
      exact .inr ⟨d, od, _, hd', nf, q1 v _ P' (ResOk.unlock hd hd' nd' h0 ro)⟩
    · refine .inr ⟨o, hd, ?_⟩
      exact lc_core (G := G) hv p1.good ⟨hd, n⟩ (walk_keys hk) hps hsz h4 (fun v H' P ro => .inl (q1 v H' P ro)) (fun _ _ _ _ h => ⟨_, hK, h⟩) (fun _ _ _ h => ⟨_, hK, h⟩) fun _ _ _ h => ⟨_, hK, h⟩
end
end
end Ofw
/-! Ofw 12: the text against the small language: operations -/
namespace Ofw
open PySem L2
/-- what the text's module has: its defs, the builtins that no name of it hides, its constants -/
structure Tab where
  fn : Str → Option Nat
  blt : List Str
  cst : Str → Option Const
  kw : Nat → List (Nat × List Str × List Nat)
def noStar : Expr → Bool
  | .Starred _ _ => false
  | _ => true
def isSl : Expr → Bool
  | .Slice _ _ _ _ => true
  | _ => false
/-- a thing whose attribute is looked up in no special way -/
def plainB : Expr → Bool
  | .Name _ _ => true
  | .List _ _ => true
  | .Subscript _ _ _ => true
  | _ => false
def glb (sc : Scope) (x : Str) : Bool := decide (sc.names.lookup x = some .globalImplicit)
def bltOk (T : Tab) (sc : Scope) (x : Str) : Bool := glb sc x && T.blt.contains x
/-- builtins called by their names, with so many arguments -/
def bName : Tag → Option (Str × Nat)
  | .len => some ("len", 1) | .abs1 => some ("abs", 1) | .min2 => some ("min", 2) | .max2 => some ("max", 2)
  | .sum1 => some ("sum", 1) | .all1 => some ("all", 1) | .any1 => some ("any", 1) | .sorted1 => some ("sorted", 1)
  | .int1 => some ("int", 1) | .bool1 => some ("bool", 1) | .str1 => some ("str", 1) | .tuple1 => some ("tuple", 1) | .list1 => some ("list", 1)
  | .repr1 => some ("repr", 1) | .divmod2 => some ("divmod", 2) | .dict1 => some ("dict", 1)
  | _ => none
def shape (T : Tab) (sc : Scope) (t : Tag) (e : Expr) : Option (List Expr) := match t with
  | .bin op => match e with
    | .BinOp a op' b _ => if op = op' then some [a, b] else none
    | _ => none
  | .cmp op => match e with
    | .Compare a [op'] [b] _ => if op = op' ∧ behindInMarks op b = false then some [a, b] else none
    | _ => none
  | .neg => match e with
    | .UnaryOp .USub a _ => some [a]
    | _ => none
  | .tup => match e with
    | .Tuple es _ _ => some es
    | _ => none
  | .lst => match e with
    | .List es _ => some es
    | _ => none
  | .idx => match e with
    | .Subscript a i _ => if isSl i = false then some [a, i] else none
    | _ => none
  | .isi U => match e with
    | .Call (.Name f _) [a, .Name tn _] [] _ => if f = "isinstance" ∧ tn = Str.ofString U.name ∧ bltOk T sc f = true ∧ bltOk T sc tn = true then some [a] else none
    | _ => none
  | .call f => match e with
    | .Call (.Name x _) (a :: es) [] _ => if T.fn x = some f ∧ glb sc x = true ∧ (x == ("__debug__" : Str)) = false then some (a :: es) else none
    | _ => none
  | .callK f np ks pm => match e with
    | .Call (.Name x _) es kws _ => if T.fn x = some f ∧ glb sc x = true ∧ (x == ("__debug__" : Str)) = false ∧ es.length = np ∧ kws.map (·.arg) = ks.map some ∧ (np, ks, pm) ∈ T.kw f then some (es ++ kws.map (·.value)) else none
    | _ => none
  | .upper => match e with
    | .Call (.Attribute (.Name y py) x apos) [] [] pos => if x = "upper" ∧ (apos.endLine == pos.line) = true then some [.Name y py] else none
    | _ => none
  | .join sep => match e with
    | .Call (.Attribute (.Constant (.str z) _ _) x apos) [a] [] pos => if x = "join" ∧ z = sep ∧ (apos.endLine == pos.line) = true then some [a] else none
    | _ => none
  | .get1 => match e with
    | .Call (.Attribute o x apos) [a] [] pos => if x = "get" ∧ (apos.endLine == pos.line) = true ∧ plainB o = true then some [o, a] else none
    | _ => none
  | .index1 => match e with
    | .Call (.Attribute o x apos) [a] [] pos => if x = "index" ∧ (apos.endLine == pos.line) = true ∧ plainB o = true then some [o, a] else none
    | _ => none
  | .listR1 => match e with
    | .Call (.Name x _) [.Call (.Name y _) [a] [] _] [] _ => if x = "list" ∧ y = "range" ∧ bltOk T sc x = true ∧ bltOk T sc y = true then some [a] else none
    | _ => none
  | .listR2 => match e with
    | .Call (.Name x _) [.Call (.Name y _) [a, b] [] _] [] _ => if x = "list" ∧ y = "range" ∧ bltOk T sc x = true ∧ bltOk T sc y = true then some [a, b] else none
    | _ => none
  | .tupR1 => match e with
    | .Call (.Name x _) [.Call (.Name y _) [a] [] _] [] _ => if x = "tuple" ∧ y = "range" ∧ bltOk T sc x = true ∧ bltOk T sc y = true then some [a] else none
    | _ => none
  | .tupR2 => match e with
    | .Call (.Name x _) [.Call (.Name y _) [a, b] [] _] [] _ => if x = "tuple" ∧ y = "range" ∧ bltOk T sc x = true ∧ bltOk T sc y = true then some [a, b] else none
    | _ => none
  | .dic 0 => match e with
    | .Dict [] [] _ => some []
    | _ => none
  | .sum2 => match e with
    | .Call (.Name x _) [a] [⟨some k, b, _⟩] _ => if x = "sum" ∧ k = "start" ∧ bltOk T sc x = true then some [a, b] else none
    | _ => none
  | .sortedSet => match e with
    | .Call (.Name x _) [.Call (.Name y _) [a] [] _] [] _ => if x = "sorted" ∧ y = "set" ∧ bltOk T sc x = true ∧ bltOk T sc y = true then some [a] else none
    | _ => none
  | t => match e with
    | .Call (.Name x _) (a :: es) [] _ => match bName t with
      | some (n, k) => if x = n ∧ bltOk T sc x = true ∧ (a :: es).length = k then some (a :: es) else none
      | none => none
    | _ => none
section
variable (G : Gx) (rf : Nat → List Bool) (C : CallT)
inductive PEs (X : Cx) : List Expr → List Ex → Prop where
  | nil : PEs X [] []
  | cons {e : Expr} {a : Ex} {es : List Expr} {as : List Ex} : PE X e (tArg G rf C a) → noStar e = true → PEs X es as → PEs X (e :: es) (a :: as)
end
/-- what is known of the module around, where X runs -/
structure CtxOk (T : Tab) (rf : Nat → List Bool) (C : CallT) (N : List Str) (sc : Scope) (X : Cx) : Prop where
  names : X.N = N
  nd : N.Nodup
  scope : X.env.scope = sc
  calm : X.calm = true
  units : X.A.units + 64 < cLine
  guards : X.A.guards = some []
  fns : ∀ x f, T.fn x = some f → ∃ k a fd ps, Room k X.A ∧ X.mg x = some (.ref a) ∧ PySem.W.keepIn X.K (.ref a) = true ∧ Binds X.K fd ps [] ∧ FnG X.prog X.w X.K X.mg X.base k a fd ps (spF X.K (rf f) C f) ∧ ∀ p ∈ T.kw f, KB X.K fd ps p.1 p.2.1 p.2.2
  blts : ∀ x, T.blt.contains x = true → X.mg x = none
  csts : ∀ x c, T.cst x = some c → ∃ u, X.mg x = some u ∧ match c with
    | .int i => ∃ t, u = .int i t
    | .str s => ∃ t, u = .str s t
    | .bool b => u = .bool b
    | _ => False
section
variable {G : Gx} {rf : Nat → List Bool} {C : CallT} {X : Cx} {T : Tab} {N : List Str} {sc : Scope}
theorem star_one {e : Expr} (h : noStar e = true) (es : List Expr) (env : Env) : starEach (e :: es) env = (false, eval e env) :: starEach es env := by
  cases e <;> first | rfl | cases h
theorem PEs.pa : ∀ {es : List Expr} {as : List Ex}, PEs G rf C X es as → PA X es (tArgs G rf C as)
  | _, _, .nil => pa_nil
  | _, _, .cons h n r => pa_cons h (PEs.pa r) (star_one n _ _)
theorem PEs.plain {pos : Pos} : ∀ {es : List Expr} {as : List Ex}, PEs G rf C X es as → (backTo pos (starEach es X.env)).any (·.1) = false
  | _, _, .nil => rfl
  | _, _, .cons (es := es) h n r => by
    have ih := PEs.plain (pos := pos) r
    rw [star_one n]
    unfold backTo at ih ⊢
    rw [List.map_cons, List.any_cons, ih]
    rfl
theorem tArg_mono {a : Ex} {σ : L2.St} {H : Hp} {Q Q' : VK} (m : ∀ v H, Q v H → Q' v H) (h : tArg G rf C a σ H Q) : tArg G rf C a σ H Q' := by
  by_cases hp : ∃ i, a = .peek i
  · obtain ⟨i, rfl⟩ := hp
    obtain ⟨v, hv, q⟩ := h
    exact ⟨v, hv, m _ _ q⟩
  · rw [tArg_of fun i e => hp ⟨i, e⟩] at h ⊢
    obtain ⟨Z, env, r, env', g, h1, q⟩ := h
    exact ⟨Z, env, r, env', g, h1, fun v H' p ro => m _ _ (q v H' p ro)⟩
theorem PEs.len : ∀ {es : List Expr} {as : List Ex}, PEs G rf C X es as → as.length = es.length
  | _, _, .nil => rfl
  | _, _, .cons _ _ r => by rw [List.length_cons, List.length_cons, PEs.len r]
theorem PEs.split : ∀ {es fs : List Expr} {as : List Ex}, PEs G rf C X (es ++ fs) as → ∃ as1 as2, as = as1 ++ as2 ∧ PEs G rf C X es as1 ∧ PEs G rf C X fs as2
  | [], fs, as, h => ⟨[], as, rfl, .nil, h⟩
  | e :: es, fs, _, .cons h n r => by
    obtain ⟨as1, as2, e1, p1, p2⟩ := PEs.split r
    exact ⟨_ :: as1, as2, by rw [e1]; rfl, .cons h n p1, p2⟩
theorem PEs.pk : ∀ {kws : List Keyword} {as : List Ex}, PEs G rf C X (kws.map (·.value)) as → PK X kws (tArgs G rf C as)
  | [], _, .nil => pk_nil
  | ⟨nm, e, kp⟩ :: kws, _, .cons h _ r => pk_cons h (PEs.pk r)
theorem tArgs_len : ∀ {as : List Ex} {σ : L2.St} {H : Hp} {Q : List V → Hp → Prop}, tArgs G rf C as σ H Q → tArgs G rf C as σ H (fun vs H1 => vs.length = as.length ∧ Q vs H1)
  | [], σ, H, Q, h => ⟨rfl, h⟩
  | a :: as, σ, H, Q, h => tArg_mono (fun v H1 h => tArgs_mono (fun vs H2 h => ⟨by rw [List.length_cons, List.length_cons, h.1], h.2⟩) (tArgs_len h)) (show tArg G rf C a σ H fun x H1 => tArgs G rf C as σ H1 fun xs H2 => Q (x :: xs) H2 from h)
theorem tArgs_app : ∀ {as bs : List Ex} {σ : L2.St} {H : Hp} {Q : List V → Hp → Prop}, tArgs G rf C (as ++ bs) σ H Q → tArgs G rf C as σ H (fun vs H1 => tArgs G rf C bs σ H1 fun zs H2 => vs.length = as.length ∧ zs.length = bs.length ∧ Q (vs ++ zs) H2)
  | [], bs, σ, H, Q, h => show tArgs G rf C bs σ H fun zs H2 => ([] : List V).length = ([] : List Ex).length ∧ zs.length = bs.length ∧ Q ([] ++ zs) H2 from tArgs_mono (fun vs H1 h => ⟨rfl, h.1, h.2⟩) (tArgs_len (show tArgs G rf C bs σ H Q from h))
  | a :: as, bs, σ, H, Q, h => tArg_mono (fun v H1 h => tArgs_mono (fun vs H2 h => tArgs_mono (fun zs H3 h => ⟨by rw [List.length_cons, List.length_cons, h.1], h.2.1, h.2.2⟩) h) (tArgs_app h)) (show tArg G rf C a σ H fun x H1 => tArgs G rf C (as ++ bs) σ H1 fun xs H2 => Q (x :: xs) H2 from h)
theorem Gl_of (ok : CtxOk T rf C N sc X) {x : Str} (h : glb sc x = true) : Gl X x := by
  unfold Gl
  show X.env.scope.names.lookup x = _
  rw [ok.scope]
  exact of_decide_eq_true h
theorem blt_of (ok : CtxOk T rf C N sc X) {x : Str} (h : bltOk T sc x = true) : Gl X x ∧ X.mg x = none := by
  unfold bltOk at h
  simp only [Bool.and_eq_true] at h
  exact ⟨Gl_of ok h.1, ok.blts x h.2⟩
theorem pe_blt {id : String} {t : Tag} {x : Str} {p pos : Pos} {e : Expr} {es : List Expr} {as : List Ex} (hK : G.K = X.K) (hr : CallR X (.builtin id) (rTag X.K t)) (ht : isCall t = false) (hs : storing t = false) (hg : Gl X x) (hm : X.mg x = none) (hv : bootBuiltins x = some (.builtin id))
    (hn : x ≠ "__name__") (hd : (x == ("__debug__" : Str)) = false) (ps : PEs G rf C X (e :: es) as) : PE X (.Call (.Name x p) (e :: es) [] pos) (tE G rf C (.op t as)) := by
  have pl : (backTo pos (starEach es X.env)).any (·.1) = false := by cases ps with | cons _ _ r => exact r.plain
  have st : starEach (e :: es) X.env = (false, eval e X.env) :: starEach es X.env := by cases ps with | cons _ n r => exact star_one n _ _
  refine (pe_callB hr hg hm hv ps.pa hn hd st pl).imp fun σ H Q q => ?_
  have h := op_red ht hs q
  rw [hK] at h
  exact h
theorem pe_bty {id : String} {t : Tag} {x : Str} {p pos : Pos} {e : Expr} {es : List Expr} {as : List Ex} (hK : G.K = X.K) (hr : CallR X (.type id) (rTag X.K t)) (ht : isCall t = false) (hs : storing t = false) (hg : Gl X x) (hm : X.mg x = none) (hv : bootBuiltins x = some (.type id))
    (hn : x ≠ "__name__") (hd : (x == ("__debug__" : Str)) = false) (ps : PEs G rf C X (e :: es) as) : PE X (.Call (.Name x p) (e :: es) [] pos) (tE G rf C (.op t as)) := by
  have pl : (backTo pos (starEach es X.env)).any (·.1) = false := by cases ps with | cons _ _ r => exact r.plain
  have st : starEach (e :: es) X.env = (false, eval e X.env) :: starEach es X.env := by cases ps with | cons _ n r => exact star_one n _ _
  refine (pe_callTy hr hg hm hv ps.pa hn hd st pl).imp fun σ H Q q => ?_
  have h := op_red ht hs q
  rw [hK] at h
  exact h
theorem noSl_plain {i : Expr} (h : isSl i = false) : PlainIx i := by
  intro o k
  cases i <;> first | rfl | cases h
theorem two_of {es : List Expr} {as : List Ex} {a b : Expr} (h : PEs G rf C X [a, b] as) : ∃ x y, as = [x, y] ∧ PE X a (tArg G rf C x) ∧ PE X b (tArg G rf C y) := by
  cases h with
  | cons h1 _ r => cases r with
    | cons h2 _ r => cases r; exact ⟨_, _, rfl, h1, h2⟩
theorem one_of {as : List Ex} {a : Expr} (h : PEs G rf C X [a] as) : ∃ x, as = [x] ∧ PE X a (tArg G rf C x) := by
  cases h with
  | cons h1 _ r => cases r; exact ⟨_, rfl, h1⟩
theorem cmp_bl {op : CmpOp} {as : List Ex} (env : En) (r : Rs) (env' : En) (h : evalE rf C (.op (.cmp op) as) env = some (r, env')) : ∃ b, r = .val (.bl b) := by
  simp only [evalE] at h
  cases h1 : evalAs rf C as env with
  | none => rw [h1] at h; cases h
  | some p =>
    obtain ⟨xs, env1⟩ := p
    rw [h1] at h
    simp only [applyT] at h
    cases h2 : (if storing (.cmp op) = true then valsOf xs else looks env1 xs) with
    | none => rw [h2] at h; cases h
    | some ds =>
      rw [h2] at h
      cases h3 : primD (.cmp op) ds with
      | none => simp only [h3, Option.map_none] at h; cases h
      | some res =>
        simp only [h3, Option.map_some, Option.some.injEq, Prod.mk.injEq] at h
        obtain ⟨rfl, rfl⟩ := h
        change prCmp op ds = some res at h3
        unfold prCmp at h3
        split at h3
        · rename_i a b
          cases h4 : cmpD op a b with
          | none => rw [h4] at h3; cases h3
          | some k => rw [h4] at h3; cases h3; exact ⟨k, rfl⟩
        · cases h3
theorem ty_boot (U : Ty) : bootBuiltins (Str.ofString U.name) = some (.type U.name) := by cases U <;> decide +kernel
theorem ty_nm (U : Ty) : Str.ofString U.name ≠ "__name__" := by cases U <;> decide +kernel
theorem ty_db (U : Ty) : (Str.ofString U.name == ("__debug__" : Str)) = false := by cases U <;> decide +kernel
/-- two arguments that are values -/
theorem op_redM {t : Tag} {a b : Ex} (ht : isCall t = false) (hs : storing t = true) {σ : L2.St} {H : Hp} {Q : VK} (h : tE G rf C (.op t [a, b]) σ H Q) :
    ∃ d e res, primD t [d, e] = some res ∧ tArg G rf C a σ H fun v H1 => (∃ Y, Rep G.K H1 Y v d) ∧ tArg G rf C b σ H1 fun w H2 => ∃ Y : Ys, (∀ a, Y a → H2 a ≠ none) ∧ Rep G.K H2 Y v d ∧ Rep G.K H2 Y w e ∧ ∀ z H', Same H2 H' → PRes G.K H2 H' Y z res → Q z H' := by
  obtain ⟨Z, env, xs, env1, ds, res, g, h1, h2, h3, q⟩ := op_red0 ht h
  rw [if_pos hs] at h2
  have np : ∀ (c : Ex) (cs : List Ex) (en en1 : En) (ys : List Av1) (es : List D), evalAs rf C (c :: cs) en = some (ys, en1) → valsOf ys = some es → ∀ i, c ≠ .peek i := by
    intro c cs en en1 ys es e1 e2 i e
    subst e
    simp only [evalAs] at e1
    cases hz : en[i]? with
    | none => rw [hz] at e1; cases e1
    | some sl =>
      rw [hz] at e1
      cases e3 : evalAs rf C cs en with
      | none => rw [e3] at e1; cases sl <;> cases e1
      | some p =>
        obtain ⟨zs, en2⟩ := p
        rw [e3] at e1
        cases sl <;> simp only [Option.some.injEq, Prod.mk.injEq, reduceCtorEq] at e1
        all_goals (obtain ⟨rfl, _⟩ := e1; simp [valsOf] at e2)
  have ha := np a [b] env env1 xs ds h1 h2
  rw [evalAs_cons ha] at h1
  cases e1 : evalE rf C a env with
  | none => rw [e1] at h1; cases h1
  | some p =>
    obtain ⟨r1, enva⟩ := p
    rw [e1] at h1
    simp only at h1
    cases e2 : evalAs rf C [b] enva with
    | none => rw [e2] at h1; cases h1
    | some p =>
      obtain ⟨ys, enb⟩ := p
      rw [e2] at h1
      simp only [Option.some.injEq, Prod.mk.injEq] at h1
      obtain ⟨rfl, rfl⟩ := h1
      simp only [valsOf] at h2
      obtain ⟨es, h4, rfl⟩ := Option.map_eq_some_iff.mp h2
      have hb := np b [] enva enb ys es e2 h4
      have e2' := e2
      rw [evalAs_cons hb] at e2'
      cases e3 : evalE rf C b enva with
      | none => rw [e3] at e2'; cases e2'
      | some p =>
        obtain ⟨r2, env2⟩ := p
        rw [e3] at e2'
        simp only [evalAs, Option.some.injEq, Prod.mk.injEq] at e2'
        obtain ⟨rfl, rfl⟩ := e2'
        simp only [valsOf, Option.map_some, Option.some.injEq] at h4
        subst h4
        refine ⟨r1.d, r2.d, res, h3, ?_⟩
        rw [tArg_of ha]
        refine ⟨Z, env, r1, enva, g, e1, fun v H1 p1 ro1 => ⟨⟨_, ro1.rep g⟩, ?_⟩⟩
        rw [tArg_of hb]
        exact ⟨Z, enva, r2, env2, p1.good, e3, fun w H2 p2 ro2 => ⟨Av σ env2 Z, fun a y => p2.good.avdom y, p2.rep (ro1.rep g), ro2.rep p1.good, q H2 (p1.trans p2)⟩⟩
theorem m1_of {o e : Expr} {m : Str} {apos cpos : Pos} (hb : attributeBase o m X.env (eval o X.env) = eval o X.env) (hn : noStar e = true) (hl : (apos.endLine == cpos.line) = true) : M1 X o m apos e cpos where
  base := hb
  few := by rw [star_one hn]; rfl
  line := hl
  trees := by rw [star_one hn]; rfl
theorem e_get1 (hK : G.K = X.K) (hu : X.A.units + 1 < cLine) {o e : Expr} {a b : Ex} {apos cpos : Pos} (ho : PE X o (tArg G rf C a)) (he : PE X e (tArg G rf C b)) (hb : attributeBase o "get" X.env (eval o X.env) = eval o X.env) (hn : noStar e = true) (hl : (apos.endLine == cpos.line) = true) :
    PE X (.Call (.Attribute o "get" apos) [e] [] cpos) (tE G rf C (.op .get1 [a, b])) := by
  refine (pe_dget1 hu ho he (m1_of hb hn hl)).imp fun σ H Q q => ?_
  obtain ⟨d, e, res, hp, ta⟩ := op_redM rfl rfl q
  have key : ∀ (kds : List (Key × D)) (k : Key), d = .dic kds → e = keyD k → res = .val ((getK kds k).getD .non) → tDGet1 (tArg G rf C a) (tArg G rf C b) σ H Q := fun kds k e1 e2 e3 => by
    subst e1; subst e2; subst e3
    refine tArg_mono (fun v H1 ⟨⟨Y, rp⟩, tb⟩ => ?_) ta
    obtain ⟨p, kvs, rfl, rd, _⟩ := AR.dic (.inl rp)
    refine ⟨p, rfl, .inl ⟨kvs, rd⟩, tArg_mono (fun w H2 ⟨Y2, hY, rp2, rw2, q2⟩ => ?_) tb⟩
    obtain ⟨p', kvs2, ep, rd2, rk⟩ := AR.dic (.inl rp2)
    cases ep
    have hw : w = kV k := by cases k <;> (simp only [keyD] at rw2; cases rw2; rfl)
    subst hw
    refine ⟨_, dgetR (k := k) rd2, ?_⟩
    obtain ⟨g1, g2⟩ := getK_ok k rk
    cases hg : getK kds k with
    | none => rw [g2 hg]; rw [hg] at q2; exact q2 _ H2 (Same.refl H2) .non
    | some x =>
      obtain ⟨w, hw, rpw⟩ := g1 x hg
      rw [hw]
      rw [hg] at q2
      exact q2 _ H2 (Same.refl H2) rpw
  change prGet1 [d, e] = some res at hp
  unfold prGet1 at hp
  split at hp
  · rename_i heq
    cases heq
    cases hp
    exact key _ (.inl _) rfl rfl rfl
  · rename_i heq
    cases heq
    cases hp
    exact key _ (.inr _) rfl rfl rfl
  · cases hp
theorem e_index1 (hK : G.K = X.K) {o e : Expr} {a b : Ex} {apos cpos : Pos} (ho : PE X o (tArg G rf C a)) (he : PE X e (tArg G rf C b)) (hb : attributeBase o "index" X.env (eval o X.env) = eval o X.env) (hn : noStar e = true) (hl : (apos.endLine == cpos.line) = true) :
    PE X (.Call (.Attribute o "index" apos) [e] [] cpos) (tE G rf C (.op .index1 [a, b])) := by
  have few : ((backTo cpos (starEach [e] X.env)).all (fun x => !x.1) && (backToKw cpos (keywordEach [] X.env)).all (fun x => x.1.isSome) && decide (([e] : List Expr).length + ([] : List Keyword).length + (if ([] : List Keyword).isEmpty then 0 else 1) < 30)) = true := by rw [star_one hn]; rfl
  have pL := pe_bm (X := X) PySem.F.plainAttrs_list PySem.F.slot_list_index PySem.F.type_list_index mt_index ho (pa_cons he pa_nil (star_one hn _ _)) hb few hl (star_one hn _ _) rfl
  refine pL.imp fun σ H Q q => ?_
  obtain ⟨d, e, res, hp, ta⟩ := op_redM rfl rfl q
  change prIndex1 [d, e] = some res at hp
  unfold prIndex1 at hp
  split at hp
  · rename_i heq
    cases heq
    refine tArg_mono (fun v H1 ⟨⟨Y, rp⟩, tb⟩ => ?_) ta
    obtain ⟨p, vs, rfl, e1, _⟩ := AR.lst (.inl rp)
    refine ⟨.inl ⟨rfl, vs, SqL.of e1⟩, tArg_mono (fun w H2 ⟨Y2, hY, rp2, rw2, q2⟩ => ?_) tb⟩
    rw [hK] at rp2 rw2 q2
    exact (r_indexL (X := X) (.inl rp2) (.inl rw2) hp q2).2
  · cases hp
theorem plainB_ok {o : Expr} {m : Str} (h : plainB o = true) : attributeBase o m X.env (eval o X.env) = eval o X.env := by
  cases o <;> first | rfl | cases h
theorem r_listR1 {x : V} {H : Hp} {Q : VK} (h : rTag X.K .listR1 [x] H Q) : ∃ n, x = .int n ∧ RgOk 0 n ∧ ∀ q, H q = none → Q (.ref q) (upd H q (.lst (rgV 0 n))) := by
  obtain ⟨Y, ds, res, hY, ar, h, q⟩ := h
  change prListR1 ds = some res at h
  unfold prListR1 at h
  split at h
  · obtain ⟨x', e, ha⟩ := ar.one
    cases e
    obtain rfl := ha.int
    split at h
    · cases h
      exact ⟨_, rfl, rgOk_of ‹_›, fun p hp => q _ _ (same_new hp) (new_lst hp (vals_rgD _ _))⟩
    · cases h
  · cases h
theorem r_listR2 {x y : V} {H : Hp} {Q : VK} (h : rTag X.K .listR2 [x, y] H Q) : ∃ i j, x = .int i ∧ y = .int j ∧ RgOk i j ∧ ∀ q, H q = none → Q (.ref q) (upd H q (.lst (rgV i j))) := by
  obtain ⟨Y, ds, res, hY, ar, h, q⟩ := h
  change prListR2 ds = some res at h
  unfold prListR2 at h
  split at h
  · obtain ⟨x', y', e, ha, hb⟩ := ar.two
    cases e
    obtain rfl := ha.int
    obtain rfl := hb.int
    split at h
    · cases h
      exact ⟨_, _, rfl, rfl, rgOk_of ‹_›, fun p hp => q _ _ (same_new hp) (new_lst hp (vals_rgD _ _))⟩
    · cases h
  · cases h
theorem r_tupR1 {x : V} {H : Hp} {Q : VK} (h : rTag X.K .tupR1 [x] H Q) : ∃ n, x = .int n ∧ RgOk 0 n ∧ ∀ q, H q = none → Q (.ref q) (upd H q (.tup (rgV 0 n))) := by
  obtain ⟨Y, ds, res, hY, ar, h, q⟩ := h
  change prTupR1 ds = some res at h
  unfold prTupR1 at h
  split at h
  · obtain ⟨x', e, ha⟩ := ar.one
    cases e
    obtain rfl := ha.int
    split at h
    · cases h
      exact ⟨_, rfl, rgOk_of ‹_›, fun p hp => q _ _ (same_new hp) (new_tup hY hp (vals_rgD _ _))⟩
    · cases h
  · cases h
theorem r_tupR2 {x y : V} {H : Hp} {Q : VK} (h : rTag X.K .tupR2 [x, y] H Q) : ∃ i j, x = .int i ∧ y = .int j ∧ RgOk i j ∧ ∀ q, H q = none → Q (.ref q) (upd H q (.tup (rgV i j))) := by
  obtain ⟨Y, ds, res, hY, ar, h, q⟩ := h
  change prTupR2 ds = some res at h
  unfold prTupR2 at h
  split at h
  · obtain ⟨x', y', e, ha, hb⟩ := ar.two
    cases e
    obtain rfl := ha.int
    obtain rfl := hb.int
    split at h
    · cases h
      exact ⟨_, _, rfl, rfl, rgOk_of ‹_›, fun p hp => q _ _ (same_new hp) (new_tup hY hp (vals_rgD _ _))⟩
    · cases h
  · cases h
theorem r_dict1 (hc : X.calm = true) : CallR X (.type "dict") (rTag X.K .dict1) := by
  intro pins s σ H xs us Q I r ⟨Y, ds, res, hY, ar, h, q⟩
  change prDict1 ds = some res at h
  unfold prDict1 at h
  split at h
  · obtain ⟨x, rfl, ha⟩ := ar.one
    obtain ⟨p, vs, rfl, e, rr⟩ := ha.dic
    cases h
    exact call_dictD pins s σ H _ us Q I r ⟨p, vs, rfl, e, fun p hp => q _ _ (same_new hp) (new_dic hp rr)⟩
  · obtain ⟨x, rfl, ha⟩ := ar.one
    obtain ⟨p, vs, rfl, e, rr⟩ := ha.lst
    obtain ⟨kds, hk, rfl⟩ := Option.map_eq_some_iff.mp h
    obtain ⟨ps, kvs, rfl, pp, rk⟩ := pairs_ok rr hk
    exact call_dictP hc pins s σ H _ us Q I r ⟨p, ps, kvs, rfl, SqL.of e, pp, fun p hp => q _ _ (same_new hp) (new_dic hp (mergeK_ok rk .nil))⟩
  · cases h
theorem r_upper {x : V} {H : Hp} {Q : VK} (h : rTag X.K .upper [x] H Q) : (∃ a, x = .str a) ∧ ∃ a, x = .str a ∧ ([] : List V) = [] ∧ a.length ≤ 5592405 ∧ Q (.str (Txt.upper a)) H := by
  obtain ⟨Y, ds, res, hY, ar, h, q⟩ := h
  change prUpper ds = some res at h
  unfold prUpper at h
  split at h
  · obtain ⟨x', e, ha⟩ := ar.one
    cases e
    obtain rfl := ha.str
    split at h
    · cases h
      exact ⟨⟨_, rfl⟩, _, rfl, rfl, ‹_›, q _ H (Same.refl H) (.str _)⟩
    · cases h
  · cases h
theorem r_join {sep : Str} {x : V} {H : Hp} {Q : VK} (h : rTag X.K (.join sep) [x] H Q) : ∃ a p, ∃ ys : List Str, V.str sep = .str a ∧ [x] = [.ref p] ∧ (SqL X.K H p (ys.map V.str) ∨ SqT X.K H p (ys.map V.str)) ∧
      (ys.map (·.length)).sum + ys.length * a.length ≤ 16777216 ∧ Q (.str (Txt.join a ys)) H := by
  obtain ⟨Y, ds, res, hY, ar, h, q⟩ := h
  change prJoin sep ds = some res at h
  unfold prJoin at h
  split at h
  · obtain ⟨x', e, ha⟩ := ar.one
    cases e
    obtain ⟨p, vs, rfl, e, rr⟩ := ha.lst
    rename_i ds
    cases hn : strsD ds with
    | none => rw [hn] at h; cases h
    | some ns =>
      rw [hn] at h
      simp only [Option.bind_some] at h
      split at h
      · cases h
        rw [strsD_ok hn] at rr
        obtain rfl := rr.strs
        exact ⟨sep, p, ns, rfl, rfl, .inl (SqL.of e), ‹_›, q _ H (Same.refl H) (.str _)⟩
      · cases h
  · obtain ⟨x', e, ha⟩ := ar.one
    cases e
    obtain ⟨p, vs, rfl, e, rr, rp⟩ := ha.tup
    rename_i ds
    cases hn : strsD ds with
    | none => rw [hn] at h; cases h
    | some ns =>
      rw [hn] at h
      simp only [Option.bind_some] at h
      split at h
      · cases h
        rw [strsD_ok hn] at rr
        obtain rfl := rr.strs
        exact ⟨sep, p, ns, rfl, rfl, .inr e, ‹_›, q _ H (Same.refl H) (.str _)⟩
      · cases h
  · cases h
theorem r_dic0 {K : PySem.W.Frag} {H : Hp} {Q : VK} (h : rTagV K (.dic 0) [] H Q) : ∀ p, H p = none → Q (.ref p) (upd H p (.dK [])) := by
  obtain ⟨Y, ds, res, hY, ar, h, q⟩ := h
  cases ar
  cases h
  intro p hp
  exact q _ _ (same_new hp) ⟨p, rfl, hp, [], upd_same, .nil⟩
/-- an operation of the text is what the evaluator reckons -/
theorem sound_op (ok : CtxOk T rf C N sc X) (hK : G.K = X.K) {t : Tag} {e : Expr} {es : List Expr} {as : List Ex} (hsh : shape T sc t e = some es) (ps : PEs G rf C X es as) : PE X e (tE G rf C (.op t as)) ∧ PT X e (tTv G (evalE rf C (.op t as))) := by
  have viaPE : (PE X e (tE G rf C (.op t as))) → (∀ whole, isTrue e X.env whole = (do let v ← whole; standAt e.pos; holding [v] (truthy v))) → PE X e (tE G rf C (.op t as)) ∧ PT X e (tTv G (evalE rf C (.op t as))) := fun h he => ⟨h, pt_of_pe hK.symm h he⟩
  have hu1 : X.A.units + 1 < cLine := by have := ok.units; omega
  unfold shape at hsh
  split at hsh
  · split at hsh <;> try cases hsh
    split at hsh <;> try cases hsh
    rename_i op _ _ _ _ _ heq
    subst heq
    obtain ⟨x, y, rfl, ha, hb⟩ := two_of (es := []) ps
    refine viaPE ((pe_op r_bin ha hb).imp fun σ H Q q => ?_) (fun _ => rfl)
    have h := op_red rfl rfl q
    rw [hK] at h
    exact h
  · split at hsh <;> try cases hsh
    split at hsh <;> try cases hsh
    rename_i op _ _ _ _ _ heq
    obtain ⟨heq, hm⟩ := heq
    subst heq
    obtain ⟨x, y, rfl, ha, hb⟩ := two_of (es := []) ps
    have red : ∀ σ H Q, tE G rf C (.op (.cmp op) [x, y]) σ H Q → tOp (fun x y => rTag X.K (.cmp op) [x, y]) (tArg G rf C x) (tArg G rf C y) σ H Q := fun σ H Q q => by
      have h := op_red rfl rfl q
      rw [hK] at h
      exact h
    exact ⟨(pe_cmpR (r_cmp ok.units) ha hb hm).imp red, pt_of_test (pt_cmpR (r_cmp ok.units) ha hb hm) red cmp_bl⟩
  · split at hsh <;> try cases hsh
    obtain ⟨x, rfl, ha⟩ := one_of ps
    refine viaPE ((pe_un r_neg ha).imp fun σ H Q q => ?_) (fun _ => rfl)
    have h := op_red rfl rfl q
    rw [hK] at h
    exact h
  · split at hsh <;> try cases hsh
    refine viaPE ((pe_tup ps.pa).imp fun σ H Q q => ?_) (fun _ => rfl)
    exact tArgs_mono (fun vs H1 h => r_tup h) (op_redV rfl rfl q)
  · split at hsh <;> try cases hsh
    refine viaPE ((pe_lst ps.pa).imp fun σ H Q q => ?_) (fun _ => rfl)
    exact tArgs_mono (fun vs H1 h => r_lst h) (op_redV rfl rfl q)
  · split at hsh <;> try cases hsh
    split at hsh <;> try cases hsh
    rename_i hs
    obtain ⟨x, y, rfl, ha, hb⟩ := two_of (es := []) ps
    refine viaPE ((pe_ix (r_idx hu1) ha hb (noSl_plain hs)).imp fun σ H Q q => ?_) (fun _ => rfl)
    have h := op_red rfl rfl q
    rw [hK] at h
    exact h
  · split at hsh <;> try cases hsh
    split at hsh <;> try cases hsh
    rename_i U _ f _ a tn _ _ hc
    obtain ⟨rfl, rfl, b1, b2⟩ := hc
    obtain ⟨g1, m1⟩ := blt_of ok b1
    obtain ⟨g2, m2⟩ := blt_of ok b2
    obtain ⟨x, rfl, ha⟩ := one_of ps
    have hn : noStar a = true := by cases ps with | cons _ n _ => exact n
    have hv := ty_boot U
    have hn1 := ty_nm U
    have hn2 := ty_db U
    have hty : ∀ pos, PE X (.Name (Str.ofString U.name) pos) (tC (.ty U.name)) := fun pos => pe_bltn g2 m2 hv rfl hn1 hn2
    refine viaPE ((pe_callB call_isi g1 m1 (by decide +kernel) (pa_cons ha (pa_cons (hty _) pa_nil rfl) (star_one hn _ _)) (by decide) (by decide) (star_one hn _ _) rfl).imp fun σ H Q q => ?_) (fun _ => rfl)
    have h := op_red rfl rfl q
    rw [hK] at h
    have h' : tArgs G rf C [x] σ H (fun vs H1 => ∃ v, vs = [v] ∧ rIsi X.K [v, .ty U.name] H1 Q) := tArgs_mono (fun vs H1 h => by
      obtain ⟨Y, ds, res, hY, ar, hp, q⟩ := id h
      change prIsi U ds = some res at hp
      unfold prIsi at hp
      split at hp
      · obtain ⟨v, rfl, _⟩ := ar.one
        exact ⟨v, rfl, r_isi h⟩
      · cases hp) h
    show tArg G rf C x σ H fun v H1 => rIsi X.K [v, .ty U.name] H1 Q
    by_cases hp : ∃ i, x = .peek i
    · obtain ⟨i, rfl⟩ := hp
      obtain ⟨v, hv, w, e, q⟩ := (show tVar i σ H fun v H1 => ∃ w, [v] = [w] ∧ rIsi X.K [w, .ty U.name] H1 Q from h')
      cases e
      exact ⟨v, hv, q⟩
    · have hp' : ∀ i, x ≠ .peek i := fun i e => hp ⟨i, e⟩
      have h'' : tArg G rf C x σ H fun v H1 => ∃ w, [v] = [w] ∧ rIsi X.K [w, .ty U.name] H1 Q := h'
      rw [tArg_of hp'] at h'' ⊢
      obtain ⟨Z, env, r, env', g, he, q⟩ := h''
      refine ⟨Z, env, r, env', g, he, fun v H' p ro => ?_⟩
      obtain ⟨w, e, q⟩ := q v H' p ro
      cases e
      exact q
  · split at hsh <;> try cases hsh
    split at hsh <;> try cases hsh
    rename_i f _ x _ a es' _ hc
    obtain ⟨hf, hg, hd⟩ := hc
    obtain ⟨k, ad, fd, prs, room, mg, kp, bi, fo, _⟩ := ok.fns x f hf
    have pl : ∀ pos, (backTo pos (starEach es' X.env)).any (·.1) = false := fun pos => by cases ps with | cons _ _ r => exact r.plain
    have st : starEach (a :: es') X.env = (false, eval a X.env) :: starEach es' X.env := by cases ps with | cons _ n r => exact star_one n _ _
    refine viaPE ((peG_call fo ok.guards room (Gl_of ok hg) mg kp bi ps.pa hd st (pl _)).imp fun σ H Q q => ?_) (fun _ => rfl)
    have h := call_red q
    rw [hK] at h
    exact h
  · split at hsh <;> try cases hsh
    split at hsh <;> try cases hsh
    rename_i f np ks pm _ x _ es' kws _ hc
    obtain ⟨hf, hg, hd, hnp, hks, hin⟩ := hc
    obtain ⟨k, ad, fd, prs, room, mg, kp, bi, fo, kbs⟩ := ok.fns x f hf
    have kb := kbs _ hin
    obtain ⟨as1, as2, rfl, p1, p2⟩ := PEs.split ps
    have l1 := p1.len
    have l2 := p2.len
    have lk : kws.length = ks.length := by simpa using congrArg List.length hks
    rw [List.length_map] at l2
    cases es' with
    | nil =>
      have e1 : as1 = [] := List.length_eq_zero_iff.mp (by rw [l1]; rfl)
      subst e1
      have hnp : np = 0 := hnp.symm
      subst hnp
      refine viaPE ((peG_callK0 fo ok.guards room (Gl_of ok hg) mg kp kb (PEs.pk p2) hks hd).imp fun σ H Q q => ?_) (fun _ => rfl)
      have h := callK_red q
      rw [hK] at h
      exact tArgs_mono (fun vs H1 h => ⟨h.1.trans (l2.trans lk), h.2⟩) (tArgs_len h)
    | cons a es' =>
      have pl : ∀ pos, (backTo pos (starEach (a :: es') X.env)).any (·.1) = false := fun pos => p1.plain
      have st : starEach (a :: es') X.env = (false, eval a X.env) :: starEach es' X.env := by cases p1 with | cons _ n r => exact star_one n _ _
      refine viaPE ((peG_callK fo ok.guards room (Gl_of ok hg) mg kp kb p1.pa (PEs.pk p2) hks hd st (pl _)).imp fun σ H Q q => ?_) (fun _ => rfl)
      have h := callK_red q
      rw [hK] at h
      exact tArgs_mono (fun vs H1 h => tArgs_mono (fun zs H2 h => ⟨h.1.trans (l1.trans hnp), h.2.1.trans (l2.trans lk), h.2.2⟩) h) (tArgs_app h)
  · split at hsh <;> try cases hsh
    split at hsh <;> try cases hsh
    rename_i hc
    obtain ⟨rfl, hl⟩ := hc
    obtain ⟨x, rfl, ha⟩ := one_of ps
    refine viaPE ((pe_upper ha rfl hl).imp fun σ H Q q => ?_) (fun _ => rfl)
    have h := op_red rfl rfl q
    rw [hK] at h
    exact tArg_mono (fun v H1 h => r_upper h) h
  · split at hsh <;> try cases hsh
    split at hsh <;> try cases hsh
    rename_i hc
    obtain ⟨rfl, rfl, hl⟩ := hc
    obtain ⟨x, rfl, ha⟩ := one_of ps
    have hn := by cases ps with | cons _ n _ => exact n
    refine viaPE ((pe_join pe_str ha (star_one hn _ _) rfl hl).imp fun σ H Q q => ?_) (fun _ => rfl)
    have h := op_red rfl rfl q
    rw [hK] at h
    exact ⟨⟨_, rfl⟩, tArg_mono (fun v H1 h => r_join h) h⟩
  · split at hsh <;> try cases hsh
    split at hsh <;> try cases hsh
    rename_i hc
    obtain ⟨rfl, hl, hb⟩ := hc
    have hn := by cases ps with | cons _ _ r => cases r with | cons _ n _ => exact n
    obtain ⟨x, y, rfl, ha, hb'⟩ := two_of (es := []) ps
    exact viaPE (e_get1 hK hu1 ha hb' (plainB_ok hb) hn hl) (fun _ => rfl)
  · split at hsh <;> try cases hsh
    split at hsh <;> try cases hsh
    rename_i hc
    obtain ⟨rfl, hl, hb⟩ := hc
    have hn := by cases ps with | cons _ _ r => cases r with | cons _ n _ => exact n
    obtain ⟨x, y, rfl, ha, hb'⟩ := two_of (es := []) ps
    exact viaPE (e_index1 hK ha hb' (plainB_ok hb) hn hl) (fun _ => rfl)
  · split at hsh <;> try cases hsh
    split at hsh <;> try cases hsh
    rename_i hc
    obtain ⟨rfl, rfl, b1, b2⟩ := hc
    obtain ⟨g1, m1⟩ := blt_of ok b1
    obtain ⟨g2, m2⟩ := blt_of ok b2
    obtain ⟨x, rfl, ha⟩ := one_of ps
    have hn := by cases ps with | cons _ n _ => exact n
    refine viaPE ((pe_listRg ok.calm g1 m1 (prg_1 g2 m2 ha (star_one hn _ _)) rfl).imp fun σ H Q q => ?_) (fun _ => rfl)
    have h := op_red rfl rfl q
    rw [hK] at h
    exact tArg_mono (fun v H1 h => r_listR1 h) h
  · split at hsh <;> try cases hsh
    split at hsh <;> try cases hsh
    rename_i hc
    obtain ⟨rfl, rfl, b1, b2⟩ := hc
    obtain ⟨g1, m1⟩ := blt_of ok b1
    obtain ⟨g2, m2⟩ := blt_of ok b2
    have hn := by cases ps with | cons _ n _ => exact n
    have hn2 := by cases ps with | cons _ _ r => cases r with | cons _ n _ => exact n
    obtain ⟨x, y, rfl, ha, hb⟩ := two_of (es := []) ps
    refine viaPE ((pe_listRg ok.calm g1 m1 (prg_2 g2 m2 ha hb (by rw [star_one hn]) (by rw [star_one hn2]) (by rw [star_one hn2]; rfl)) rfl).imp fun σ H Q q => ?_) (fun _ => rfl)
    have h := op_red rfl rfl q
    rw [hK] at h
    exact tArg_mono (fun v H1 h => tArg_mono (fun w H2 h => r_listR2 h) h) h
  · split at hsh <;> try cases hsh
    split at hsh <;> try cases hsh
    rename_i hc
    obtain ⟨rfl, rfl, b1, b2⟩ := hc
    obtain ⟨g1, m1⟩ := blt_of ok b1
    obtain ⟨g2, m2⟩ := blt_of ok b2
    obtain ⟨x, rfl, ha⟩ := one_of ps
    have hn := by cases ps with | cons _ n _ => exact n
    refine viaPE ((pe_tupRg ok.calm g1 m1 (prg_1 g2 m2 ha (star_one hn _ _)) rfl).imp fun σ H Q q => ?_) (fun _ => rfl)
    have h := op_red rfl rfl q
    rw [hK] at h
    exact tArg_mono (fun v H1 h => r_tupR1 h) h
  · split at hsh <;> try cases hsh
    split at hsh <;> try cases hsh
    rename_i hc
    obtain ⟨rfl, rfl, b1, b2⟩ := hc
    obtain ⟨g1, m1⟩ := blt_of ok b1
    obtain ⟨g2, m2⟩ := blt_of ok b2
    have hn := by cases ps with | cons _ n _ => exact n
    have hn2 := by cases ps with | cons _ _ r => cases r with | cons _ n _ => exact n
    obtain ⟨x, y, rfl, ha, hb⟩ := two_of (es := []) ps
    refine viaPE ((pe_tupRg ok.calm g1 m1 (prg_2 g2 m2 ha hb (by rw [star_one hn]) (by rw [star_one hn2]) (by rw [star_one hn2]; rfl)) rfl).imp fun σ H Q q => ?_) (fun _ => rfl)
    have h := op_red rfl rfl q
    rw [hK] at h
    exact tArg_mono (fun v H1 h => tArg_mono (fun w H2 h => r_tupR2 h) h) h
  · split at hsh <;> try cases hsh
    cases ps
    refine viaPE (pe_dnewK.imp fun σ H Q q => ?_) (fun _ => rfl)
    have h := op_redV rfl rfl q
    exact r_dic0 h
  · split at hsh <;> try cases hsh
    split at hsh <;> try cases hsh
    rename_i hc
    obtain ⟨rfl, rfl, b1⟩ := hc
    obtain ⟨g1, m1⟩ := blt_of ok b1
    obtain ⟨x, y, rfl, ha, hb⟩ := two_of (es := []) ps
    have hn := by cases ps with | cons _ n _ => exact n
    refine viaPE ((pe_callBK (cr_sumS ok.calm) g1 m1 (by decide +kernel) (pa_cons ha pa_nil (star_one hn _ _)) (pk_cons hb pk_nil) (by decide) (by decide) (by rw [star_one hn]; rfl) (by rw [star_one hn]; rfl) rfl rfl rfl).imp fun σ H Q q => ?_) (fun _ => rfl)
    have h := op_red rfl rfl q
    rw [hK] at h
    exact tArg_mono (fun v H1 h => tArg_mono (fun w H2 h => r_sum2 h) h) h
  · split at hsh <;> try cases hsh
    split at hsh <;> try cases hsh
    rename_i hc
    obtain ⟨rfl, rfl, b1, b2⟩ := hc
    obtain ⟨g1, m1⟩ := blt_of ok b1
    obtain ⟨g2, m2⟩ := blt_of ok b2
    obtain ⟨x, rfl, ha⟩ := one_of ps
    have hn := by cases ps with | cons _ n _ => exact n
    refine viaPE ((pe_two (f := .none) (g := .none) (callR_or (cr_sortSetN ok.calm) (cr_sortSetT ok.calm)) (callR_or (cr_setN ok.calm) (cr_setT ok.calm)) g1 m1 (by decide +kernel) g2 m2 (by decide +kernel) (by decide) (by decide) (by decide) (by decide) ha (star_one hn _ _)).imp fun σ H Q q => ?_) (fun _ => rfl)
    have h := op_red rfl rfl q
    rw [hK] at h
    exact tArg_mono (fun v H1 h => r_sortedSet h) h
  · split at hsh <;> try cases hsh
    rename_i x _ a es' _
    split at hsh <;> try cases hsh
    rename_i n k hbn
    split at hsh <;> try cases hsh
    rename_i hc
    obtain ⟨rfl, b1, _⟩ := hc
    obtain ⟨g1, m1⟩ := blt_of ok b1
    refine viaPE ?_ (fun _ => rfl)
    cases t <;> simp only [bName, Option.some.injEq, Prod.mk.injEq, reduceCtorEq] at hbn
    all_goals (obtain ⟨rfl, rfl⟩ := hbn)
    · exact pe_blt hK r_len rfl rfl g1 m1 (by decide +kernel) (by decide) (by decide) ps
    · exact pe_bty hK r_int1 rfl rfl g1 m1 (by decide +kernel) (by decide) (by decide) ps
    · exact pe_bty hK r_bool1 rfl rfl g1 m1 (by decide +kernel) (by decide) (by decide) ps
    · exact pe_bty hK r_str1 rfl rfl g1 m1 (by decide +kernel) (by decide) (by decide) ps
    · exact pe_blt hK (r_repr ok.guards ok.units) rfl rfl g1 m1 (by decide +kernel) (by decide) (by decide) ps
    · exact pe_blt hK r_abs1 rfl rfl g1 m1 (by decide +kernel) (by decide) (by decide) ps
    · exact pe_blt hK (r_min2 ok.calm) rfl rfl g1 m1 (by decide +kernel) (by decide) (by decide) ps
    · exact pe_blt hK (r_max2 ok.calm) rfl rfl g1 m1 (by decide +kernel) (by decide) (by decide) ps
    · exact pe_blt hK (r_sum1 ok.calm) rfl rfl g1 m1 (by decide +kernel) (by decide) (by decide) ps
    · exact pe_blt hK (r_all1 ok.calm) rfl rfl g1 m1 (by decide +kernel) (by decide) (by decide) ps
    · exact pe_blt hK (r_any1 ok.calm) rfl rfl g1 m1 (by decide +kernel) (by decide) (by decide) ps
    · exact pe_blt hK (r_sorted1 ok.calm) rfl rfl g1 m1 (by decide +kernel) (by decide) (by decide) ps
    · exact pe_bty hK r_tuple1 rfl rfl g1 m1 (by decide +kernel) (by decide) (by decide) ps
    · exact pe_bty hK (r_list1 ok.calm) rfl rfl g1 m1 (by decide +kernel) (by decide) (by decide) ps
    · exact pe_blt hK r_divmod rfl rfl g1 m1 (by decide +kernel) (by decide) (by decide) ps
    · exact pe_bty hK (r_dict1 ok.calm) rfl rfl g1 m1 (by decide +kernel) (by decide) (by decide) ps
end
end Ofw
/-! Ofw 13: the text against the small language: expressions -/
namespace Ofw
open PySem L2
section
variable {G : Gx} {rf : Nat → List Bool} {C : CallT} {X : Cx} {T : Tab} {N : List Str} {sc : Scope}
theorem pt_if' {c a b : Expr} {pos : Pos} {ec ea eb : En → Option (Rs × En)} (hc : PT X c (tTv G ec)) (ha : PT X a (tTv G ea)) (hb : PT X b (tTv G eb)) : PT X (.IfExp c a b pos) (tTv G (evIf ec ea eb)) := by
  refine ⟨fun pins s σ H Q I ⟨Z, env, r, env', k, g, h, hk, q⟩ => ?_⟩
  obtain ⟨r1, env1, b', h1, h2, h3⟩ := evIf_inv h
  show wpAny _ _ (do if ← isTrue c X.env (eval c X.env) then isTrue a X.env (eval a X.env) else isTrue b X.env (eval b X.env)) _ _ s
  refine wpAny_bind (thn (hc.run pins s σ H (fun c H1 => c = b' ∧ Post G Z σ H env σ H1 env1) I ⟨Z, env, r1, env1, b', g, h1, h2, fun H' p => ⟨rfl, p⟩⟩) fun d s1 ⟨H1, I1, e, p⟩ => ?_)
  subst e
  cases d with
  | true => exact ha.run pins s1 σ H1 Q I1 ⟨Z, env1, r, env', k, p.good, by simpa using h3, hk, fun H2 p2 => q H2 (p.trans p2)⟩
  | false => exact hb.run pins s1 σ H1 Q I1 ⟨Z, env1, r, env', k, p.good, by simpa using h3, hk, fun H2 p2 => q H2 (p.trans p2)⟩
/-- the first of some arguments -/
theorem first_ok {a : Ex} {rest : List Ex} {env env1 : En} {xs : List Av1} {Z : Ys} {σ : L2.St} {H : Hp} (g : Good G Z σ H env) (h : evalAs rf C (a :: rest) env = some (xs, env1)) :
    ∃ x0 xs' enva, xs = x0 :: xs' ∧ evalAs rf C rest enva = some (xs', env1) ∧ ∀ Q : VK, (∀ v H1, Post G Z σ H env σ H1 enva → (∀ H2, Post G Z σ H1 enva σ H2 env1 → ∀ d, look env1 x0 = some d → AR G.K H2 (Av σ env1 Z) v d) → Q v H1) → tArg G rf C a σ H Q := by
  by_cases hp : ∃ i, a = .peek i
  · obtain ⟨i, rfl⟩ := hp
    simp only [evalAs] at h
    cases hs : env[i]? with
    | none => rw [hs] at h; cases h
    | some s =>
      rw [hs] at h
      have hd : ∃ d, slotD s = some d := by cases s <;> first | exact ⟨_, rfl⟩ | cases h
      obtain ⟨d, hd⟩ := hd
      obtain ⟨v, hv⟩ := g.slot hs hd
      have h' : (match evalAs rf C rest env with
        | some (xs, env2) => some (Av1.r i :: xs, env2)
        | none => none) = some (xs, env1) := by cases s <;> first | exact h | cases hd
      cases h1 : evalAs rf C rest env with
      | none => rw [h1] at h'; cases h'
      | some p =>
        obtain ⟨ys, env2⟩ := p
        rw [h1] at h'
        simp only [Option.some.injEq, Prod.mk.injEq] at h'
        obtain ⟨rfl, rfl⟩ := h'
        refine ⟨.r i, ys, env, rfl, h1, fun Q q => ⟨v, hv, q v H (Post.refl g) fun H2 p2 d' hl => ?_⟩⟩
        have hl' : looks env2 [.r i] = some [d'] := by simp only [looks, hl]
        have := looks_ok p2.good (.r hv .nil) hl'
        obtain ⟨w, e, ar⟩ := this.one
        cases e
        exact ar
  · have hp' : ∀ i, a ≠ .peek i := fun i e => hp ⟨i, e⟩
    rw [evalAs_cons hp'] at h
    cases h1 : evalE rf C a env with
    | none => rw [h1] at h; cases h
    | some p =>
      obtain ⟨r, enva⟩ := p
      rw [h1] at h
      cases h2 : evalAs rf C rest enva with
      | none => simp only [h2] at h; cases h
      | some p2 =>
        obtain ⟨ys, env2⟩ := p2
        simp only [h2, Option.some.injEq, Prod.mk.injEq] at h
        obtain ⟨rfl, rfl⟩ := h
        refine ⟨.v r.d, ys, enva, rfl, h2, fun Q q => ?_⟩
        rw [tArg_of hp']
        refine ⟨Z, env, r, enva, g, h1, fun v H1 p1 ro => q v H1 p1 fun H2 p2 d hl => ?_⟩
        simp only [look, Option.some.injEq] at hl
        subst hl
        exact .inl (p2.rep (ro.rep g))
/-- an int among them -/
theorem next_int {x : Ex} {rest : List Ex} {env env1 : En} {xs : List Av1} {Z : Ys} {σ : L2.St} {H : Hp} (hp : ∀ i, x ≠ .peek i) (g : Good G Z σ H env) (h : evalAs rf C (x :: rest) env = some (xs, env1)) :
    ∃ r enva xs', evalE rf C x env = some (r, enva) ∧ xs = .v r.d :: xs' ∧ evalAs rf C rest enva = some (xs', env1) := by
  rw [evalAs_cons hp] at h
  cases h1 : evalE rf C x env with
  | none => rw [h1] at h; cases h
  | some p =>
    obtain ⟨r, enva⟩ := p
    rw [h1] at h
    cases h2 : evalAs rf C rest enva with
    | none => simp only [h2] at h; cases h
    | some p2 =>
      obtain ⟨ys, env2⟩ := p2
      simp only [h2, Option.some.injEq, Prod.mk.injEq] at h
      obtain ⟨rfl, rfl⟩ := h
      exact ⟨r, enva, ys, rfl, rfl, h2⟩
theorem looks_cons {env : En} {x : Av1} {xs : List Av1} {ds : List D} (h : looks env (x :: xs) = some ds) : ∃ d ds', look env x = some d ∧ looks env xs = some ds' ∧ ds = d :: ds' := by
  simp only [looks] at h
  cases h1 : look env x with
  | none => rw [h1] at h; cases h
  | some d =>
    cases h2 : looks env xs with
    | none => rw [h1, h2] at h; cases h
    | some es =>
      rw [h1, h2] at h
      simp only [Option.some.injEq] at h
      exact ⟨d, es, rfl, rfl, h.symm⟩
theorem post_refl_of {Z : Ys} {σ : L2.St} {H : Hp} {env env1 : En} (g : Good G Z σ H env) (h : evalAs rf C [] env = some ([], env1)) : env1 = env := by
  simp only [evalAs, Option.some.injEq, Prod.mk.injEq] at h
  exact h.2.symm
theorem sl_ff {a : Ex} (σ : L2.St) (H : Hp) (Q : VK) (h : tE G rf C (.op (.slc false false) [a]) σ H Q) : tSl (rSlcD G.K) (tArg G rf C a) tNoPart tNoPart σ H Q := by
  obtain ⟨Z, env, xs, env1, ds, res, g, h1, h2, h3, q⟩ := op_red0 rfl h
  obtain ⟨x0, xs', enva, rfl, hr, first⟩ := first_ok g h1
  simp only [evalAs, Option.some.injEq, Prod.mk.injEq] at hr
  obtain ⟨rfl, rfl⟩ := hr
  obtain ⟨d, ds', hl, hls, rfl⟩ := looks_cons h2
  simp only [looks, Option.some.injEq] at hls
  subst hls
  refine first _ fun v H1 p1 ar => ?_
  exact ⟨Av σ enva Z, d, res, fun a y => p1.good.avdom y, ar H1 (Post.refl p1.good) d hl, h3, q H1 p1⟩
theorem sl_tf {a x : Ex} (hx : ∀ i, x ≠ .peek i) (σ : L2.St) (H : Hp) (Q : VK) (h : tE G rf C (.op (.slc true false) [a, x]) σ H Q) : tSl (rSlcD G.K) (tArg G rf C a) (tPart (tE G rf C x)) tNoPart σ H Q := by
  obtain ⟨Z, env, xs, env1, ds, res, g, h1, h2, h3, q⟩ := op_red0 rfl h
  obtain ⟨x0, xs', enva, rfl, hr, first⟩ := first_ok g h1
  refine first _ fun v H1 p1 ar => ?_
  obtain ⟨r, envx, xs2, he, rfl, hr2⟩ := next_int hx p1.good hr
  simp only [evalAs, Option.some.injEq, Prod.mk.injEq] at hr2
  obtain ⟨rfl, rfl⟩ := hr2
  obtain ⟨d, ds', hl, hls, rfl⟩ := looks_cons h2
  simp only [looks, look, Option.some.injEq] at hls
  subst hls
  change prSlcTF [d, r.d] = some res at h3
  unfold prSlcTF at h3
  split at h3
  · rename_i d' i heq
    simp only [List.cons.injEq, and_true] at heq
    obtain ⟨rfl, hri⟩ := heq
    exact part_of p1.good he hri fun H2 p2 => ⟨Av σ envx Z, d, res, fun a y => p2.good.avdom y, ar H2 p2 d hl, h3, q H2 (p1.trans p2)⟩
  · cases h3
theorem sl_ft {a x : Ex} (hx : ∀ i, x ≠ .peek i) (σ : L2.St) (H : Hp) (Q : VK) (h : tE G rf C (.op (.slc false true) [a, x]) σ H Q) : tSl (rSlcD G.K) (tArg G rf C a) tNoPart (tPart (tE G rf C x)) σ H Q := by
  obtain ⟨Z, env, xs, env1, ds, res, g, h1, h2, h3, q⟩ := op_red0 rfl h
  obtain ⟨x0, xs', enva, rfl, hr, first⟩ := first_ok g h1
  refine first _ fun v H1 p1 ar => ?_
  obtain ⟨r, envx, xs2, he, rfl, hr2⟩ := next_int hx p1.good hr
  simp only [evalAs, Option.some.injEq, Prod.mk.injEq] at hr2
  obtain ⟨rfl, rfl⟩ := hr2
  obtain ⟨d, ds', hl, hls, rfl⟩ := looks_cons h2
  simp only [looks, look, Option.some.injEq] at hls
  subst hls
  change prSlcFT [d, r.d] = some res at h3
  unfold prSlcFT at h3
  split at h3
  · rename_i d' i heq
    simp only [List.cons.injEq, and_true] at heq
    obtain ⟨rfl, hri⟩ := heq
    show tPart (tE G rf C x) σ H1 fun u H3 => rSlcD G.K v none u H3 Q
    exact part_of p1.good he hri fun H2 p2 => ⟨Av σ envx Z, d, res, fun a y => p2.good.avdom y, ar H2 p2 d hl, h3, q H2 (p1.trans p2)⟩
  · cases h3
theorem sl_tt {a x y : Ex} (hx : ∀ i, x ≠ .peek i) (hy : ∀ i, y ≠ .peek i) (σ : L2.St) (H : Hp) (Q : VK) (h : tE G rf C (.op (.slc true true) [a, x, y]) σ H Q) : tSl (rSlcD G.K) (tArg G rf C a) (tPart (tE G rf C x)) (tPart (tE G rf C y)) σ H Q := by
  obtain ⟨Z, env, xs, env1, ds, res, g, h1, h2, h3, q⟩ := op_red0 rfl h
  obtain ⟨x0, xs', enva, rfl, hr, first⟩ := first_ok g h1
  refine first _ fun v H1 p1 ar => ?_
  obtain ⟨r, envx, xs2, he, rfl, hr2⟩ := next_int hx p1.good hr
  obtain ⟨d, ds', hl, hls, rfl⟩ := looks_cons h2
  have key : ∀ H2, Post G Z σ H1 enva σ H2 envx → ∃ r2 env2, evalE rf C y envx = some (r2, env2) ∧ env2 = env1 ∧ xs2 = [.v r2.d] := fun H2 p2 => by
    obtain ⟨r2, env2, xs3, he2, e, hr3⟩ := next_int hy p2.good hr2
    simp only [evalAs, Option.some.injEq, Prod.mk.injEq] at hr3
    obtain ⟨rfl, rfl⟩ := hr3
    exact ⟨r2, env2, he2, rfl, e⟩
  obtain ⟨d1, ds1, hl1, hls1, rfl⟩ := looks_cons hls
  simp only [look, Option.some.injEq] at hl1
  subst hl1
  have hi : ∃ i j, r.d = .int i ∧ ds1 = [.int j] ∧ slcD d (some i) (some j) = some res := by
    change prSlcTT (d :: r.d :: ds1) = some res at h3
    unfold prSlcTT at h3
    split at h3
    · rename_i d' i j heq
      simp only [List.cons.injEq] at heq
      obtain ⟨rfl, hri, hds⟩ := heq
      exact ⟨i, j, hri, hds, h3⟩
    · cases h3
  obtain ⟨i, j, hri, rfl, h4⟩ := hi
  refine part_of p1.good he hri fun H2 p2 => ?_
  obtain ⟨r2, env2, he2, rfl, rfl⟩ := key H2 p2
  simp only [looks, look, Option.some.injEq, List.cons.injEq, and_true] at hls1
  exact part_of p2.good he2 hls1 fun H3 p3 => ⟨Av σ env2 Z, d, res, fun a y => p3.good.avdom y, ar H3 (p2.trans p3) d hl, h4, q H3 ((p1.trans p2).trans p3)⟩
end
/-! ### the check -/
def visB (sc : Scope) (x : Str) : Bool := decide (sc.names.lookup x = some .local) || decide (sc.names.lookup x = some .cell) || decide (sc.names.lookup x = some .free)
def slotOk (N : List Str) (sc : Scope) (i : Nat) (x : Str) : Bool := decide (N[i]? = some x) && visB sc x && !(x == ("__debug__" : Str)) && !(x == ("__classdict__" : Str))
def notPeek : Ex → Bool
  | .peek _ => false
  | _ => true
def cstD : Const → D → Bool
  | .int i, .int j => decide (i = j)
  | .str x, .str y => decide (x = y)
  | .bool a, .bl b => decide (a = b)
  | _, _ => false
def litOk (c c' : Const) : Bool := match c, c' with
  | .none, .none => true
  | .bool a, .bool b => a == b
  | .int a, .int b => decide (a = b)
  | .str a, .str b => decide (a = b)
  | _, _ => false
/-- a name stored: its slot; kind says whether the block may store it -/
def storeOk (N : List Str) (sc : Scope) (fnc : Str → Bool) (i : Nat) (x : Str) : Bool := decide (N[i]? = some x) && (decide (sc.names.lookup x = some .local) || (decide (sc.names.lookup x = some .cell) && fnc x))
def storesOk (N : List Str) (sc : Scope) (fnc : Str → Bool) : List Nat → List Expr → Bool
  | [], [] => true
  | i :: is, .Name x _ :: es => storeOk N sc fnc i x && storesOk N sc fnc is es
  | _, _ => false
def tgOk (N : List Str) (sc : Scope) (fnc : Str → Bool) : Tg → Expr → Bool
  | .one i, .Name x _ => storeOk N sc fnc i x
  | .tup is, .Tuple es _ _ => storesOk N sc fnc is es
  | _, _ => false
def isTupE : Expr → Bool
  | .Tuple _ _ _ => true
  | _ => false
def isSetE : Expr → Bool
  | .Set _ _ _ => true
  | _ => false
/-- what is walked: its arguments -/
def itShape (T : Tab) (sc : Scope) (tg : Expr) (k : ItK) (e : Expr) : Option (List Expr) := match k with
  | .seq => if isSetE e = false then some [e] else none
  | .rng1 => match e with
    | .Call (.Name f _) [a] [] _ => if f = "range" ∧ bltOk T sc f = true then some [a] else none
    | _ => none
  | .rng2 => match e with
    | .Call (.Name f _) [a, b] [] _ => if f = "range" ∧ bltOk T sc f = true then some [a, b] else none
    | _ => none
  | .rng3 => match e with
    | .Call (.Name f _) [a, b, c] [] _ => if f = "range" ∧ bltOk T sc f = true then some [a, b, c] else none
    | _ => none
  | .keys => if isSetE e = false then some [e] else none
  | .enum => match e with
    | .Call (.Name f _) [a] [] _ => if f = "enumerate" ∧ bltOk T sc f = true ∧ isTupE tg = true then some [a] else none
    | _ => none
  | .zip2 => match e with
    | .Call (.Name f _) [a, b] [] _ => if f = "zip" ∧ bltOk T sc f = true ∧ isTupE tg = true then some [a, b] else none
    | _ => none
  | .items => none
def ownOf (N : List Str) (vs : List Nat) : List (Str × Nat) := vs.map fun i => (N.getD i Str.empty, i)
mutual
def chkE (T : Tab) (N : List Str) : Ex → Scope → Expr → Bool
  | .var i, sc, e => match e with
    | .Name x _ => slotOk N sc i x
    | _ => false
  | .peek _, _, _ => false
  | .lit c, _, e => match e with
    | .Constant c' _ _ => litOk c c'
    | _ => false
  | .glob x d, sc, e => match e with
    | .Name y _ => decide (x = y) && glb sc x && !(x == ("__debug__" : Str)) && (match T.cst x with | some c => cstD c d | none => false)
    | _ => false
  | .op t as, sc, e => match t with
    | .slc lo hi => match e with
      | .Subscript a (.Slice l u none _) _ => (l.isSome == lo) && (u.isSome == hi) && (as.drop 1).all notPeek && chkAs T N as sc (a :: (l.toList ++ u.toList))
      | _ => false
    | t => match shape T sc t e with
      | some es => chkAs T N as sc es
      | none => false
  | .not a, sc, e => match e with
    | .UnaryOp .Not e1 _ => chkE T N a sc e1
    | _ => false
  | .and as, sc, e => match e with
    | .BoolOp .And es _ => !as.isEmpty && chkEs T N as sc es
    | _ => false
  | .or as, sc, e => match e with
    | .BoolOp .Or es _ => !as.isEmpty && chkEs T N as sc es
    | _ => false
  | .ife c a b, sc, e => match e with
    | .IfExp e1 e2 e3 _ => chkE T N c sc e1 && chkE T N a sc e2 && chkE T N b sc e3
    | _ => false
  | .chain p q a b c, sc, e => match e with
    | .Compare e1 [p', q'] [e2, e3] _ => decide (p = p') && decide (q = q') && !(lastMarks [p, q] [e2, e3]) && chkE T N a sc e1 && chkE T N b sc e2 && chkE T N c sc e3
    | _ => false
  | .chain3 _ _ _ _ _ _ _, _, _ => false
  | .popE i, sc, e => match e with
    | .Call (.Attribute (.Name x _) m apos) [] [] cpos => decide (m = "pop") && slotOk N sc i x && (apos.endLine == cpos.line)
    | _ => false
  | .lc elt tg k src ifs vs, sc, e => match e with
    | .ListComp eelt [⟨etg, eit, eifs, 0⟩] scope _ => tgOk N (relS scope sc) (fun x => scope.names.lookup x == some .cell) tg etg && (tgI tg).all (fun i => vs.contains i) && blkC N sc scope (ownOf N vs) &&
        !isSetE eit && decide (eifs.length ≤ 1) && src.all notPeek &&
        (match itShape T sc etg k eit with
          | some es => chkAs T N src sc es
          | none => false) && chkEs T N ifs (relS scope sc) eifs && chkE T N elt (relS scope sc) eelt
    | _ => false
def chkAs (T : Tab) (N : List Str) : List Ex → Scope → List Expr → Bool
  | [], _, es => es.isEmpty
  | .peek i :: as, sc, es => match es with
    | .Name x _ :: es => slotOk N sc i x && chkAs T N as sc es
    | _ => false
  | a :: as, sc, es => match es with
    | e :: es => noStar e && chkE T N a sc e && chkAs T N as sc es
    | _ => false
def chkEs (T : Tab) (N : List Str) : List Ex → Scope → List Expr → Bool
  | [], _, es => es.isEmpty
  | a :: as, sc, es => match es with
    | e :: es => chkE T N a sc e && chkEs T N as sc es
    | _ => false
end
end Ofw
/-! Ofw 14: expressions are what the evaluator reckons -/
namespace Ofw
open PySem L2
section
variable {G : Gx} {rf : Nat → List Bool} {C : CallT} {X : Cx} {T : Tab} {N : List Str} {sc : Scope}
theorem slot_vis (ok : CtxOk T rf C N sc X) {i : Nat} {x : Str} (h : slotOk N sc i x = true) : X.N[i]? = some x ∧ Vis X.env.scope x ∧ (x == ("__debug__" : Str)) = false ∧ (x == ("__classdict__" : Str)) = false := by
  unfold slotOk visB at h
  simp only [Bool.and_eq_true, Bool.or_eq_true, decide_eq_true_eq, Bool.not_eq_true'] at h
  obtain ⟨⟨⟨h1, h2⟩, h3⟩, h4⟩ := h
  refine ⟨by rw [ok.names]; exact h1, ?_, h3, h4⟩
  unfold Vis
  rw [ok.scope]
  rcases h2 with (h2 | h2) | h2
  · exact .inl h2
  · exact .inr (.inl h2)
  · exact .inr (.inr h2)
theorem e_var (ok : CtxOk T rf C N sc X) {i : Nat} {x : Str} {pos : Pos} (h : slotOk N sc i x = true) : PE X (.Name x pos) (tE G rf C (.var i)) := by
  obtain ⟨h1, h2, h3, h4⟩ := slot_vis ok h
  refine (pe_var h1 h2 h3 h4).imp fun σ H Q ⟨Z, env, r, env', g, he, q⟩ => ?_
  simp only [evalE] at he
  cases hs : env[i]? with
  | none => rw [hs] at he; cases he
  | some s =>
    rw [hs] at he
    cases s with
    | emp => cases he
    | bor d => cases he
    | val d =>
      simp only [Option.some.injEq, Prod.mk.injEq] at he
      obtain ⟨rfl, rfl⟩ := he
      obtain ⟨v, hv, rp⟩ := g.vals i d hs
      exact ⟨v, hv, q v H (Post.refl g) rp⟩
    | own d =>
      simp only [Option.some.injEq, Prod.mk.injEq] at he
      obtain ⟨rfl, rfl⟩ := he
      obtain ⟨a, ha, b, h0, nz⟩ := g.owns i d hs
      -- the place is no slot's own any more
      have hl : i < env.length := (List.getElem?_eq_some_iff.mp hs).1
      have eσ : σ.set i (some (.ref a)) = σ := by
        refine List.ext_getElem? fun j => ?_
        by_cases e : i = j
        · subst e; rw [List.getElem?_set_self (by rw [← g.len]; exact hl), ha]
        · rw [List.getElem?_set_ne e]
      have ow : ∀ c, ownA σ (env.set i (.val d)) c → ownA σ env c ∧ c ≠ a := fun c ⟨j, s, h1, h2, h3⟩ => by
        have ne : i ≠ j := fun e => by subst e; rw [List.getElem?_set_self hl] at h1; cases h1; cases h2
        rw [List.getElem?_set_ne ne] at h1
        refine ⟨⟨j, s, h1, h2, h3⟩, fun e => ne (g.inj i j _ s a hs h1 rfl h2 ha (by rw [← e]; exact h3))⟩
      have less : ∀ c, Av σ (env.set i (.val d)) Z c → Av σ env Z c := fun c y => y.elim (fun z => .inl (ow c z).1) .inr
      have rp : Rep G.K H (Av σ (env.set i (.val d)) Z) (.ref a) d := (b.fr (Fr1.less less) fun o h => h).rep fun y => y.elim (fun z => (ow a z).2 rfl) nz
      have g' : Good G Z σ H (env.set i (.val d)) := by
        refine ⟨by simp [g.len], g.zdom, fun j e h => ?_, fun j e h => ?_, fun j e h => ?_, fun j k s t c h1 h2 h3 h4 h5 h6 => ?_, fun j c h => ?_, g.frame⟩
        · by_cases ej : i = j
          · subst ej
            rw [List.getElem?_set_self hl] at h
            cases h
            exact ⟨_, ha, rp⟩
          · rw [List.getElem?_set_ne ej] at h
            obtain ⟨w, hw, rw'⟩ := g.vals j e h
            exact ⟨w, hw, rw'.fr (Fr1.less less)⟩
        · by_cases ej : i = j
          · subst ej; rw [List.getElem?_set_self hl] at h; cases h
          · rw [List.getElem?_set_ne ej] at h
            obtain ⟨w, hw, rw', h0⟩ := g.owns j e h
            exact ⟨w, hw, rw'.fr (Fr1.less less) fun o h => h, h0⟩
        · by_cases ej : i = j
          · subst ej; rw [List.getElem?_set_self hl] at h; cases h
          · rw [List.getElem?_set_ne ej] at h
            obtain ⟨w, hw, rw', h0⟩ := g.bors j e h
            exact ⟨w, hw, rw'.fr (Fr1.less less) fun o h => h, h0⟩
        · have nj : i ≠ j := fun e => by subst e; rw [List.getElem?_set_self hl] at h1; cases h1; cases h3
          have nk : i ≠ k := fun e => by subst e; rw [List.getElem?_set_self hl] at h2; cases h2; cases h4
          rw [List.getElem?_set_ne nj] at h1
          rw [List.getElem?_set_ne nk] at h2
          exact g.inj j k s t c h1 h2 h3 h4 h5 h6
        · obtain ⟨e, he⟩ := g.held j c h
          have nj : i ≠ j := fun q => by subst q; rw [hs] at he; cases he
          exact ⟨e, by rw [List.getElem?_set_ne nj]; exact he⟩
      exact ⟨_, ha, q _ H ⟨g', fun _ _ h _ => h, fun c z => .inl (ow c z).1, fun _ h => h⟩ rp⟩
theorem e_lit {c c' : Const} {k : Nat} {pos : Pos} (h : litOk c c' = true) : PE X (.Constant c' k pos) (tE G rf C (.lit c)) := by
  unfold litOk at h
  split at h
  · refine pe_non.imp fun σ H Q ⟨Z, env, r, env', g, he, q⟩ => ?_
    simp only [evalE, litD, Option.map_some, Option.some.injEq, Prod.mk.injEq] at he
    obtain ⟨rfl, rfl⟩ := he
    exact q _ H (Post.refl g) .non
  · obtain rfl := of_decide_eq_true (by simpa using h : decide (_ = _) = true)
    refine pe_bl.imp fun σ H Q ⟨Z, env, r, env', g, he, q⟩ => ?_
    simp only [evalE, litD, Option.map_some, Option.some.injEq, Prod.mk.injEq] at he
    obtain ⟨rfl, rfl⟩ := he
    exact q _ H (Post.refl g) (.bl _)
  · obtain rfl := of_decide_eq_true h
    refine pe_int.imp fun σ H Q ⟨Z, env, r, env', g, he, q⟩ => ?_
    simp only [evalE, litD, Option.map_some, Option.some.injEq, Prod.mk.injEq] at he
    obtain ⟨rfl, rfl⟩ := he
    exact q _ H (Post.refl g) (.int _)
  · obtain rfl := of_decide_eq_true h
    refine pe_str.imp fun σ H Q ⟨Z, env, r, env', g, he, q⟩ => ?_
    simp only [evalE, litD, Option.map_some, Option.some.injEq, Prod.mk.injEq] at he
    obtain ⟨rfl, rfl⟩ := he
    exact q _ H (Post.refl g) (.str _)
  · cases h
theorem e_glob (ok : CtxOk T rf C N sc X) {x : Str} {d : D} {pos : Pos} (hg : glb sc x = true) (hd : (x == ("__debug__" : Str)) = false) (hc : (match T.cst x with | some c => cstD c d | none => false) = true) : PE X (.Name x pos) (tE G rf C (.glob x d)) := by
  cases h : T.cst x with
  | none => rw [h] at hc; cases hc
  | some c =>
    rw [h] at hc
    obtain ⟨u, hu, hr⟩ := ok.csts x c h
    have hex : ∃ v, RelV v u ∧ ∀ (H : Hp) (Y : Ys), Rep G.K H Y v d := by
      simp only at hc
      unfold cstD at hc
      split at hc
      · obtain rfl := of_decide_eq_true hc
        exact ⟨.int _, hr, fun H Y => .int _⟩
      · obtain rfl := of_decide_eq_true hc
        exact ⟨.str _, hr, fun H Y => .str _⟩
      · obtain rfl := of_decide_eq_true hc
        exact ⟨.bl _, hr, fun H Y => .bl _⟩
      · cases hc
    obtain ⟨v, rv, rp⟩ := hex
    refine (pe_glob (Gl_of ok hg) hu rv hd).imp fun σ H Q ⟨Z, env, r, env', g, he, q⟩ => ?_
    simp only [evalE, Option.some.injEq, Prod.mk.injEq] at he
    obtain ⟨rfl, rfl⟩ := he
    exact q v H (Post.refl g) (rp H _)
theorem store_ok1 {fnc : Str → Bool} (ok : CtxOk T rf C N sc X) (hfn : X.fn = fnc ∨ X.fn = fun _ => true) {i : Nat} {x : Str} (h : storeOk N sc fnc i x = true) : X.N[i]? = some x ∧ L2.Loc X.env.scope x ∧ (X.fn x = true ∨ X.env.scope.names.lookup x = some .local) := by
  unfold storeOk at h
  simp only [Bool.and_eq_true, Bool.or_eq_true, decide_eq_true_eq] at h
  obtain ⟨h1, h2⟩ := h
  refine ⟨by rw [ok.names]; exact h1, ?_⟩
  unfold L2.Loc
  rw [ok.scope]
  rcases h2 with h2 | ⟨h2, h3⟩
  · exact ⟨.inl h2, .inr h2⟩
  · refine ⟨.inr h2, .inl ?_⟩
    rcases hfn with e | e
    · rw [e]; exact h3
    · rw [e]
theorem stores_ok {fnc : Str → Bool} (ok : CtxOk T rf C N sc X) (hfn : X.fn = fnc ∨ X.fn = fun _ => true) : ∀ {is : List Nat} {es : List Expr}, storesOk N sc fnc is es = true → es.length = is.length ∧
    ∀ (j : Nat) (i : Nat) (e : Expr), es[j]? = some e → is[j]? = some i → ∃ x pos, e = .Name x pos ∧ X.N[i]? = some x ∧ L2.Loc X.env.scope x ∧ (X.fn x = true ∨ X.env.scope.names.lookup x = some .local)
  | [], [], _ => ⟨rfl, fun j i e h => by simp at h⟩
  | i :: is, e :: es, h => by
    cases e with
    | Name x pos =>
      simp only [storesOk, Bool.and_eq_true] at h
      obtain ⟨hl, ih⟩ := stores_ok ok hfn h.2
      refine ⟨by simp [hl], fun j i' e h1 h2 => ?_⟩
      cases j with
      | zero =>
        simp at h1 h2
        subst h1; subst h2
        exact ⟨x, pos, rfl, store_ok1 ok hfn h.1⟩
      | succ j => exact ih j i' e (by simpa using h1) (by simpa using h2)
    | _ => simp [storesOk] at h
  | [], _ :: _, h => by simp [storesOk] at h
  | _ :: _, [], h => by simp [storesOk] at h
theorem tg_ok {fnc : Str → Bool} (ok : CtxOk T rf C N sc X) (hK : G.K = X.K) (hfn : X.fn = fnc ∨ X.fn = fun _ => true) {tg : Tg} {e : Expr} (h : tgOk N sc fnc tg e = true) : PG X e (gBind G tg) := by
  have nd : X.N.Nodup := by rw [ok.names]; exact ok.nd
  unfold tgOk at h
  split at h
  · obtain ⟨h1, h2, h3⟩ := store_ok1 ok hfn h
    exact pg_one nd h1 h2 h3
  · obtain ⟨hl, hx⟩ := stores_ok ok hfn h
    exact pg_tups hK.symm ok.calm nd hl hx
  · cases h
theorem it_ok (ok : CtxOk T rf C N sc X) (hK : G.K = X.K) {tg : Expr} {k : ItK} {e : Expr} {es : List Expr} {src : List Ex} (hsh : itShape T sc tg k e = some es) (ps : PEs G rf C X es src) (hp : src.all notPeek = true) (hk : k ≠ .keys) : PI X tg e (tIt G rf C k src) := by
  unfold itShape at hsh
  split at hsh
  · split at hsh <;> try cases hsh
    obtain ⟨x, rfl, ha⟩ := one_of ps
    have hx : ∀ i, x ≠ .peek i := fun i e => by subst e; simp [notPeek] at hp
    rw [tArg_of hx] at ha
    exact pi_seq' hx hK.symm ha
  · split at hsh <;> try cases hsh
    split at hsh <;> try cases hsh
    rename_i hc
    obtain ⟨rfl, hb⟩ := hc
    obtain ⟨g1, m1⟩ := blt_of ok hb
    exact pi_rng1' g1 m1 ps.pa (by cases ps with | cons _ n r => cases r; exact star_one n _ _)
  · split at hsh <;> try cases hsh
    split at hsh <;> try cases hsh
    rename_i hc
    obtain ⟨rfl, hb⟩ := hc
    obtain ⟨g1, m1⟩ := blt_of ok hb
    cases ps with
    | cons h1 n1 r => cases r with
      | cons h2 n2 r =>
        cases r
        exact pi_rng2' g1 m1 (PEs.cons h1 n1 (.cons h2 n2 .nil)).pa (by rw [star_one n1, star_one n2]; rfl) (by rw [star_one n2]; rfl)
  · split at hsh <;> try cases hsh
    split at hsh <;> try cases hsh
    rename_i hc
    obtain ⟨rfl, hb⟩ := hc
    obtain ⟨g1, m1⟩ := blt_of ok hb
    cases ps with
    | cons h1 n1 r => cases r with
      | cons h2 n2 r => cases r with
        | cons h3 n3 r =>
          cases r
          exact pi_rng3' g1 m1 (PEs.cons h1 n1 (.cons h2 n2 (.cons h3 n3 .nil))).pa (by rw [star_one n1]) (PEs.cons h2 n2 (.cons h3 n3 .nil)).plain
  · exact absurd rfl hk
  · split at hsh <;> try cases hsh
    split at hsh <;> try cases hsh
    rename_i hc
    obtain ⟨rfl, hb, ht⟩ := hc
    obtain ⟨g1, m1⟩ := blt_of ok hb
    cases tg <;> first | cases ht | skip
    exact pi_enum' hK.symm g1 m1 ps.pa (by cases ps with | cons _ n r => cases r; exact star_one n _ _)
  · split at hsh <;> try cases hsh
    split at hsh <;> try cases hsh
    rename_i hc
    obtain ⟨rfl, hb, ht⟩ := hc
    obtain ⟨g1, m1⟩ := blt_of ok hb
    cases tg <;> first | cases ht | skip
    cases ps with
    | cons h1 n1 r => cases r with
      | cons h2 n2 r =>
        cases r
        exact pi_zip' hK.symm g1 m1 (PEs.cons h1 n1 (.cons h2 n2 .nil)).pa (by rw [star_one n1]) (PEs.cons h2 n2 .nil).plain
  · cases hsh
/-- within a comprehension's block -/
theorem CtxOk.blk (ok : CtxOk T rf C N sc X) (s : Shared) (H : Hp) (scope : Scope) (cl : List (Str × Addr)) (Ca : Addr) (fp : List Addr) : CtxOk T rf C N (relS scope sc) (X.blk s H scope (compEnvC scope cl Ca X.env) fp) where
  names := ok.names
  nd := ok.nd
  scope := by
    rw [← ok.scope]
    rfl
  calm := ok.calm
  units := ok.units
  guards := ok.guards
  fns := ok.fns
  blts := ok.blts
  csts := ok.csts
theorem setless {it : Expr} (h : isSetE it = false) (env : Env) : ∀ x, foldedSetIterable it env x = pure x := by
  intro x
  cases it <;> first | rfl | cases h
theorem own_at {Z : Ys} {σ : L2.St} {H : Hp} {env : En} {i : Nat} {d : D} (g : Good G Z σ H env) (h : ownD env i = some d) : ∃ a s, env[i]? = some s ∧ s.isOwn = true ∧ σ[i]? = some (some (.ref a)) ∧ Bod G.K H (Av σ env Z) a d ∧ ¬ Z a := by
  unfold ownD at h
  split at h
  · rename_i d' hs
    cases h
    obtain ⟨a, ha, b, _, nz⟩ := g.owns i d hs
    exact ⟨a, _, hs, rfl, ha, b, nz⟩
  · rename_i d' hs
    cases h
    obtain ⟨a, ha, b, _, nz⟩ := g.bors i d hs
    exact ⟨a, _, hs, rfl, ha, b, nz⟩
  · cases h
theorem Good.mutOwn {Z : Ys} {σ : L2.St} {H : Hp} {env : En} {i : Nat} {s : Sl} {a : Addr} {o : HO} {d : D} (g : Good G Z σ H env) (hs : env[i]? = some s) (ho : s.isOwn = true) (ha : σ[i]? = some (some (.ref a)))
    (b : Bod G.K (upd H a o) (Av σ env Z) a d) : Post G Z σ H env σ (upd H a o) (putSlot env i d) := by
  have hl : i < env.length := (List.getElem?_eq_some_iff.mp hs).1
  have eS : putSlot env i d = env.set i (putBor s d) := by unfold putSlot; rw [List.getD_eq_getElem?_getD, hs]; rfl
  have oa : ownA σ env a := ⟨i, s, hs, ho, ha⟩
  have ow : ∀ c, ownA σ (env.set i (putBor s d)) c ↔ ownA σ env c := fun c => by
    constructor
    · rintro ⟨j, t, h1, h2, h3⟩
      by_cases e : i = j
      · subst e; exact ⟨i, s, hs, ho, h3⟩
      · rw [List.getElem?_set_ne e] at h1; exact ⟨j, t, h1, h2, h3⟩
    · rintro ⟨j, t, h1, h2, h3⟩
      by_cases e : i = j
      · subst e; exact ⟨i, putBor s d, by rw [List.getElem?_set_self hl], by rw [putBor_own]; exact ho, h3⟩
      · exact ⟨j, t, by rw [List.getElem?_set_ne e]; exact h1, h2, h3⟩
  have av : ∀ c, Av σ (env.set i (putBor s d)) Z c → Av σ env Z c := fun c y => y.elim (fun z => .inl ((ow c).mp z)) .inr
  have fr : Fr1 H (upd H a o) (Av σ env Z) (Av σ (env.set i (putBor s d)) Z) := ⟨fun c u h n => by rw [upd_ne fun e => n (by rw [e]; exact .inl oa)]; exact h, fun c y => .inl (av c y)⟩
  rw [eS]
  refine ⟨⟨by simp [g.len], fun c z => ?_, fun j e h => ?_, fun j e h => ?_, fun j e h => ?_, fun j k t u c h1 h2 h3 h4 h5 h6 => ?_, fun j c h => ?_, fun c u h n => ?_⟩, fun c u h n => ?_, fun c z => .inl ((ow c).mp z), fun c h => ?_⟩
  · by_cases e : c = a
    · rw [e, upd_same]; exact fun q => nomatch q
    · rw [upd_ne e]; exact g.zdom c z
  · by_cases ej : i = j
    · subst ej
      rw [List.getElem?_set_self hl] at h
      cases s <;> first | cases ho | skip
      all_goals simp [putBor] at h
    · rw [List.getElem?_set_ne ej] at h
      obtain ⟨w, hw, rw'⟩ := g.vals j e h
      exact ⟨w, hw, rw'.fr fr⟩
  · by_cases ej : i = j
    · subst ej
      rw [List.getElem?_set_self hl] at h
      cases s with
      | emp => cases ho
      | val _ => cases ho
      | bor _ => simp [putBor] at h
      | own d0 =>
        simp only [putBor, Option.some.injEq, Sl.own.injEq] at h
        subst h
        obtain ⟨a', ha', b', h0, nz⟩ := g.owns i d0 hs
        rw [ha] at ha'; cases ha'
        exact ⟨a, ha, b.fr (Fr1.less av) fun o h => h, h0, nz⟩
    · rw [List.getElem?_set_ne ej] at h
      obtain ⟨w, hw, b', h0, nz⟩ := g.owns j e h
      refine ⟨w, hw, b'.fr fr fun u hu => ?_, h0, nz⟩
      rw [upd_ne fun q => ej (g.inj i j s _ a hs h ho rfl ha (by rw [← q]; exact hw))]; exact hu
  · by_cases ej : i = j
    · subst ej
      rw [List.getElem?_set_self hl] at h
      cases s with
      | emp => cases ho
      | val _ => cases ho
      | own _ => simp [putBor] at h
      | bor d0 =>
        simp only [putBor, Option.some.injEq, Sl.bor.injEq] at h
        subst h
        obtain ⟨a', ha', b', h0, nz⟩ := g.bors i d0 hs
        rw [ha] at ha'; cases ha'
        exact ⟨a, ha, b.fr (Fr1.less av) fun o h => h, h0, nz⟩
    · rw [List.getElem?_set_ne ej] at h
      obtain ⟨w, hw, b', h0, nz⟩ := g.bors j e h
      refine ⟨w, hw, b'.fr fr fun u hu => ?_, h0, nz⟩
      rw [upd_ne fun q => ej (g.inj i j s _ a hs h ho rfl ha (by rw [← q]; exact hw))]; exact hu
  · have up : ∀ (j : Nat) (t : Sl), (env.set i (putBor s d))[j]? = some t → t.isOwn = true → ∃ t', env[j]? = some t' ∧ t'.isOwn = true := fun j t h ht => by
      by_cases e : i = j
      · subst e; exact ⟨s, hs, ho⟩
      · rw [List.getElem?_set_ne e] at h; exact ⟨t, h, ht⟩
    obtain ⟨t', e1, o1⟩ := up j t h1 h3
    obtain ⟨u', e2, o2⟩ := up k u h2 h4
    exact g.inj j k t' u' c e1 e2 o1 o2 h5 h6
  · obtain ⟨e, he⟩ := g.held j c h
    by_cases ej : i = j
    · subst ej
      rw [hs] at he; cases he
      exact ⟨d, by rw [List.getElem?_set_self hl]; rfl⟩
    · exact ⟨e, by rw [List.getElem?_set_ne ej]; exact he⟩
  · have ne : c ≠ a := fun e => by
      subst e
      cases s with
      | emp => cases ho
      | val _ => cases ho
      | own d0 => obtain ⟨a', ha', _, h0, _⟩ := g.owns i d0 hs; rw [ha] at ha'; cases ha'; rw [h0] at h; cases h
      | bor d0 => obtain ⟨a', ha', _, h0, _⟩ := g.bors i d0 hs; rw [ha] at ha'; cases ha'; exact n i h0
    rw [upd_ne ne]; exact g.frame c u h n
  · rw [upd_ne fun e => n (by rw [e]; exact oa)]; exact h
  · by_cases e : c = a
    · rw [e, upd_same] at h; cases h
    · rw [upd_ne e] at h; exact h
/-- what stands besides at an own place's change -/
theorem fr_own {Z : Ys} {σ : L2.St} {H : Hp} {env : En} {a : Addr} {o : HO} (oa : ownA σ env a) : Fr1 H (upd H a o) (Av σ env Z) (Av σ env Z) :=
  ⟨fun c u h n => by rw [upd_ne fun e => n (by rw [e]; exact .inl oa)]; exact h, fun c y => .inl y⟩
theorem popIt_inv {i : Nat} {env env' : En} {r : Rs} (h : popIt i env = some (r, env')) : ∃ ds d, ownD env i = some (.lst ds) ∧ ds[ds.length - 1]? = some d ∧ r = .val d ∧ env' = putSlot env i (.lst ds.dropLast) := by
  unfold popIt at h
  split at h
  · rename_i ds ho
    split at h
    · cases h
      exact ⟨ds, _, ho, ‹_›, rfl, rfl⟩
    · cases h
  · cases h
theorem e_pop (ok : CtxOk T rf C N sc X) (hK : G.K = X.K) {i : Nat} {x : Str} {px apos cpos : Pos} (h : slotOk N sc i x = true) (hl : (apos.endLine == cpos.line) = true) : PE X (.Call (.Attribute (.Name x px) "pop" apos) [] [] cpos) (tE G rf C (.popE i)) := by
  obtain ⟨v1, v2, v3, v4⟩ := slot_vis ok h
  have pv : PE X (.Name x px) (tVar i) := pe_var v1 v2 v3 v4
  refine (pe_bm0 PySem.F.plainAttrs_list PySem.F.slot_list_pop PySem.F.type_list_pop mt_pop pv rfl hl).imp fun σ H Q ⟨Z, env, r, env', g, he, q⟩ => ?_
  simp only [evalE] at he
  obtain ⟨ds, d, ho, h1, rfl, rfl⟩ := popIt_inv he
  obtain ⟨a, s, hs, hso, ha, ⟨vs, hv, rv⟩, _⟩ := own_at g ho
  have oa : ownA σ env a := ⟨i, s, hs, hso, ha⟩
  obtain ⟨v, hgv, rpv⟩ := rv.get h1
  refine ⟨.ref a, ha, .inl ⟨rfl, vs, SqL.of hv⟩, a, vs, v, rfl, rfl, hv, by rw [rv.len]; exact hgv, ?_⟩
  have p1 := g.mutOwn (o := .lst vs.dropLast) (d := .lst ds.dropLast) hs hso ha ⟨vs.dropLast, upd_same, (rv.fr (fr_own oa)).dropLast⟩
  exact q _ _ p1 (p1.rep rpv)
end
end Ofw
/-! Ofw 15: expressions are what the evaluator reckons: all of them -/
namespace Ofw
open PySem L2
section
variable {G : Gx} {rf : Nat → List Bool} {C : CallT} {T : Tab} {N : List Str}
theorem chkE_op {t : Tag} {as : List Ex} {sc : Scope} {e : Expr} (ht : ∀ lo hi, t ≠ .slc lo hi) (h : chkE T N (.op t as) sc e = true) : ∃ es, shape T sc t e = some es ∧ chkAs T N as sc es = true := by
  unfold chkE at h
  cases t <;> first | exact absurd rfl (ht _ _) | skip
  all_goals
    simp only at h
    split at h
    · exact ⟨_, ‹_›, h⟩
    · cases h
theorem chkAs_cons {a : Ex} {as : List Ex} {sc : Scope} {es : List Expr} (h : chkAs T N (a :: as) sc es = true) :
    (∃ i x pos es', a = .peek i ∧ es = .Name x pos :: es' ∧ slotOk N sc i x = true ∧ chkAs T N as sc es' = true) ∨ (∃ e es', (∀ i, a ≠ .peek i) ∧ es = e :: es' ∧ noStar e = true ∧ chkE T N a sc e = true ∧ chkAs T N as sc es' = true) := by
  by_cases hp : ∃ i, a = .peek i
  · obtain ⟨i, rfl⟩ := hp
    unfold chkAs at h
    split at h
    · simp only [Bool.and_eq_true] at h
      exact .inl ⟨i, _, _, _, rfl, rfl, h.1, h.2⟩
    · cases h
  · have hp' : ∀ i, a ≠ .peek i := fun i e => hp ⟨i, e⟩
    right
    cases es with
    | nil => cases a <;> first | (unfold chkAs at h; cases h) | exact absurd rfl (hp' _)
    | cons e es =>
      have h' : (noStar e && chkE T N a sc e && chkAs T N as sc es) = true := by
        cases a <;> first | exact absurd rfl (hp' _) | (unfold chkAs at h; exact h)
      simp only [Bool.and_eq_true] at h'
      exact ⟨e, es, hp', rfl, h'.1.1, h'.1.2, h'.2⟩
theorem chkEs_cons {a : Ex} {as : List Ex} {sc : Scope} {es : List Expr} (h : chkEs T N (a :: as) sc es = true) : ∃ e es', es = e :: es' ∧ chkE T N a sc e = true ∧ chkEs T N as sc es' = true := by
  unfold chkEs at h
  split at h
  · simp only [Bool.and_eq_true] at h
    exact ⟨_, _, rfl, h.1, h.2⟩
  · cases h
theorem chkEs_nil {sc : Scope} {es : List Expr} (h : chkEs T N [] sc es = true) : es = [] := by
  unfold chkEs at h
  simpa using h
theorem chkAs_nil {sc : Scope} {es : List Expr} (h : chkAs T N [] sc es = true) : es = [] := by
  unfold chkAs at h
  simpa using h
abbrev SndE (G : Gx) (rf : Nat → List Bool) (C : CallT) (T : Tab) (N : List Str) (ex : Ex) : Prop := ∀ (sc : Scope) (e : Expr) (X : Cx), CtxOk T rf C N sc X → G.K = X.K → chkE T N ex sc e = true → PE X e (tE G rf C ex) ∧ PT X e (tTv G (evalE rf C ex))
abbrev SndA (G : Gx) (rf : Nat → List Bool) (C : CallT) (T : Tab) (N : List Str) (as : List Ex) : Prop := ∀ (sc : Scope) (es : List Expr) (X : Cx), CtxOk T rf C N sc X → G.K = X.K → chkAs T N as sc es = true → PEs G rf C X es as
abbrev SndL (G : Gx) (rf : Nat → List Bool) (C : CallT) (T : Tab) (N : List Str) (as : List Ex) : Prop := ∀ (sc : Scope) (es : List Expr) (X : Cx), CtxOk T rf C N sc X → G.K = X.K → chkEs T N as sc es = true →
  (as ≠ [] → ∀ pos, (PE X (.BoolOp .And es pos) (tEv G (evalAnd rf C as)) ∧ PW X (.BoolOp .And es pos) (tTv G (evalAnd rf C as))) ∧ (PE X (.BoolOp .Or es pos) (tEv G (evalOr rf C as)) ∧ PW X (.BoolOp .Or es pos) (tTv G (evalOr rf C as)))) ∧
  (es.length ≤ 1 → PTs X es (tIfs G rf C as))
theorem evalAnd_cons2 (a b : Ex) (as : List Ex) : evalAnd rf C (a :: b :: as) = evAnd (evalE rf C a) (evalAnd rf C (b :: as)) := by
  funext env; simp only [evalAnd]; rfl
theorem evalOr_cons2 (a b : Ex) (as : List Ex) : evalOr rf C (a :: b :: as) = evOr (evalE rf C a) (evalOr rf C (b :: as)) := by
  funext env; simp only [evalOr]; rfl
theorem snd_op {t : Tag} {as : List Ex} (hA : SndA G rf C T N as) : SndE G rf C T N (.op t as) := by
  intro sc e X ok hK h
  by_cases hs : ∃ lo hi, t = .slc lo hi
  · obtain ⟨lo, hi, rfl⟩ := hs
    unfold chkE at h
    simp only at h
    split at h
    · rename_i a l u p2 pos
      simp only [Bool.and_eq_true, beq_iff_eq] at h
      obtain ⟨⟨⟨hlo, hhi⟩, hnp⟩, hc⟩ := h
      have ps := hA sc _ X ok hK hc
      have fin : PE X (.Subscript a (.Slice l u none p2) pos) (tE G rf C (.op (.slc lo hi) as)) := by
        cases l with
        | none =>
          cases u with
          | none =>
            subst hlo; subst hhi
            obtain ⟨x, rfl, ha⟩ := one_of ps
            refine (pe_slice r_slc ha po_none po_none).imp fun σ H Q q => ?_
            have := sl_ff σ H Q q
            rw [hK] at this
            exact this
          | some ue =>
            subst hlo; subst hhi
            obtain ⟨x, y, rfl, ha, hb⟩ := two_of (es := []) ps
            have hy : ∀ i, y ≠ .peek i := fun i e => by subst e; simp [notPeek] at hnp
            rw [tArg_of hy] at hb
            refine (pe_slice r_slc ha po_none (po_some hb)).imp fun σ H Q q => ?_
            have := sl_ft hy σ H Q q
            rw [hK] at this
            exact this
        | some le =>
          cases u with
          | none =>
            subst hlo; subst hhi
            obtain ⟨x, y, rfl, ha, hb⟩ := two_of (es := []) ps
            have hy : ∀ i, y ≠ .peek i := fun i e => by subst e; simp [notPeek] at hnp
            rw [tArg_of hy] at hb
            refine (pe_slice r_slc ha (po_some hb) po_none).imp fun σ H Q q => ?_
            have := sl_tf hy σ H Q q
            rw [hK] at this
            exact this
          | some ue =>
            subst hlo; subst hhi
            cases ps with
            | cons ha n1 r => cases r with
              | cons hb n2 r => cases r with
                | cons hd n3 r =>
                  cases r
                  rename_i x y z
                  have hy : ∀ i, y ≠ .peek i := fun i e => by subst e; simp [notPeek] at hnp
                  have hz : ∀ i, z ≠ .peek i := fun i e => by subst e; simp [notPeek] at hnp
                  rw [tArg_of hy] at hb
                  rw [tArg_of hz] at hd
                  refine (pe_slice r_slc ha (po_some hb) (po_some hd)).imp fun σ H Q q => ?_
                  have := sl_tt hy hz σ H Q q
                  rw [hK] at this
                  exact this
      exact ⟨fin, pt_of_pe hK.symm fin (fun _ => rfl)⟩
    · cases h
  · obtain ⟨es, hsh, hc⟩ := chkE_op (fun lo hi e => hs ⟨lo, hi, e⟩) h
    exact sound_op ok hK hsh (hA sc es X ok hK hc)
theorem keys_ok {tg : Expr} {e : Expr} {es : List Expr} {src : List Ex} {sc : Scope} {X : Cx} (hsh : itShape T sc tg .keys e = some es) (ps : PEs G rf C X es src) (hp : src.all notPeek = true) : ∃ x, src = [x] ∧ (∀ i, x ≠ .peek i) ∧ PI X tg e (iKL X (tE G rf C x)) := by
  unfold itShape at hsh
  simp only at hsh
  split at hsh <;> try cases hsh
  obtain ⟨x, rfl, ha⟩ := one_of ps
  have hx : ∀ i, x ≠ .peek i := fun i e => by subst e; simp [notPeek] at hp
  rw [tArg_of hx] at ha
  exact ⟨x, rfl, hx, pi_keysL ha⟩
theorem snd_lc {elt : Ex} {tg : Tg} {k : ItK} {src ifs : List Ex} {vs : List Nat} (hE : ∀ G, SndE G rf C T N elt) (hS : SndA G rf C T N src) (hI : ∀ G, SndL G rf C T N ifs) : SndE G rf C T N (.lc elt tg k src ifs vs) := by
  intro sc e X ok hK h
  unfold chkE at h
  split at h
  · rename_i eelt etg eit eifs scope pos
    simp only [Bool.and_eq_true, decide_eq_true_eq, Bool.not_eq_true'] at h
    obtain ⟨⟨⟨⟨⟨⟨⟨⟨h1, h2⟩, h3⟩, h4⟩, h5⟩, h6⟩, h7⟩, h8⟩, h9⟩ := h
    have hsrc : ∃ es, itShape T sc etg k eit = some es ∧ chkAs T N src sc es = true := by
      split at h7
      · exact ⟨_, ‹_›, h7⟩
      · cases h7
    obtain ⟨es, hsh, hca⟩ := hsrc
    have nd : X.N.Nodup := by rw [ok.names]; exact ok.nd
    have bk : BlkOk X.N X.env.scope scope (ownOf N vs) := by rw [ok.names, ok.scope]; exact blkOk_by h3
    have hv : ∀ i ∈ tgI tg, i ∈ vs := fun i hi => by
      have := List.all_eq_true.mp h2 i hi
      simpa using this
    have ownvs : (ownOf N vs).map (·.2) = vs := by unfold ownOf; rw [List.map_map]; simp [Function.comp_def]
    have fin : PE X (.ListComp eelt [⟨etg, eit, eifs, 0⟩] scope pos) (tE G rf C (.lc elt tg k src ifs vs)) := by
      by_cases hk : k = .keys
      · subst hk
        obtain ⟨x, rfl, hx, pi⟩ := keys_ok hsh (hS sc es X ok hK hca) h6
        refine (pe_unl (pe_lc (g := gBX X.K tg) (tt := tIX X.K rf C ifs) (te := tEX X.K rf C elt) (own := ownOf N vs) ok.calm nd pi bk
          (fun s H Ca cl fp => pgX fun G' e => tg_ok (ok.blk s H scope cl Ca fp) e (.inl rfl) h1)
          (fun s H Ca cl fp => ptsX fun G' e => (hI G' _ _ _ (ok.blk s H scope cl Ca fp) e h8).2 h5)
          (fun s H Ca cl fp => peX fun G' e => (hE G' _ _ _ (ok.blk s H scope cl Ca fp) e h9).1) (setless h4 _))).imp fun σ H Q q => ?_
        rw [ownvs]
        refine lc_redD hx hK hv σ H Q ?_
        obtain ⟨Z, env, r, env', g, he, q⟩ := q
        exact ⟨Z, env, r, env', g, by rw [← evalE_lc]; exact he, q⟩
      have pi := it_ok ok hK hsh (hS sc es X ok hK hca) h6 hk
      refine (pe_lc (own := ownOf N vs) ok.calm nd pi bk
        (fun s H Ca cl fp => tg_ok (ok.blk s H scope cl Ca fp) hK (.inl rfl) h1)
        (fun s H Ca cl fp => (hI G _ _ _ (ok.blk s H scope cl Ca fp) hK h8).2 h5)
        (fun s H Ca cl fp => (hE G _ _ _ (ok.blk s H scope cl Ca fp) hK h9).1) (setless h4 _)).imp fun σ H Q q => ?_
      rw [ownvs]
      refine lc_red hv σ H Q ?_
      obtain ⟨Z, env, r, env', g, he, q⟩ := q
      exact ⟨Z, env, r, env', g, by rw [← evalE_lc]; exact he, q⟩
    exact ⟨fin, pt_of_pe hK.symm fin (fun _ => rfl)⟩
  · cases h
mutual
theorem sound_e : ∀ (ex : Ex) (G : Gx), SndE G rf C T N ex
  | .var i => by
    intro G sc e X ok hK h
    unfold chkE at h
    split at h
    · have p := e_var (G := G) (pos := ‹_›) ok h
      exact ⟨p, pt_of_pe hK.symm p (fun _ => rfl)⟩
    · cases h
  | .peek _ => by
    intro G sc e X ok hK h
    unfold chkE at h
    cases h
  | .lit c => by
    intro G sc e X ok hK h
    unfold chkE at h
    split at h
    · have p := e_lit (G := G) (rf := rf) (C := C) (X := X) (k := ‹Nat›) (pos := ‹Pos›) h
      exact ⟨p, pt_of_pe hK.symm p (fun _ => rfl)⟩
    · cases h
  | .glob x d => by
    intro G sc e X ok hK h
    unfold chkE at h
    split at h
    · simp only [Bool.and_eq_true, decide_eq_true_eq, Bool.not_eq_true'] at h
      obtain ⟨⟨⟨rfl, h1⟩, h2⟩, h3⟩ := h
      have p := e_glob (G := G) (pos := ‹Pos›) ok h1 h2 h3
      exact ⟨p, pt_of_pe hK.symm p (fun _ => rfl)⟩
    · cases h
  | .op t as => fun G => snd_op (sound_as as G)
  | .not a => by
    intro G sc e X ok hK h
    unfold chkE at h
    split at h
    · obtain ⟨p, q⟩ := sound_e a G sc _ X ok hK h
      refine ⟨(pe_not' hK.symm p).imp fun σ H Q ⟨Z, env, r, env', g, he, k⟩ => ⟨Z, env, r, env', g, by simp only [evalE] at he; exact he, k⟩,
        (pt_not' q).imp fun σ H Q ⟨Z, env, r, env', b, g, he, k⟩ => ⟨Z, env, r, env', b, g, by simp only [evalE] at he; exact he, k⟩⟩
    · cases h
  | .and as => by
    intro G sc e X ok hK h
    unfold chkE at h
    split at h
    · simp only [Bool.and_eq_true, Bool.not_eq_true', List.isEmpty_eq_false_iff] at h
      obtain ⟨⟨p, q⟩, _⟩ := (sound_l as G sc _ X ok hK h.2).1 h.1 ‹Pos›
      refine ⟨p.imp fun σ H Q ⟨Z, env, r, env', g, he, k⟩ => ⟨Z, env, r, env', g, by simp only [evalE] at he; exact he, k⟩,
        q.pt.imp fun σ H Q ⟨Z, env, r, env', b, g, he, k⟩ => ⟨Z, env, r, env', b, g, by simp only [evalE] at he; exact he, k⟩⟩
    · cases h
  | .or as => by
    intro G sc e X ok hK h
    unfold chkE at h
    split at h
    · simp only [Bool.and_eq_true, Bool.not_eq_true', List.isEmpty_eq_false_iff] at h
      obtain ⟨_, ⟨p, q⟩⟩ := (sound_l as G sc _ X ok hK h.2).1 h.1 ‹Pos›
      refine ⟨p.imp fun σ H Q ⟨Z, env, r, env', g, he, k⟩ => ⟨Z, env, r, env', g, by simp only [evalE] at he; exact he, k⟩,
        q.pt.imp fun σ H Q ⟨Z, env, r, env', b, g, he, k⟩ => ⟨Z, env, r, env', b, g, by simp only [evalE] at he; exact he, k⟩⟩
    · cases h
  | .ife c a b => by
    intro G sc e X ok hK h
    unfold chkE at h
    split at h
    · simp only [Bool.and_eq_true] at h
      obtain ⟨pc, qc⟩ := sound_e c G sc _ X ok hK h.1.1
      obtain ⟨pa, qa⟩ := sound_e a G sc _ X ok hK h.1.2
      obtain ⟨pb, qb⟩ := sound_e b G sc _ X ok hK h.2
      refine ⟨(pe_if' qc pa pb).imp fun σ H Q ⟨Z, env, r, env', g, he, k⟩ => ⟨Z, env, r, env', g, by simp only [evalE] at he; exact he, k⟩,
        (pt_if' qc qa qb).imp fun σ H Q ⟨Z, env, r, env', b, g, he, k⟩ => ⟨Z, env, r, env', b, g, by simp only [evalE] at he; exact he, k⟩⟩
    · cases h
  | .chain p q a b c => by
    intro G sc e X ok hK h
    unfold chkE at h
    split at h
    · simp only [Bool.and_eq_true, decide_eq_true_eq, Bool.not_eq_true'] at h
      obtain ⟨⟨⟨⟨⟨rfl, rfl⟩, hm⟩, h1⟩, h2⟩, h3⟩ := h
      obtain ⟨pa, qa⟩ := sound_e a G sc _ X ok hK h1
      obtain ⟨pb, qb⟩ := sound_e b G sc _ X ok hK h2
      obtain ⟨pc, qc⟩ := sound_e c G sc _ X ok hK h3
      have red : ∀ σ H Q, tEv G (evalE rf C (.chain p q a b c)) σ H Q → tChain (fun x y => rTag X.K (.cmp p) [x, y]) (fun x y => rTag X.K (.cmp q) [x, y]) (tEv G (evalE rf C a)) (tEv G (evalE rf C b)) (tEv G (evalE rf C c)) σ H Q := fun σ H Q ⟨Z, env, r, env', g, he, k⟩ =>
        chain_red hK.symm σ H Q ⟨Z, env, r, env', g, by simp only [evalE] at he; exact he, k⟩
      exact ⟨(pe_chain (r_cmp ok.units) (r_cmp ok.units) pa pb pc hm).imp red, pt_of_test (pt_chain (r_cmp ok.units) (r_cmp ok.units) pa pb pc hm) red fun env r env' he => evChain_bl (p := p) (q := q) (ea := evalE rf C a) (eb := evalE rf C b) (ec := evalE rf C c) env r env' (by simp only [evalE] at he; exact he)⟩
    · cases h
  | .chain3 _ _ _ _ _ _ _ => by
    intro G sc e X ok hK h
    unfold chkE at h
    cases h
  | .popE i => by
    intro G sc e X ok hK h
    unfold chkE at h
    split at h
    · rename_i x px m apos cpos
      simp only [Bool.and_eq_true, decide_eq_true_eq] at h
      obtain ⟨⟨rfl, h1⟩, h2⟩ := h
      have p := e_pop (G := G) (px := px) ok hK h1 h2
      exact ⟨p, pt_of_pe hK.symm p (fun _ => rfl)⟩
    · cases h
  | .lc elt tg k src ifs vs => fun G => snd_lc (sound_e elt) (sound_as src G) (sound_l ifs)
theorem sound_as : ∀ (as : List Ex) (G : Gx), SndA G rf C T N as
  | [] => by
    intro G sc es X ok hK h
    rw [chkAs_nil h]
    exact .nil
  | a :: as => by
    intro G sc es X ok hK h
    rcases chkAs_cons h with ⟨i, x, pos, es', rfl, rfl, h1, h2⟩ | ⟨e, es', hp, rfl, hn, h1, h2⟩
    · obtain ⟨v1, v2, v3, v4⟩ := slot_vis ok h1
      exact .cons (pe_var v1 v2 v3 v4) rfl (sound_as as G sc es' X ok hK h2)
    · refine .cons ?_ hn (sound_as as G sc es' X ok hK h2)
      rw [tArg_of hp]
      exact (sound_e a G sc e X ok hK h1).1
theorem sound_l : ∀ (as : List Ex) (G : Gx), SndL G rf C T N as
  | [] => by
    intro G sc es X ok hK h
    refine ⟨fun n => absurd rfl n, fun _ => ?_⟩
    rw [chkEs_nil h]
    exact pts_nil
  | a :: as => by
    intro G sc es X ok hK h
    obtain ⟨e, es', rfl, h1, h2⟩ := chkEs_cons h
    obtain ⟨p, q⟩ := sound_e a G sc e X ok hK h1
    refine ⟨fun _ pos => ?_, fun hl => ?_⟩
    · have ih := sound_l as G sc es' X ok hK h2
      cases as with
      | nil =>
        have := chkEs_nil h2
        subst this
        have e1 : evalAnd rf C [a] = evalE rf C a := by funext env; simp only [evalAnd]
        have e2 : evalOr rf C [a] = evalE rf C a := by funext env; simp only [evalOr]
        rw [e1, e2]
        exact ⟨⟨pe_one p, pw_and1 q⟩, ⟨pe_one p, pw_or1 q⟩⟩
      | cons b bs =>
        obtain ⟨e2, es2, rfl, _, _⟩ := chkEs_cons h2
        obtain ⟨⟨pa, qa⟩, ⟨po, qo⟩⟩ := ih.1 (by simp) pos
        rw [evalAnd_cons2, evalOr_cons2]
        exact ⟨⟨pe_and' hK.symm p pa, pw_and' q qa⟩, ⟨pe_or' hK.symm p po, pw_or' q qo⟩⟩
    · have : es' = [] := by
        cases es' with
        | nil => rfl
        | cons _ _ => simp at hl
      subst this
      exact pts_one q
end
end
end Ofw
/-! Ofw 16: statements: the evaluator -/
namespace Ofw
open PySem L2
inductive Fl where
  | nx | bk | ct | rt (r : Rs)
def toSl : Rs → Sl
  | .val d => .val d
  | .fr d => .own d
def slotFree (env : En) (i : Nat) : Bool := match env[i]? with
  | some (.bor _) => false
  | some _ => true
  | none => false
/-- names stored, one by one -/
def setAll : List Nat → List Rs → En → Option En
  | [], [], env => some env
  | i :: is, r :: rs, env => if slotFree env i then setAll is rs (env.set i (toSl r)) else none
  | _, _, _ => none
def augD : Operator → D → D → Option D
  | .Add, .int i, .int j => some (.int (i + j))
  | .Sub, .int i, .int j => some (.int (i - j))
  | _, _, _ => none
/-- o[k] = d -/
def putD : D → D → D → Option D
  | .lst ds, .int k, d => (ixN ds.length k).map fun j => .lst (ds.set j d)
  | .dic kds, .int k, d => if kds.length < sizeLine then some (.dic (putKD kds (Sum.inl k) d)) else none
  | .dic kds, .str k, d => if kds.length < sizeLine then some (.dic (putKD kds (Sum.inr k) d)) else none
  | _, _, _ => none
def forLoop (f : D → En → Option (Fl × En)) : List D → En → Option (Fl × En)
  | [], env => some (.nx, env)
  | d :: ds, env => match f d env with
    | some (.nx, env1) => forLoop f ds env1
    | some (.ct, env1) => forLoop f ds env1
    | some (.bk, env1) => some (.nx, env1)
    | some (.rt r, env1) => some (.rt r, env1)
    | none => none
def whileLoop (c : En → Option (Rs × En)) (f : En → Option (Fl × En)) : Nat → En → Option (Fl × En)
  | 0, _ => none
  | n + 1, env => match c env with
    | some (r, env1) => match truD r.d with
      | some true => match f env1 with
        | some (.nx, env2) => whileLoop c f n env2
        | some (.ct, env2) => whileLoop c f n env2
        | some (.bk, env2) => some (.nx, env2)
        | some (.rt r, env2) => some (.rt r, env2)
        | none => none
      | some false => some (.nx, env1)
      | none => none
    | none => none
section
variable (rf : Nat → List Bool) (C : CallT)
def evalRs : List Ex → En → Option (List Rs × En)
  | [], env => some ([], env)
  | a :: as, env => match evalE rf C a env with
    | some (r, env1) => match evalRs as env1 with
      | some (rs, env2) => some (r :: rs, env2)
      | none => none
    | none => none
def evalRet (e : Ex) (env : En) : Option (Rs × En) := match e with
  | .var i => match env[i]? with
    | some (.own d) => some (.fr d, env.set i .emp)
    | _ => evalE rf C e env
  | _ => evalE rf C e env
def evAsg (i : Nat) (e : Ex) (env : En) : Option (Fl × En) := match evalE rf C e env with
  | some (r, env1) => if slotFree env1 i then some (.nx, env1.set i (toSl r)) else none
  | none => none
def evAsgT (is : List Nat) (e : Ex) (env : En) : Option (Fl × En) := match evalE rf C e env with
  | some (r, env1) => (bindT (.tup is) r.d env1).map fun env2 => (.nx, env2)
  | none => none
def evPar (is : List Nat) (es : List Ex) (env : En) : Option (Fl × En) := match evalRs rf C es env with
  | some (rs, env1) => (setAll is rs env1).map fun env2 => (.nx, env2)
  | none => none
def evSeti (i : Nat) (k e : Ex) (env : En) : Option (Fl × En) := match evalE rf C e env with
  | some (r, env1) => match evalE rf C k env1 with
    | some (rk, env2) => match ownD env2 i with
      | some d => match putD d rk.d r.d with
        | some d' => if (ownD env1 i).isSome then some (.nx, putSlot env2 i d') else none
        | none => none
      | none => none
    | none => none
  | none => none
def evAug (i : Nat) (op : Operator) (e : Ex) (env : En) : Option (Fl × En) := match env[i]? with
  | some (.val d) => match evalE rf C e env with
    | some (r, env1) => match augD op d r.d with
      | some d' => if slotFree env1 i then some (.nx, env1.set i (.val d')) else none
      | none => none
    | none => none
  | _ => none
def isLst : Option D → Bool
  | some (.lst _) => true
  | _ => false
def evApp (i : Nat) (e : Ex) (env : En) : Option (Fl × En) := match evalE rf C e env with
  | some (r, env1) => match ownD env1 i with
    | some (.lst ds) => if ds.length < sizeLine ∧ isLst (ownD env i) = true then some (.nx, putSlot env1 i (.lst (ds ++ [r.d]))) else none
    | _ => none
  | none => none
def evExt (i : Nat) (e : Ex) (env : En) : Option (Fl × En) := match evalE rf C e env with
  | some (r, env1) => match ownD env1 i with
    | some (.lst ds) => match r.d with
      | .lst es => if ds.length + es.length ≤ sizeLine ∧ isLst (ownD env i) = true then some (.nx, putSlot env1 i (.lst (ds ++ es))) else none
      | .tup es => if ds.length + es.length ≤ sizeLine ∧ isLst (ownD env i) = true then some (.nx, putSlot env1 i (.lst (ds ++ es))) else none
      | _ => none
    | _ => none
  | none => none
def isDic : Option D → Bool
  | some (.dic _) => true
  | _ => false
def evUpd (i : Nat) (e : Ex) (env : En) : Option (Fl × En) := match evalE rf C e env with
  | some (r, env1) => match ownD env1 i with
    | some (.dic ds) => match r.d with
      | .dic es => if ds.length + es.length ≤ sizeLine ∧ isDic (ownD env i) = true then some (.nx, putSlot env1 i (.dic (mergeKD ds es))) else none
      | _ => none
    | _ => none
  | none => none
def evPop (j i : Nat) (env : En) : Option (Fl × En) := match ownD env i with
  | some (.lst ds) => match ds[ds.length - 1]? with
    | some d => let env1 := putSlot env i (.lst ds.dropLast); if slotFree env1 j && i != j then some (.nx, env1.set j (.val d)) else none
    | none => none
  | _ => none
def evDrop (e : Ex) (env : En) : Option (Fl × En) := (evalE rf C e env).map fun p => (.nx, p.2)
def evRet (e : Ex) (env : En) : Option (Fl × En) := (evalRet rf C e env).map fun p => (.rt p.1, p.2)
def evIfS (c : Ex) (a b : En → Option (Fl × En)) (env : En) : Option (Fl × En) := match evalE rf C c env with
  | some (r, env1) => match truD r.d with
    | some true => a env1
    | some false => b env1
    | none => none
  | none => none
def evFor (tg : Tg) (k : ItK) (src : List Ex) (body : En → Option (Fl × En)) (env : En) : Option (Fl × En) := match evalAs rf C src env with
  | some (xs, env1) => match valsOf xs with
    | some ds => match itemsD k ds with
      | some its => forLoop (fun d en => (bindT tg d en).bind body) its env1
      | none => none
    | none => none
  | none => none
def evSeq (a b : En → Option (Fl × En)) (env : En) : Option (Fl × En) := match a env with
  | some (.nx, env1) => b env1
  | r => r
variable (wf : Nat)
mutual
def execS : Sx → En → Option (Fl × En)
  | .asg i e => evAsg rf C i e
  | .asgT is e => evAsgT rf C is e
  | .par is es => evPar rf C is es
  | .seti i k e => evSeti rf C i k e
  | .aug i op e => evAug rf C i op e
  | .app i e => evApp rf C i e
  | .ext i e => evExt rf C i e
  | .upd i e => evUpd rf C i e
  | .popA j i => evPop j i
  | .drop e => evDrop rf C e
  | .ret e => evRet rf C e
  | .retN => fun env => some (.rt (.val .non), env)
  | .ife c a b => evIfS rf C c (execB a) (execB b)
  | .for_ tg k src body => evFor rf C tg k src (execB body)
  | .whl c body => whileLoop (evalE rf C c) (execB body) wf
  | .pass => fun env => some (.nx, env)
  | .brk => fun env => some (.bk, env)
  | .cont => fun env => some (.ct, env)
def execB : List Sx → En → Option (Fl × En)
  | [] => fun env => some (.nx, env)
  | s :: ss => evSeq (execS s) (execB ss)
end
end
/-! ### what a statement leaves -/
section
variable (G : Gx)
def RetOk (Z : Ys) (σ : L2.St) (H' : Hp) (env : En) (v : V) : Rs → Prop
  | .val d => Rep G.K H' (Av σ env Z) v d
  | .fr d => ∃ p, v = .ref p ∧ G.H_0 p = none ∧ ¬ Z p ∧ Good G (zad Z p) σ H' env ∧ Bod G.K H' (Av σ env (zad Z p)) p d
def FlOk (Z : Ys) (σ : L2.St) (H : Hp) (env env' : En) (Dn : Ends) : Fl → Prop
  | .nx => ∀ σ' H', Post G Z σ H env σ' H' env' → Dn.nx σ' H'
  | .bk => ∀ σ' H', Post G Z σ H env σ' H' env' → Dn.bk σ' H'
  | .ct => ∀ σ' H', Post G Z σ H env σ' H' env' → Dn.ct σ' H'
  | .rt r => ∀ v σ' H', Post G Z σ H env σ' H' env' → RetOk G Z σ' H' env' v r → Dn.rt v H'
def tS (ex : En → Option (Fl × En)) : TS := fun Dn σ H => ∃ Z env fl env', Good G Z σ H env ∧ ex env = some (fl, env') ∧ FlOk G Z σ H env env' Dn fl
end
section
variable {G : Gx} {Z : Ys} {σ σ1 : L2.St} {H H1 : Hp} {env env1 env' : En} {Dn : Ends}
theorem FlOk.after {fl : Fl} (p : Post G Z σ H env σ1 H1 env1) (h : FlOk G Z σ H env env' Dn fl) : FlOk G Z σ1 H1 env1 env' Dn fl := by
  cases fl with
  | nx => exact fun σ' H' q => h σ' H' (p.trans q)
  | bk => exact fun σ' H' q => h σ' H' (p.trans q)
  | ct => exact fun σ' H' q => h σ' H' (p.trans q)
  | rt r => exact fun v σ' H' q ro => h v σ' H' (p.trans q) ro
theorem seq_red {a b : En → Option (Fl × En)} (h : tS G (evSeq a b) Dn σ H) : tSeq (tS G a) (tS G b) Dn σ H := by
  obtain ⟨Z, env, fl, env', g, h, q⟩ := h
  unfold evSeq at h
  cases h1 : a env with
  | none => rw [h1] at h; cases h
  | some p =>
    obtain ⟨fl1, env1⟩ := p
    rw [h1] at h
    cases fl1 with
    | nx => exact ⟨Z, env, .nx, env1, g, h1, fun σ' H' p => ⟨Z, env1, fl, env', p.good, h, q.after p⟩⟩
    | bk =>
      simp only [Option.some.injEq, Prod.mk.injEq] at h
      obtain ⟨rfl, rfl⟩ := h
      exact ⟨Z, env, .bk, env1, g, h1, q⟩
    | ct =>
      simp only [Option.some.injEq, Prod.mk.injEq] at h
      obtain ⟨rfl, rfl⟩ := h
      exact ⟨Z, env, .ct, env1, g, h1, q⟩
    | rt r =>
      simp only [Option.some.injEq, Prod.mk.injEq] at h
      obtain ⟨rfl, rfl⟩ := h
      exact ⟨Z, env, .rt r, env1, g, h1, q⟩
theorem free_of {i : Nat} (h : slotFree env i = true) : ∃ s, env[i]? = some s ∧ ∀ d, s ≠ .bor d := by
  unfold slotFree at h
  cases e : env[i]? with
  | none => rw [e] at h; cases h
  | some s =>
    rw [e] at h
    cases s with
    | bor d => cases h
    | emp => exact ⟨_, rfl, fun d e => nomatch e⟩
    | val _ => exact ⟨_, rfl, fun d e => nomatch e⟩
    | own _ => exact ⟨_, rfl, fun d e => nomatch e⟩
/-- a result is stored in a slot -/
theorem asg_post {i : Nat} {v : V} {r : Rs} (g : Good G Z σ H env) (p : Post G Z σ H env σ H1 env1) (ro : ResOk G Z σ H H1 env1 v r) (hf : slotFree env1 i = true) : Post G Z σ H env (σ.set i (some v)) H1 (env1.set i (toSl r)) := by
  cases r with
  | val d => exact p.trans (p.good.setVal (free_of hf) ro)
  | fr d =>
    obtain ⟨q, rfl, hq, g', b⟩ := ro
    obtain ⟨g2, ow⟩ := g'.setOwn (free_of hf) b (g.fresh0 hq) fun z => g.zdom q z hq
    refine ⟨g2, p.step, fun a z => ?_, p.there⟩
    rcases ow a z with z | z
    · exact p.own a z
    · exact .inr (by rw [z]; exact hq)
theorem asg_red {rf : Nat → List Bool} {C : CallT} {i : Nat} {e : Ex} (Dn : Ends) (σ : L2.St) (H : Hp) (h : tS G (evAsg rf C i e) Dn σ H) : tAsg (tE G rf C e) (gName i) Dn σ H := by
  obtain ⟨Z, env, fl, env', g, h, q⟩ := h
  unfold evAsg at h
  cases h1 : evalE rf C e env with
  | none => rw [h1] at h; cases h
  | some p =>
    obtain ⟨r, env1⟩ := p
    rw [h1] at h
    simp only at h
    split at h
    · rename_i hf
      simp only [Option.some.injEq, Prod.mk.injEq] at h
      obtain ⟨rfl, rfl⟩ := h
      exact ⟨Z, env, r, env1, g, h1, fun v H' p ro => q _ H' (asg_post g p ro hf)⟩
    · cases h
theorem drop_red {rf : Nat → List Bool} {C : CallT} {e : Ex} (Dn : Ends) (σ : L2.St) (H : Hp) (h : tS G (evDrop rf C e) Dn σ H) : tDrop (tE G rf C e) Dn σ H := by
  obtain ⟨Z, env, fl, env', g, h, q⟩ := h
  unfold evDrop at h
  cases h1 : evalE rf C e env with
  | none => rw [h1] at h; cases h
  | some p =>
    rw [h1] at h
    simp only [Option.map_some, Option.some.injEq, Prod.mk.injEq] at h
    obtain ⟨rfl, rfl⟩ := h
    exact ⟨Z, env, p.1, p.2, g, h1, fun v H' p ro => q σ H' p⟩
theorem ret_of_res {v : V} {r : Rs} (g : Good G Z σ H env) (ro : ResOk G Z σ H H1 env1 v r) : RetOk G Z σ H1 env1 v r := by
  cases r with
  | val d => exact ro
  | fr d =>
    obtain ⟨p, rfl, hp, g', b⟩ := ro
    exact ⟨p, rfl, g.fresh0 hp, fun z => g.zdom p z hp, g', b⟩
/-- a slot is forgotten, its place given away -/
theorem Good.give {i : Nat} {d : D} {a : Addr} (g : Good G Z σ H env) (hs : env[i]? = some (Sl.own d)) (ha : σ[i]? = some (some (.ref a))) : Post G Z σ H env σ H (env.set i .emp) ∧ Good G (zad Z a) σ H (env.set i .emp) ∧ Bod G.K H (Av σ (env.set i .emp) (zad Z a)) a d := by
  have hl : i < env.length := (List.getElem?_eq_some_iff.mp hs).1
  obtain ⟨a', ha', b, h0, nz⟩ := g.owns i d hs
  rw [ha] at ha'; cases ha'
  have ow : ∀ c, ownA σ (env.set i .emp) c → ownA σ env c ∧ c ≠ a := fun c ⟨j, s, h1, h2, h3⟩ => by
    have ne : i ≠ j := fun e => by subst e; rw [List.getElem?_set_self hl] at h1; cases h1; cases h2
    rw [List.getElem?_set_ne ne] at h1
    refine ⟨⟨j, s, h1, h2, h3⟩, fun e => ne (g.inj i j _ s a hs h1 rfl h2 ha (by rw [← e]; exact h3))⟩
  have less : ∀ c, Av σ (env.set i .emp) (zad Z a) c → Av σ env Z c := fun c y => by
    rcases y with y | y | y
    · exact .inl (ow c y).1
    · exact .inr y
    · rw [y]; exact .inl ⟨i, _, hs, rfl, ha⟩
  have gz : Good G (zad Z a) σ H (env.set i .emp) := by
    refine ⟨by simp [g.len], fun c z => ?_, fun j e h => ?_, fun j e h => ?_, fun j e h => ?_, fun j k s t c h1 h2 h3 h4 h5 h6 => ?_, fun j c h => ?_, g.frame⟩
    · rcases z with z | z
      · exact g.zdom c z
      · rw [z]; obtain ⟨o, ho⟩ := b.there; rw [ho]; exact fun q => nomatch q
    · by_cases ej : i = j
      · subst ej; rw [List.getElem?_set_self hl] at h; cases h
      · rw [List.getElem?_set_ne ej] at h
        obtain ⟨w, hw, rw'⟩ := g.vals j e h
        exact ⟨w, hw, rw'.fr (Fr1.less less)⟩
    · by_cases ej : i = j
      · subst ej; rw [List.getElem?_set_self hl] at h; cases h
      · rw [List.getElem?_set_ne ej] at h
        obtain ⟨w, hw, rw', h0, nz⟩ := g.owns j e h
        refine ⟨w, hw, rw'.fr (Fr1.less less) fun o h => h, h0, fun z => z.elim nz fun q => ?_⟩
        exact ej (g.inj i j _ _ a hs h rfl rfl ha (by rw [← q]; exact hw))
    · by_cases ej : i = j
      · subst ej; rw [List.getElem?_set_self hl] at h; cases h
      · rw [List.getElem?_set_ne ej] at h
        obtain ⟨w, hw, rw', h0, nz⟩ := g.bors j e h
        refine ⟨w, hw, rw'.fr (Fr1.less less) fun o h => h, h0, fun z => z.elim nz fun q => ?_⟩
        exact ej (g.inj i j _ _ a hs h rfl rfl ha (by rw [← q]; exact hw))
    · have nj : i ≠ j := fun e => by subst e; rw [List.getElem?_set_self hl] at h1; cases h1; cases h3
      have nk : i ≠ k := fun e => by subst e; rw [List.getElem?_set_self hl] at h2; cases h2; cases h4
      rw [List.getElem?_set_ne nj] at h1
      rw [List.getElem?_set_ne nk] at h2
      exact g.inj j k s t c h1 h2 h3 h4 h5 h6
    · obtain ⟨e, he⟩ := g.held j c h
      have nj : i ≠ j := fun q => by subst q; rw [hs] at he; cases he
      exact ⟨e, by rw [List.getElem?_set_ne nj]; exact he⟩
  exact ⟨⟨gz.less fun c z => .inl z, fun _ _ h _ => h, fun c z => .inl (ow c z).1, fun _ h => h⟩, gz, b.fr (Fr1.less less) fun o h => h⟩
theorem ret_red {rf : Nat → List Bool} {C : CallT} {X : Cx} {e : Expr} {ex : Ex} {pos : Pos} (hv : ∀ i, ex = .var i → PE X e (tVar i)) (h : PE X e (tE G rf C ex)) : PS X (.Return (some e) pos) (tS G (evRet rf C ex)) := by
  -- an own slot, or a value
  refine ⟨fun pins s σ H D I ⟨Z, env, fl, env', g, he, q⟩ => ?_⟩
  unfold evRet at he
  cases h1 : evalRet rf C ex env with
  | none => rw [h1] at he; cases he
  | some p =>
    obtain ⟨r, env1⟩ := p
    rw [h1] at he
    simp only [Option.map_some, Option.some.injEq, Prod.mk.injEq] at he
    obtain ⟨rfl, rfl⟩ := he
    by_cases hown : ∃ i d, ex = .var i ∧ env[i]? = some (Sl.own d)
    · obtain ⟨i, d, rfl, hs⟩ := hown
      simp only [evalRet, hs, Option.some.injEq, Prod.mk.injEq] at h1
      obtain ⟨rfl, rfl⟩ := h1
      obtain ⟨a, ha, b, h0, nz⟩ := g.owns i d hs
      obtain ⟨p1, gz, bz⟩ := g.give hs ha
      exact (ps_ret (hv i rfl)).run pins s σ H D I ⟨_, ha, q _ σ H p1 ⟨a, rfl, h0, nz, gz, bz⟩⟩
    · have h1' : evalE rf C ex env = some (r, env1) := by
        unfold evalRet at h1
        split at h1
        · split at h1
          · exact absurd ⟨_, _, rfl, ‹_›⟩ hown
          · exact h1
        · exact h1
      exact (ps_ret h).run pins s σ H D I ⟨Z, env, r, env1, g, h1', fun v H' p ro => q v σ H' p (ret_of_res g ro)⟩
theorem if_red {rf : Nat → List Bool} {C : CallT} {c : Ex} {a b : En → Option (Fl × En)} (Dn : Ends) (σ : L2.St) (H : Hp) (h : tS G (evIfS rf C c a b) Dn σ H) : tIfS (tTv G (evalE rf C c)) (tS G a) (tS G b) Dn σ H := by
  obtain ⟨Z, env, fl, env', g, h, q⟩ := h
  unfold evIfS at h
  cases h1 : evalE rf C c env with
  | none => rw [h1] at h; cases h
  | some p =>
    obtain ⟨r, env1⟩ := p
    rw [h1] at h
    cases h2 : truD r.d with
    | none => simp only [h2] at h; cases h
    | some k =>
      refine ⟨Z, env, r, env1, k, g, h1, h2, fun H' p => ?_⟩
      cases k with
      | true => simp only [h2] at h; exact iteT ⟨Z, env1, fl, env', p.good, h, q.after p⟩
      | false => simp only [h2] at h; exact iteF ⟨Z, env1, fl, env', p.good, h, q.after p⟩
theorem asgT_red {rf : Nat → List Bool} {C : CallT} {is : List Nat} {e : Ex} (Dn : Ends) (σ : L2.St) (H : Hp) (h : tS G (evAsgT rf C is e) Dn σ H) : tAsg (tE G rf C e) (gBind G (.tup is)) Dn σ H := by
  obtain ⟨Z, env, fl, env', g, h, q⟩ := h
  unfold evAsgT at h
  cases h1 : evalE rf C e env with
  | none => rw [h1] at h; cases h
  | some p =>
    obtain ⟨r, env1⟩ := p
    rw [h1] at h
    cases h2 : bindT (.tup is) r.d env1 with
    | none => simp only [h2, Option.map_none] at h; cases h
    | some env2 =>
      simp only [h2, Option.map_some, Option.some.injEq, Prod.mk.injEq] at h
      obtain ⟨rfl, rfl⟩ := h
      exact ⟨Z, env, r, env1, g, h1, fun v H' p ro => ⟨Z, env1, r.d, env2, p.good, ro.rep g, h2, fun σ' p2 _ _ => q σ' H' (p.trans p2)⟩⟩
end
end Ofw
/-! Ofw 17: loops, stores -/
namespace Ofw
open PySem L2
section
variable {G : Gx} {rf : Nat → List Bool} {C : CallT}
theorem forLoop_cons {f : D → En → Option (Fl × En)} {d : D} {ds : List D} {env env' : En} {fl : Fl} (h : forLoop f (d :: ds) env = some (fl, env')) :
    ∃ fl1 env1, f d env = some (fl1, env1) ∧ (((fl1 = .nx ∨ fl1 = .ct) ∧ forLoop f ds env1 = some (fl, env')) ∨ (fl1 = .bk ∧ fl = .nx ∧ env' = env1) ∨ (∃ r, fl1 = .rt r ∧ fl = .rt r ∧ env' = env1)) := by
  simp only [forLoop] at h
  cases h1 : f d env with
  | none => rw [h1] at h; cases h
  | some p =>
    obtain ⟨fl1, env1⟩ := p
    rw [h1] at h
    refine ⟨fl1, env1, rfl, ?_⟩
    cases fl1 with
    | nx => exact .inl ⟨.inl rfl, h⟩
    | ct => exact .inl ⟨.inr rfl, h⟩
    | bk =>
      simp only [Option.some.injEq, Prod.mk.injEq] at h
      exact .inr (.inl ⟨rfl, h.1.symm, h.2.symm⟩)
    | rt r =>
      simp only [Option.some.injEq, Prod.mk.injEq] at h
      exact .inr (.inr ⟨r, rfl, h.1.symm, h.2.symm⟩)
/-- a walk that has begun -/
theorem for_core {tg : Tg} {body : En → Option (Fl × En)} {J : It} {S : Hp → Ys → Prop} {its : List D} {Z : Ys} {σ : L2.St} {H : Hp} {env env' : En} {fl : Fl} {Dn : Ends} (g : Good G Z σ H env) (rs : S H (Av σ env Z)) (wk : Walk G.K J S its)
    (h : forLoop (fun d en => (bindT tg d en).bind body) its env = some (fl, env')) (q : FlOk G Z σ H env env' Dn fl) {gg : TG} {tb : TS} (hgg : ∀ v σ H Q, gBind G tg v σ H Q → gg v σ H Q) (htb : ∀ Dn σ H, tS G body Dn σ H → tb Dn σ H) : tFor (fun _ _ R => R J H) gg tb Dn σ H := by
  refine ⟨fun i m σ' H' => m = its.length - i ∧ i ≤ its.length ∧ ∃ en, Post G Z σ H env σ' H' en ∧ forLoop (fun d en => (bindT tg d en).bind body) (its.drop i) en = some (fl, env') ∧ S H' (Av σ' en Z),
    ⟨its.length, rfl, Nat.zero_le _, env, Post.refl g, h, rs⟩, ?_⟩
  rintro i m σ' H' ⟨rfl, hi, en, P, hl, rsv⟩
  rcases Nat.lt_or_ge i its.length with hlt | hge
  · right
    refine ⟨wk.go i H' _ rsv hlt, fun σ2 H2 => _, fun σ2 H2 hN => ⟨its.length - (i + 1), by omega, hN⟩, fun x H2 hy => ?_⟩
    obtain ⟨d, hd, s2, rx⟩ := wk.yld i H' _ x H2 rsv (fun a y => P.good.avdom y) hlt hy
    have hdrop : its.drop i = d :: its.drop (i + 1) := by
      rw [List.drop_eq_getElem_cons hlt]
      rw [List.getElem?_eq_getElem hlt] at hd
      cases hd
      rfl
    rw [hdrop] at hl
    obtain ⟨fl1, en2, hf, hcase⟩ := forLoop_cons hl
    have ps := Post.same P.good s2
    cases hb : bindT tg d en with
    | none => rw [hb] at hf; cases hf
    | some en1 =>
      rw [hb] at hf
      have hf : body en1 = some (fl1, en2) := hf
      refine hgg _ _ _ _ ⟨Z, en, d, en1, ps.good, rx, hb, fun σ2 p2 _ _ => htb _ _ _ ⟨Z, en1, fl1, en2, p2.good, hf, ?_⟩⟩
      have P2 := ps.trans p2
      have go : ∀ σ3 H3, Post G Z σ2 H2 en1 σ3 H3 en2 → forLoop (fun d en => (bindT tg d en).bind body) (its.drop (i + 1)) en2 = some (fl, env') →
          (its.length - (i + 1) = its.length - (i + 1) ∧ i + 1 ≤ its.length ∧ ∃ en, Post G Z σ H env σ3 H3 en ∧ forLoop (fun d en => (bindT tg d en).bind body) (its.drop (i + 1)) en = some (fl, env') ∧ S H3 (Av σ3 en Z)) := fun σ3 H3 p3 hl' =>
        ⟨rfl, by omega, en2, P.trans (P2.trans p3), hl', wk.stab _ _ _ _ ((P2.trans p3).frZ Z) rsv⟩
      rcases hcase with ⟨e, hl'⟩ | ⟨rfl, rfl, rfl⟩ | ⟨r, rfl, rfl, rfl⟩
      · rcases e with rfl | rfl
        · exact fun σ3 H3 p3 => go σ3 H3 p3 hl'
        · exact fun σ3 H3 p3 => go σ3 H3 p3 hl'
      · exact fun σ3 H3 p3 => q σ3 H3 (P.trans (P2.trans p3))
      · exact fun v σ3 H3 p3 ro => q v σ3 H3 (P.trans (P2.trans p3)) ro
  · left
    have ei : i = its.length := by omega
    subst ei
    refine ⟨wk.stop H' _ rsv, ?_⟩
    rw [List.drop_length] at hl
    simp only [forLoop, Option.some.injEq, Prod.mk.injEq] at hl
    obtain ⟨rfl, rfl⟩ := hl
    exact q σ' H' P
theorem for_red {tg : Tg} {k : ItK} {src : List Ex} {body : En → Option (Fl × En)} (Dn : Ends) (σ : L2.St) (H : Hp) (h : tS G (evFor rf C tg k src body) Dn σ H) : tFor (tIt G rf C k src) (gBind G tg) (tS G body) Dn σ H := by
  obtain ⟨Z, env, fl, env', g, h, q⟩ := h
  unfold evFor at h
  cases h1 : evalAs rf C src env with
  | none => rw [h1] at h; cases h
  | some p =>
    obtain ⟨xs, env1⟩ := p
    rw [h1] at h
    cases h2 : valsOf xs with
    | none => simp only [h2] at h; cases h
    | some ds =>
      simp only [h2] at h
      cases h3 : itemsD k ds with
      | none => simp only [h3] at h; cases h
      | some its =>
        simp only [h3] at h
        refine ⟨Z, env, xs, env1, ds, its, g, h1, h2, h3, fun J S H1 p1 rs wk => ?_⟩
        exact for_core p1.good rs wk h (q.after p1) (fun _ _ _ _ h => h) fun _ _ _ h => h
theorem while_red {c : Ex} {body : En → Option (Fl × En)} {wf : Nat} (Dn : Ends) (σ : L2.St) (H : Hp) (h : tS G (whileLoop (evalE rf C c) body wf) Dn σ H) : tWhile (tTv G (evalE rf C c)) (tS G body) Dn σ H := by
  obtain ⟨Z, env, fl, env', g, h, q⟩ := h
  refine ⟨fun m σ' H' => ∃ en, Post G Z σ H env σ' H' en ∧ whileLoop (evalE rf C c) body m en = some (fl, env'), ⟨wf, env, Post.refl g, h⟩, ?_⟩
  rintro m σ' H' ⟨en, P, hl⟩
  cases m with
  | zero => simp only [whileLoop] at hl; cases hl
  | succ m =>
    simp only [whileLoop] at hl
    cases h1 : evalE rf C c en with
    | none => rw [h1] at hl; cases hl
    | some p =>
      obtain ⟨r, en1⟩ := p
      rw [h1] at hl
      cases h2 : truD r.d with
      | none => simp only [h2] at hl; cases hl
      | some b =>
        refine ⟨Z, en, r, en1, b, P.good, h1, h2, fun H1 p1 => ?_⟩
        cases b with
        | false =>
          simp only [h2, Option.some.injEq, Prod.mk.injEq] at hl
          obtain ⟨rfl, rfl⟩ := hl
          exact iteF (q σ' H1 (P.trans p1))
        | true =>
          simp only [h2] at hl
          refine iteT ⟨fun σ2 H2 => ∃ en, Post G Z σ H env σ2 H2 en ∧ whileLoop (evalE rf C c) body m en = some (fl, env'), fun σ2 H2 hN => ⟨m, Nat.lt_succ_self m, hN⟩, ?_⟩
          cases h3 : body en1 with
          | none => simp only [h3] at hl; cases hl
          | some p =>
            obtain ⟨fl1, en2⟩ := p
            simp only [h3] at hl
            refine ⟨Z, en1, fl1, en2, p1.good, h3, ?_⟩
            cases fl1 with
            | nx => exact fun σ3 H3 p3 => ⟨en2, (P.trans p1).trans p3, hl⟩
            | ct => exact fun σ3 H3 p3 => ⟨en2, (P.trans p1).trans p3, hl⟩
            | bk =>
              simp only [Option.some.injEq, Prod.mk.injEq] at hl
              obtain ⟨rfl, rfl⟩ := hl
              exact fun σ3 H3 p3 => q σ3 H3 ((P.trans p1).trans p3)
            | rt r =>
              simp only [Option.some.injEq, Prod.mk.injEq] at hl
              obtain ⟨rfl, rfl⟩ := hl
              exact fun v σ3 H3 p3 ro => q v σ3 H3 ((P.trans p1).trans p3) ro
/-! ### what a slot owns is changed -/
theorem isLst_of {o : Option D} (h : isLst o = true) : ∃ ds, o = some (.lst ds) := by
  unfold isLst at h
  split at h
  · exact ⟨_, rfl⟩
  · cases h
theorem app_red {X : Cx} {i : Nat} {e : Ex} (hK : G.K = X.K) (Dn : Ends) (σ : L2.St) (H : Hp) (h : tS G (evApp rf C i e) Dn σ H) : tDrop (tBM X.K "list" rAppend (tVar i) (tCons (tE G rf C e) tNil)) Dn σ H := by
  obtain ⟨Z, env, fl, env', g, h, q⟩ := h
  unfold evApp at h
  cases h1 : evalE rf C e env with
  | none => rw [h1] at h; cases h
  | some p =>
    obtain ⟨r, env1⟩ := p
    rw [h1] at h
    simp only at h
    split at h
    · rename_i ds ho1
      split at h
      · rename_i hc
        simp only [Option.some.injEq, Prod.mk.injEq] at h
        obtain ⟨rfl, rfl⟩ := h
        obtain ⟨ds0, ho0⟩ := isLst_of hc.2
        obtain ⟨a, s, hs, hso, ha, ⟨vs0, hv0, _⟩, _⟩ := own_at g ho0
        refine ⟨.ref a, ha, ?_⟩
        refine ⟨.inl ⟨rfl, vs0, SqL.of hv0⟩, Z, env, r, env1, g, h1, fun y H1 p1 ro => ?_⟩
        obtain ⟨a', s', hs', hso', ha', ⟨vs, hv, rv⟩, _⟩ := own_at p1.good ho1
        rw [ha] at ha'; cases ha'
        have oa : ownA σ env1 a := ⟨i, s', hs', hso', ha⟩
        refine ⟨a, vs, y, rfl, rfl, hv, by rw [rv.len]; exact hc.1, ?_⟩
        refine q σ _ (p1.trans (p1.good.mutOwn hs' hso' ha ⟨vs ++ [y], upd_same, ?_⟩))
        exact (rv.fr (fr_own oa)).app (.cons ((ro.rep g).fr (fr_own oa)) .nil)
      · cases h
    · cases h
theorem ext_red {X : Cx} {i : Nat} {e : Ex} (hK : G.K = X.K) (Dn : Ends) (σ : L2.St) (H : Hp) (h : tS G (evExt rf C i e) Dn σ H) : tDrop (tBM X.K "list" (fun x vs H Q => rExtend x vs H Q ∨ rExtendT X.K x vs H Q) (tVar i) (tCons (tE G rf C e) tNil)) Dn σ H := by
  obtain ⟨Z, env, fl, env', g, h, q⟩ := h
  unfold evExt at h
  cases h1 : evalE rf C e env with
  | none => rw [h1] at h; cases h
  | some p =>
    obtain ⟨r, env1⟩ := p
    rw [h1] at h
    simp only at h
    split at h
    · rename_i ds ho1
      split at h
      · rename_i es hr
        split at h
        · rename_i hc
          simp only [Option.some.injEq, Prod.mk.injEq] at h
          obtain ⟨rfl, rfl⟩ := h
          obtain ⟨ds0, ho0⟩ := isLst_of hc.2
          obtain ⟨a, s, hs, hso, ha, ⟨vs0, hv0, _⟩, _⟩ := own_at g ho0
          refine ⟨.ref a, ha, ?_⟩
          refine ⟨.inl ⟨rfl, vs0, SqL.of hv0⟩, Z, env, r, env1, g, h1, fun y H1 p1 ro => ?_⟩
          obtain ⟨a', s', hs', hso', ha', ⟨vs, hv, rv⟩, _⟩ := own_at p1.good ho1
          rw [ha] at ha'; cases ha'
          have oa : ownA σ env1 a := ⟨i, s', hs', hso', ha⟩
          have ry := ro.rep g
          rw [hr] at ry
          obtain ⟨b, ws, rfl, hb, rw'⟩ := ry.lstA
          refine .inl ⟨a, b, vs, ws, rfl, rfl, hv, hb, by rw [rv.len, rw'.len]; exact hc.1, ?_⟩
          refine q σ _ (p1.trans (p1.good.mutOwn hs' hso' ha ⟨vs ++ ws, upd_same, ?_⟩))
          exact (rv.fr (fr_own oa)).app (rw'.fr (fr_own oa))
        · cases h
      · rename_i es hr
        split at h
        · rename_i hc
          simp only [Option.some.injEq, Prod.mk.injEq] at h
          obtain ⟨rfl, rfl⟩ := h
          obtain ⟨ds0, ho0⟩ := isLst_of hc.2
          obtain ⟨a, s, hs, hso, ha, ⟨vs0, hv0, _⟩, _⟩ := own_at g ho0
          refine ⟨.ref a, ha, ?_⟩
          refine ⟨.inl ⟨rfl, vs0, SqL.of hv0⟩, Z, env, r, env1, g, h1, fun y H1 p1 ro => ?_⟩
          obtain ⟨a', s', hs', hso', ha', ⟨vs, hv, rv⟩, _⟩ := own_at p1.good ho1
          rw [ha] at ha'; cases ha'
          have oa : ownA σ env1 a := ⟨i, s', hs', hso', ha⟩
          have ry := ro.rep g
          rw [hr] at ry
          obtain ⟨b, rfl⟩ : ∃ b, y = .ref b := by cases ry <;> exact ⟨_, rfl⟩
          obtain ⟨ws, hb, rw'⟩ := sqT_of ry
          refine .inr ⟨a, b, vs, ws, rfl, rfl, hv, hK ▸ hb, by rw [rv.len, rw'.len]; exact hc.1, ?_⟩
          refine q σ _ (p1.trans (p1.good.mutOwn hs' hso' ha ⟨vs ++ ws, upd_same, ?_⟩))
          exact (rv.fr (fr_own oa)).app (rw'.fr (fr_own oa))
        · cases h
      · cases h
    · cases h
theorem isDic_of {o : Option D} (h : isDic o = true) : ∃ ds, o = some (.dic ds) := by
  unfold isDic at h
  split at h
  · exact ⟨_, rfl⟩
  · cases h
theorem Rep.dicA {K : PySem.W.Frag} {H : Hp} {Y : Ys} {v : V} {kds : List (Key × D)} (h : Rep K H Y v (.dic kds)) : ∃ a kvs, v = .ref a ∧ Rd H a (.dK kvs) ∧ ¬ Y a ∧ RepK K H Y kvs kds := by
  cases h with
  | dic h n r => exact ⟨_, _, rfl, h, n, r⟩
theorem upd_red {X : Cx} {i : Nat} {e : Ex} (hK : G.K = X.K) (Dn : Ends) (σ : L2.St) (H : Hp) (h : tS G (evUpd rf C i e) Dn σ H) : tDrop (tBM X.K "dict" rUpdD (tVar i) (tCons (tE G rf C e) tNil)) Dn σ H := by
  obtain ⟨Z, env, fl, env', g, h, q⟩ := h
  unfold evUpd at h
  cases h1 : evalE rf C e env with
  | none => rw [h1] at h; cases h
  | some p =>
    obtain ⟨r, env1⟩ := p
    rw [h1] at h
    simp only at h
    split at h
    · rename_i ds ho1
      split at h
      · rename_i es hr
        split at h
        · rename_i hc
          simp only [Option.some.injEq, Prod.mk.injEq] at h
          obtain ⟨rfl, rfl⟩ := h
          obtain ⟨ds0, ho0⟩ := isDic_of hc.2
          obtain ⟨a, s, hs, hso, ha, ⟨vs0, hv0, _⟩, _⟩ := own_at g ho0
          refine ⟨.ref a, ha, ?_⟩
          refine ⟨.inr (.inr (.inl ⟨rfl, .inl ⟨vs0, hv0⟩⟩)), Z, env, r, env1, g, h1, fun y H1 p1 ro => ?_⟩
          obtain ⟨a', s', hs', hso', ha', ⟨vs, hv, rv⟩, _⟩ := own_at p1.good ho1
          rw [ha] at ha'; cases ha'
          have oa : ownA σ env1 a := ⟨i, s', hs', hso', ha⟩
          have ry := ro.rep g
          rw [hr] at ry
          obtain ⟨b, ws, rfl, hb, nb, rw'⟩ := ry.dicA
          refine ⟨a, b, vs, ws, rfl, rfl, fun z => nb (.inl (by rw [← z]; exact oa)), hv, hb, by rw [rv.len, rw'.len]; exact hc.1, ?_⟩
          refine q σ _ (p1.trans (p1.good.mutOwn hs' hso' ha ⟨mergeK vs ws, upd_same, ?_⟩))
          exact mergeK_ok (rw'.fr (fr_own oa)) (rv.fr (fr_own oa))
        · cases h
      · cases h
    · cases h
end
end Ofw
/-! Ofw K2: loops over a dict's keys -/
namespace Ofw
open PySem L2
section
variable {X : Cx} {G : Gx} {rf : Nat → List Bool} {C : CallT}
def tSX (K : PySem.W.Frag) (body : En → Option (Fl × En)) : TS := fun D σ H => ∃ G : Gx, G.K = K ∧ tS G body D σ H
theorem pssX {ss : List Stmt} {body : En → Option (Fl × En)} (h : ∀ G : Gx, G.K = X.K → PSs X ss (tS G body)) : PSs X ss (tSX X.K body) := ⟨fun pins s σ H D I ⟨G, e, q⟩ => (h G e).run pins s σ H D I q⟩
theorem RetOk.unlock {Z : Ys} {σ : L2.St} {H' : Hp} {en : En} {d : Addr} {kvs : List (Key × V)} {od : Obj} {v : V} {r : Rs} (hd : H' d = some (.frz od (.dK kvs))) (nd : ¬ ownA σ en d) (h0 : ∀ o, G.H_0 d = some o → (∀ i, G.ba i ≠ some d) → o = .dK kvs)
    (h : RetOk (G.no d) Z σ H' en v r) : RetOk G Z σ (upd H' d (.dK kvs)) en v r := by
  cases r with
  | val x => exact h.lk (lk_unlock hd)
  | fr x =>
    obtain ⟨p, rfl, hp, nz, g, b⟩ := h
    have ne : p ≠ d := fun e => by
      subst e
      cases x <;> first | exact b.elim | skip
      · obtain ⟨vs, h, _⟩ := b; rw [hd] at h; cases h
      · obtain ⟨vs, h, _⟩ := b; rw [hd] at h; cases h
    have hp : (if p = d then none else G.H_0 p) = none := hp
    rw [if_neg ne] at hp
    exact ⟨p, rfl, hp, nz, g.unlock hd nd h0, b.lk (lk_unlock hd) fun o ho => by rw [upd_ne ne]; exact ho⟩
/-- the end of a walk: unlocked -/
theorem FlOk.unlock {Z : Ys} {σ : L2.St} {H : Hp} {env env' : En} {d : Addr} {kvs : List (Key × V)} {od : Obj} {Dn : Ends} {fl : Fl} (g : Good G Z σ H env) (h : H d = some (.dK kvs)) (nd : ¬ ownA σ env d) (nf : noFz X d) (q : FlOk G Z σ H env env' Dn fl) :
    FlOk (G.no d) Z σ (upd H d (.frz od (.dK kvs))) env env' (unl X Dn) fl := by
  have h0 : ∀ o, G.H_0 d = some o → (∀ i, G.ba i ≠ some d) → o = .dK kvs := fun o ho hn => by
    have := g.frame d o ho hn
    rw [h] at this
    cases this
    rfl
  cases fl with
  | nx =>
    intro σ' H' P
    obtain ⟨hd, nd', P'⟩ := P.unlock g h nd
    exact .inr ⟨d, od, _, hd, nf, q σ' _ P'⟩
  | bk =>
    intro σ' H' P
    obtain ⟨hd, nd', P'⟩ := P.unlock g h nd
    exact .inr ⟨d, od, _, hd, nf, q σ' _ P'⟩
  | ct =>
    intro σ' H' P
    obtain ⟨hd, nd', P'⟩ := P.unlock g h nd
    exact .inr ⟨d, od, _, hd, nf, q σ' _ P'⟩
  | rt r =>
    intro v σ' H' P ro
    obtain ⟨hd, nd', P'⟩ := P.unlock g h nd
    exact .inr ⟨d, od, _, hd, nf, q v σ' _ P' (RetOk.unlock hd nd' h0 ro)⟩
theorem FlOk.weak {Z : Ys} {σ : L2.St} {H : Hp} {env env' : En} {Dn : Ends} {fl : Fl} (q : FlOk G Z σ H env env' Dn fl) : FlOk G Z σ H env env' (unl X Dn) fl := by
  cases fl with
  | nx => exact fun σ' H' P => .inl (q σ' H' P)
  | bk => exact fun σ' H' P => .inl (q σ' H' P)
  | ct => exact fun σ' H' P => .inl (q σ' H' P)
  | rt r => exact fun v σ' H' P ro => .inl (q v σ' H' P ro)
theorem for_redD {tg : Tg} {ex : Ex} {body : En → Option (Fl × En)} (hp : ∀ i, ex ≠ .peek i) (hK : G.K = X.K) (Dn : Ends) (σ : L2.St) (H : Hp) (h : tS G (evFor rf C tg .keys [ex] body) Dn σ H) :
    tFor (iKL X (tE G rf C ex)) (gBX X.K tg) (tSX X.K body) (unl X Dn) σ H := by
  obtain ⟨Z, env, fl, env', g, h, q⟩ := h
  unfold evFor at h
  cases h1 : evalAs rf C [ex] env with
  | none => rw [h1] at h; cases h
  | some p =>
    obtain ⟨xs, env1⟩ := p
    rw [h1] at h
    cases h2 : valsOf xs with
    | none => simp only [h2] at h; cases h
    | some ds =>
      simp only [h2] at h
      cases h3 : itemsD .keys ds with
      | none => simp only [h3] at h; cases h
      | some its =>
        simp only [h3] at h
        obtain ⟨r, kds, he, hr, rfl⟩ := keys_src hp h1 h2 h3
        refine ⟨Z, env, r, env1, g, he, fun v H1 p1 ro => ?_⟩
        have rp := ro.rep g
        rw [hr] at rp
        cases rp with
        | dic hd n rk =>
          rename_i d kvs
          have nd : ¬ ownA σ env1 d := fun z => n (.inl z)
          have hk : kvs.map (·.1) = kds.map (·.1) := rk.keys
          refine ⟨d, kvs, rfl, ?_⟩
          rcases hd with hd | ⟨o, hd⟩
          · refine .inl ⟨hd, fun od nf => ?_⟩
            exact for_core (G := G.no d) (p1.good.lock hd nd) ⟨upd_same, n⟩ (walk_keys hk) h ((q.after p1).unlock p1.good hd nd nf) (fun _ _ _ _ h => ⟨G.no d, hK, h⟩) fun _ _ _ h => ⟨G.no d, hK, h⟩
          · refine .inr ⟨o, hd, ?_⟩
            exact for_core (G := G) p1.good ⟨hd, n⟩ (walk_keys hk) h (q.after p1).weak (fun _ _ _ _ h => ⟨_, hK, h⟩) fun _ _ _ h => ⟨_, hK, h⟩
end
end Ofw
/-! Ofw 18: stores, further -/
namespace Ofw
open PySem L2
section
variable {G : Gx} {rf : Nat → List Bool} {C : CallT}
theorem seti_red {X : Cx} {i : Nat} {k e : Ex} (hK : G.K = X.K) (Dn : Ends) (σ : L2.St) (H : Hp) (h : tS G (evSeti rf C i k e) Dn σ H) :
    tAsg (tE G rf C e) (gSub (tVar i) (tE G rf C k) rSetL) Dn σ H ∨ sDPut (tVar i) (tE G rf C k) (tE G rf C e) Dn σ H := by
  obtain ⟨Z, env, fl, env', g, h, q⟩ := h
  unfold evSeti at h
  cases h1 : evalE rf C e env with
  | none => rw [h1] at h; cases h
  | some p =>
    obtain ⟨r, env1⟩ := p
    rw [h1] at h
    simp only at h
    cases h2 : evalE rf C k env1 with
    | none => rw [h2] at h; cases h
    | some p2 =>
      obtain ⟨rk, env2⟩ := p2
      rw [h2] at h
      simp only at h
      cases h3 : ownD env2 i with
      | none => rw [h3] at h; cases h
      | some d =>
        rw [h3] at h
        simp only at h
        cases h4 : putD d rk.d r.d with
        | none => rw [h4] at h; cases h
        | some d' =>
          rw [h4] at h
          simp only at h
          split at h
          · rename_i ho1
            simp only [Option.some.injEq, Prod.mk.injEq] at h
            obtain ⟨rfl, rfl⟩ := h
            obtain ⟨d1, hd1⟩ := Option.isSome_iff_exists.mp ho1
            unfold putD at h4
            split at h4
            · rename_i ds kk heq
              left
              cases hj : ixN ds.length kk with
              | none => rw [hj] at h4; cases h4
              | some j =>
                rw [hj] at h4
                simp only [Option.map_some, Option.some.injEq] at h4
                subst h4
                refine ⟨Z, env, r, env1, g, h1, fun v H1 p1 ro => ?_⟩
                obtain ⟨a, s, hs, hso, ha, _, _⟩ := own_at p1.good hd1
                refine ⟨.ref a, ha, Z, env1, rk, env2, p1.good, h2, fun y H2 p2 rok => ?_⟩
                obtain ⟨a', s', hs', hso', ha', ⟨vs, hv, rv⟩, _⟩ := own_at p2.good h3
                rw [ha] at ha'; cases ha'
                have ry := rok.rep p1.good
                rw [heq] at ry
                cases ry
                have oa : ownA σ env2 a := ⟨i, s', hs', hso', ha⟩
                refine ⟨a, vs, kk, j, rfl, rfl, hv, by rw [rv.len]; exact hj, ?_⟩
                refine q σ _ ((p1.trans p2).trans (p2.good.mutOwn hs' hso' ha ⟨vs.set j v, upd_same, ?_⟩))
                exact (rv.fr (fr_own oa)).set j ((p2.rep (ro.rep g)).fr (fr_own oa))
            · rename_i kds kk heq
              right
              split at h4
              · rename_i hz
                simp only [Option.some.injEq] at h4
                subst h4
                refine ⟨Z, env, r, env1, g, h1, fun v H1 p1 ro => ?_⟩
                obtain ⟨a, s, hs, hso, ha, _, _⟩ := own_at p1.good hd1
                refine ⟨.ref a, ha, Z, env1, rk, env2, p1.good, h2, fun y H2 p2 rok => ?_⟩
                obtain ⟨a', s', hs', hso', ha', ⟨kvs, hv, rv⟩, _⟩ := own_at p2.good h3
                rw [ha] at ha'; cases ha'
                have ry := rok.rep p1.good
                rw [heq] at ry
                cases ry
                have oa : ownA σ env2 a := ⟨i, s', hs', hso', ha⟩
                refine ⟨a, _, rfl, DPut.k (k := (Sum.inl kk : Key)) hv (by rw [rv.len]; exact hz), ?_⟩
                refine q σ _ ((p1.trans p2).trans (p2.good.mutOwn hs' hso' ha ⟨putK kvs (Sum.inl kk) v, upd_same, ?_⟩))
                exact putK_ok _ ((p2.rep (ro.rep g)).fr (fr_own oa)) (rv.fr (fr_own oa))
              · cases h4
            · rename_i kds kk heq
              right
              split at h4
              · rename_i hz
                simp only [Option.some.injEq] at h4
                subst h4
                refine ⟨Z, env, r, env1, g, h1, fun v H1 p1 ro => ?_⟩
                obtain ⟨a, s, hs, hso, ha, _, _⟩ := own_at p1.good hd1
                refine ⟨.ref a, ha, Z, env1, rk, env2, p1.good, h2, fun y H2 p2 rok => ?_⟩
                obtain ⟨a', s', hs', hso', ha', ⟨kvs, hv, rv⟩, _⟩ := own_at p2.good h3
                rw [ha] at ha'; cases ha'
                have ry := rok.rep p1.good
                rw [heq] at ry
                cases ry
                have oa : ownA σ env2 a := ⟨i, s', hs', hso', ha⟩
                refine ⟨a, _, rfl, DPut.k (k := (Sum.inr kk : Key)) hv (by rw [rv.len]; exact hz), ?_⟩
                refine q σ _ ((p1.trans p2).trans (p2.good.mutOwn hs' hso' ha ⟨putK kvs (Sum.inr kk) v, upd_same, ?_⟩))
                exact putK_ok _ ((p2.rep (ro.rep g)).fr (fr_own oa)) (rv.fr (fr_own oa))
              · cases h4
            · cases h4
          · cases h
def ipD (f : Int → Int → Int) : TIp := ipI f
theorem aug_red {i : Nat} {op : Operator} {e : Ex} {f : Int → Int → Int} (hop : ∀ d d' x, augD op d d' = some x → ∃ a b, d = .int a ∧ d' = .int b ∧ x = .int (f a b)) (Dn : Ends) (σ : L2.St) (H : Hp) (h : tS G (evAug rf C i op e) Dn σ H) : tAug i (tE G rf C e) (ipI f) Dn σ H := by
  obtain ⟨Z, env, fl, env', g, h, q⟩ := h
  unfold evAug at h
  split at h
  · rename_i d hs
    cases h1 : evalE rf C e env with
    | none => rw [h1] at h; cases h
    | some p =>
      obtain ⟨r, env1⟩ := p
      rw [h1] at h
      simp only at h
      cases h2 : augD op d r.d with
      | none => rw [h2] at h; cases h
      | some d' =>
        rw [h2] at h
        simp only at h
        split at h
        · rename_i hf
          simp only [Option.some.injEq, Prod.mk.injEq] at h
          obtain ⟨rfl, rfl⟩ := h
          obtain ⟨a, b, rfl, hb, rfl⟩ := hop _ _ _ h2
          obtain ⟨v, hv, rp⟩ := g.vals i _ hs
          cases rp
          refine ⟨_, hv, Z, env, r, env1, g, h1, fun y H1 p1 ro => ?_⟩
          have ry := ro.rep g
          rw [hb] at ry
          cases ry
          exact ⟨a, b, rfl, rfl, q _ H1 (p1.trans (p1.good.setVal (free_of hf) (.int _)))⟩
        · cases h
  · cases h
theorem pop_red {X : Cx} {i j : Nat} (hK : G.K = X.K) (Dn : Ends) (σ : L2.St) (H : Hp) (h : tS G (evPop j i) Dn σ H) : tAsg (tBM0 X.K "list" rPop (tVar i)) (gName j) Dn σ H := by
  obtain ⟨Z, env, fl, env', g, h, q⟩ := h
  unfold evPop at h
  split at h
  · rename_i ds ho
    cases h1 : ds[ds.length - 1]? with
    | none => rw [h1] at h; cases h
    | some d =>
      rw [h1] at h
      simp only at h
      split at h
      · rename_i hf
        simp only [Bool.and_eq_true, bne_iff_ne] at hf
        simp only [Option.some.injEq, Prod.mk.injEq] at h
        obtain ⟨rfl, rfl⟩ := h
        obtain ⟨a, s, hs, hso, ha, ⟨vs, hv, rv⟩, _⟩ := own_at g ho
        have oa : ownA σ env a := ⟨i, s, hs, hso, ha⟩
        obtain ⟨v, hgv, rpv⟩ := rv.get h1
        refine ⟨.ref a, ha, .inl ⟨rfl, vs, SqL.of hv⟩, a, vs, v, rfl, rfl, hv, by rw [rv.len]; exact hgv, ?_⟩
        have p1 := g.mutOwn (o := .lst vs.dropLast) (d := .lst ds.dropLast) hs hso ha ⟨vs.dropLast, upd_same, (rv.fr (fr_own oa)).dropLast⟩
        exact q _ _ (p1.trans (p1.good.setVal (free_of hf.1) (p1.rep rpv)))
      · cases h
  · cases h
/-! ### several names at once -/
/-- results that wait, each new place forbidden to the others -/
inductive RsW (G : Gx) (H : Hp) (Y : Ys) : List V → List Rs → List Addr → Prop where
  | nil : RsW G H Y [] [] []
  | val {v : V} {d : D} {vs : List V} {rs : List Rs} {ps : List Addr} : Rep G.K H Y v d → RsW G H Y vs rs ps → RsW G H Y (v :: vs) (.val d :: rs) ps
  | fr {p : Addr} {d : D} {vs : List V} {rs : List Rs} {ps : List Addr} : Bod G.K H Y p d → G.H_0 p = none → p ∉ ps → RsW G H Y vs rs ps → RsW G H Y (.ref p :: vs) (.fr d :: rs) (p :: ps)
def zads (Z : Ys) (ps : List Addr) : Ys := fun a => Z a ∨ a ∈ ps
theorem RsW.mono {H H' : Hp} {Y Y' : Ys} : ∀ {vs : List V} {rs : List Rs} {ps : List Addr}, RsW G H Y vs rs ps → Fr1 H H' Y Y' → (∀ p ∈ ps, ∀ o, H p = some o → H' p = some o) → RsW G H' Y' vs rs ps
  | _, _, _, .nil, _, _ => .nil
  | _, _, _, .val h r, f, k => .val (h.fr f) (r.mono f k)
  | _, _, _, .fr b h0 n r, f, k => .fr (b.fr f (k _ List.mem_cons_self)) h0 n (r.mono f fun p hp => k p (List.mem_cons_of_mem _ hp))
theorem RsW.there {H : Hp} {Y : Ys} : ∀ {vs : List V} {rs : List Rs} {ps : List Addr}, RsW G H Y vs rs ps → ∀ p ∈ ps, H p ≠ none
  | _, _, _, .nil, p, hp => by simp at hp
  | _, _, _, .val _ r, p, hp => r.there p hp
  | _, _, _, .fr b _ _ r, p, hp => by
    rcases List.mem_cons.mp hp with rfl | hp
    · obtain ⟨o, ho⟩ := b.there; rw [ho]; exact fun q => nomatch q
    · exact r.there p hp
/-- they are reckoned one by one -/
theorem rs_ok : ∀ (as : List Ex) {env env' : En} {rs : List Rs} {σ : L2.St} {H : Hp} {Z : Ys} {Q : List V → Hp → Prop}, (∀ a ∈ as, notPeek a = true) → Good G Z σ H env → evalRs rf C as env = some (rs, env') →
    (∀ vs H' ps, Post G Z σ H env σ H' env' → Good G (zads Z ps) σ H' env' → (∀ p ∈ ps, H p = none) → RsW G H' (Av σ env' (zads Z ps)) vs rs ps → Q vs H') → tArgs G rf C as σ H Q
  | [], env, env', rs, σ, H, Z, Q, hp, g, h, q => by
    simp only [evalRs, Option.some.injEq, Prod.mk.injEq] at h
    obtain ⟨rfl, rfl⟩ := h
    exact q [] H [] (Post.refl g) (g.less fun a z => z.elim id fun q => by simp at q) (fun p hp => by simp at hp) .nil
  | a :: as, env, env', rs, σ, H, Z, Q, hp, g, h, q => by
    have ha : ∀ i, a ≠ .peek i := fun i e => by have := hp a List.mem_cons_self; rw [e] at this; cases this
    simp only [evalRs] at h
    cases h1 : evalE rf C a env with
    | none => rw [h1] at h; cases h
    | some p =>
      obtain ⟨r, env1⟩ := p
      rw [h1] at h
      cases h2 : evalRs rf C as env1 with
      | none => simp only [h2] at h; cases h
      | some p2 =>
        obtain ⟨rs', env2⟩ := p2
        simp only [h2, Option.some.injEq, Prod.mk.injEq] at h
        obtain ⟨rfl, rfl⟩ := h
        show tArg G rf C a σ H fun x H1 => tArgs G rf C as σ H1 fun xs H2 => Q (x :: xs) H2
        rw [tArg_of ha]
        refine ⟨Z, env, r, env1, g, h1, fun v H1 p1 r1 => ?_⟩
        cases r with
        | val d =>
          refine rs_ok as (fun a h => hp a (List.mem_cons_of_mem _ h)) p1.good h2 fun vs H2 ps p2 g2 hps w => ?_
          refine q (v :: vs) H2 ps (p1.trans p2) g2 (fun p hp => p1.there p (hps p hp)) (.val ?_ w)
          exact (show Rep G.K H1 (Av σ env1 Z) v d from r1).fr ⟨fun a o h n => p2.step a o h fun z => n (.inl z), fun a y => by
            rcases y with y | y | y
            · exact (p2.own a y).elim (fun z => .inl (.inl z)) .inr
            · exact .inl (.inr y)
            · exact .inr (hps a y)⟩
        | fr d =>
          obtain ⟨p, rfl, hpn, gz, b⟩ := r1
          -- the new place is forbidden from here on
          refine rs_ok (Z := zad Z p) as (fun a h => hp a (List.mem_cons_of_mem _ h)) gz h2 fun vs H2 ps p2 g2 hps w => ?_
          have np : p ∉ ps := fun hm => by
            have := hps p hm
            obtain ⟨o, ho⟩ := b.there
            rw [ho] at this; cases this
          have nown : ¬ ownA σ env1 p := fun z => gz.ownZ z (.inr rfl)
          have eZ : ∀ a, zads Z (p :: ps) a ↔ zads (zad Z p) ps a := fun a => by
            unfold zads zad
            simp only [List.mem_cons]
            constructor
            · rintro (z | z | z)
              · exact .inl (.inl z)
              · exact .inl (.inr z)
              · exact .inr z
            · rintro ((z | z) | z)
              · exact .inl z
              · exact .inr (.inl z)
              · exact .inr (.inr z)
          have g2' : Good G (zads Z (p :: ps)) σ H2 env2 := g2.less fun a z => (eZ a).mp z
          have P1 : Post G Z σ H1 env1 σ H2 env2 := ⟨p2.good.less fun a z => .inl z, p2.step, p2.own, p2.there⟩
          refine q (.ref p :: vs) H2 (p :: ps) (p1.trans P1) g2' (fun a ha => ?_) (.fr ?_ (g.fresh0 hpn) np ?_)
          · rcases List.mem_cons.mp ha with rfl | ha
            · exact hpn
            · exact p1.there a (hps a ha)
          · refine b.fr ⟨fun a o h n => p2.step a o h fun z => n (.inl z), fun a y => ?_⟩ fun o h => p2.step p o h nown
            rcases y with y | y
            · exact (p2.own a y).elim (fun z => .inl (.inl z)) .inr
            · rcases (eZ a).mp y with y | y
              · exact .inl (.inr y)
              · exact .inr (hps a y)
          · exact w.mono (Fr1.less fun a y => y.elim .inl fun z => .inr ((eZ a).mp z)) fun p _ o h => h
def setσ : List Nat → List V → L2.St → L2.St
  | i :: is, v :: vs, σ => setσ is vs (σ.set i (some v))
  | _, _, σ => σ
theorem set_all : ∀ (is : List Nat) {rs : List Rs} {vs : List V} {ps : List Addr} {env env' : En} {σ : L2.St} {H H0 : Hp} {env0 : En} {σ0 : L2.St} {Z : Ys}, Good G (zads Z ps) σ H env → RsW G H (Av σ env (zads Z ps)) vs rs ps → (∀ p ∈ ps, ¬ Z p) → (∀ p ∈ ps, H0 p = none) →
    (∀ a o, H0 a = some o → ¬ ownA σ0 env0 a → H a = some o) → (∀ a, ownA σ env a → ownA σ0 env0 a ∨ H0 a = none) → (∀ a, H a = none → H0 a = none) → setAll is rs env = some env' → Post G Z σ0 H0 env0 (setσ is vs σ) H env'
  | [], rs, vs, ps, env, env', σ, H, H0, env0, σ0, Z, g, w, nz, hn, st, ow, th, h => by
    cases w with
    | nil =>
      simp only [setAll, Option.some.injEq] at h
      subst h
      exact ⟨g.less fun a z => .inl z, st, ow, th⟩
    | val _ _ => simp [setAll] at h
    | fr _ _ _ _ => simp [setAll] at h
  | i :: is, rs, vs, ps, env, env', σ, H, H0, env0, σ0, Z, g, w, nz, hn, st, ow, th, h => by
    cases w with
    | nil => simp [setAll] at h
    | val rp w =>
      simp only [setAll] at h
      split at h
      · rename_i hf
        have p := g.setVal (free_of hf) rp
        refine set_all is p.good (w.mono (p.frZ _) fun _ _ _ h => h) nz hn st (fun a z => ?_) th h
        rcases p.own a z with z | z
        · exact ow a z
        · exact .inr (th a z)
      · cases h
    | fr b h0 np w =>
      rename_i p d vs rs ps
      simp only [setAll] at h
      split at h
      · rename_i hf
        have eZ : ∀ a, zad (zads Z ps) p a ↔ zads Z (p :: ps) a := fun a => by
          unfold zads zad
          simp only [List.mem_cons]
          constructor
          · rintro ((z | z) | z)
            · exact .inl z
            · exact .inr (.inr z)
            · exact .inr (.inl z)
          · rintro (z | z | z)
            · exact .inl (.inl z)
            · exact .inr z
            · exact .inl (.inr z)
        have gz : Good G (zad (zads Z ps) p) σ H env := g.less fun a z => (eZ a).mp z
        have bz : Bod G.K H (Av σ env (zad (zads Z ps) p)) p d := b.fr (Fr1.less fun a y => y.elim .inl fun z => .inr ((eZ a).mp z)) fun o h => h
        have nzp : ¬ zads Z ps p := fun z => z.elim (nz p List.mem_cons_self) np
        obtain ⟨g2, ow2⟩ := gz.setOwn (free_of hf) bz h0 nzp
        refine set_all is g2 (w.mono ⟨fun a o h _ => h, fun a y => .inl ?_⟩ fun _ _ _ h => h) (fun q hq => nz q (List.mem_cons_of_mem _ hq)) (fun q hq => hn q (List.mem_cons_of_mem _ hq)) st (fun a z => ?_) th h
        · rcases y with y | y
          · rcases ow2 a y with y | y
            · exact .inl y
            · exact .inr ((eZ a).mp (.inr y))
          · exact .inr ((eZ a).mp (.inl y))
        · rcases ow2 a z with z | z
          · exact ow a z
          · exact .inr (by rw [z]; exact hn p List.mem_cons_self)
      · cases h
theorem par_red {is : List Nat} {es : List Ex} (hp : ∀ a ∈ es, notPeek a = true) (Dn : Ends) (σ : L2.St) (H : Hp) (h : tS G (evPar rf C is es) Dn σ H) : tArgs G rf C es σ H (fun vs H1 => vs.length = es.length ∧ Dn.nx (setσ is vs σ) H1) := by
  obtain ⟨Z, env, fl, env', g, h, q⟩ := h
  unfold evPar at h
  cases h1 : evalRs rf C es env with
  | none => rw [h1] at h; cases h
  | some p =>
    obtain ⟨rs, env1⟩ := p
    rw [h1] at h
    simp only at h
    cases h2 : setAll is rs env1 with
    | none => rw [h2] at h; cases h
    | some env2 =>
      rw [h2] at h
      simp only [Option.map_some, Option.some.injEq, Prod.mk.injEq] at h
      obtain ⟨rfl, rfl⟩ := h
      have lens : ∀ {vs : List V} {rs : List Rs} {ps : List Addr} {H : Hp} {Y : Ys}, RsW G H Y vs rs ps → vs.length = rs.length := fun {vs} => by
        induction vs with
        | nil => intro rs ps H Y w; cases w; rfl
        | cons v vs ih => intro rs ps H Y w; cases w with
          | val _ w => simp [ih w]
          | fr _ _ _ w => simp [ih w]
      have lrs : ∀ (as : List Ex) (en en' : En) (rs : List Rs), evalRs rf C as en = some (rs, en') → rs.length = as.length := fun as => by
        induction as with
        | nil => intro en en' rs h; simp only [evalRs, Option.some.injEq, Prod.mk.injEq] at h; rw [← h.1]; rfl
        | cons a as ih =>
          intro en en' rs h
          simp only [evalRs] at h
          cases e1 : evalE rf C a en with
          | none => rw [e1] at h; cases h
          | some p =>
            obtain ⟨r, en1⟩ := p
            rw [e1] at h
            cases e2 : evalRs rf C as en1 with
            | none => simp only [e2] at h; cases h
            | some p2 =>
              obtain ⟨rs', en2⟩ := p2
              simp only [e2, Option.some.injEq, Prod.mk.injEq] at h
              rw [← h.1]
              simp [ih _ _ _ e2]
      refine rs_ok es hp g h1 fun vs H1 ps p1 gz hps w => ⟨by rw [lens w, lrs _ _ _ _ h1], ?_⟩
      exact q _ H1 (set_all is gz w (fun p hp z => g.zdom p z (hps p hp)) hps p1.step p1.own p1.there h2)
end
end Ofw
/-! Ofw 19: the text against the small language: statements -/
namespace Ofw
open PySem L2
def isCompE : Expr → Bool
  | .ListComp _ _ _ _ => true
  | .SetComp _ _ _ _ => true
  | .DictComp _ _ _ _ _ => true
  | _ => false
/-- how a name's store and a comprehension go together -/
def swOk (sc : Scope) (x : Str) (px : Pos) : Expr → Bool
  | .ListComp _ _ scope p => (decide (sc.names.lookup x = some .local) && (px.line == p.line) && !(scope.names.any fun (n, k) => n == x && (k == .local || k == .cell))) || decide (sc.names.lookup x = some .cell)
  | e => !isCompE e
def namesOf2 (sc : Scope) (line : Nat) (ts : List Expr) : List Str := ts.filterMap fun
    | .Name id pos => if sc.names.lookup id == some .local && pos.line == line then some id else none
    | _ => none
def headLine (ts : List Expr) : Nat := (ts.head?.map (·.pos.line)).getD 0
def isStarE : Expr → Bool
  | .Starred .. => true
  | _ => false
/-- no stores are exchanged -/
def swNone (sc : Scope) (ts : List Expr) : Expr → Bool
  | .Tuple vs _ _ => (!(ts.length == 2 || ts.length == 3) || vs.length != ts.length) ||
      ((namesOf2 sc (headLine ts) ts).length != ts.length || (namesOf2 sc (headLine ts) ts).eraseDups.length != (namesOf2 sc (headLine ts) ts).length) || vs.all (foldedForSure 8)
  | _ => true
/-- they are -/
def swSome (sc : Scope) (ts vs : List Expr) (names : List Str) : Bool :=
  (ts.length == 2 || ts.length == 3) && vs.length == ts.length && !(vs.any isStarE) && decide (namesOf2 sc (headLine ts) ts = names) && names.length == ts.length && names.eraseDups.length == names.length && !(vs.all (foldedForSure 8)) && !(vs.all (constantsAlone 8))
section
variable (T : Tab) (N : List Str) (sc : Scope)
mutual
def chkS : Sx → Stmt → Bool
  | .asg i e, st => match st with
    | .Assign [.Name x px] ve _ => storeOk N sc (fun _ => true) i x && chkE T N e sc ve && swOk sc x px ve
    | _ => false
  | .asgT is e, st => match st with
    | .Assign [.Tuple ts _ _] ve _ => storesOk N sc (fun _ => true) is ts && chkE T N e sc ve && !isCompE ve && swNone sc ts ve
    | _ => false
  | .par is es, st => match st with
    | .Assign [.Tuple ts _ _] (.Tuple vs _ _) _ => storesOk N sc (fun _ => true) is ts && es.all notPeek && chkAs T N es sc vs && decide (is.Nodup) && (ts.all fun t => match t with | .Name x _ => decide (sc.names.lookup x = some .local) | _ => false) &&
        swSome sc ts vs (ts.filterMap fun t => match t with | .Name x _ => some x | _ => none)
    | _ => false
  | .seti i k e, st => match st with
    | .Assign [.Subscript (.Name x _) ke _] ve _ => slotOk N sc i x && chkE T N k sc ke && chkE T N e sc ve && !isSl ke
    | _ => false
  | .aug i op e, st => match st with
    | .AugAssign (.Name x _) op' ve _ => decide (op = op') && storeOk N sc (fun _ => true) i x && chkE T N e sc ve && (decide (op = .Add) || decide (op = .Sub))
    | _ => false
  | .app i e, st => match st with
    | .Expr (.Call (.Attribute (.Name x _) m apos) [ve] [] cpos) _ => decide (m = "append") && slotOk N sc i x && noStar ve && notPeek e && chkE T N e sc ve && (apos.endLine == cpos.line)
    | _ => false
  | .ext i e, st => match st with
    | .Expr (.Call (.Attribute (.Name x _) m apos) [ve] [] cpos) _ => decide (m = "extend") && slotOk N sc i x && noStar ve && notPeek e && chkE T N e sc ve && (apos.endLine == cpos.line)
    | _ => false
  | .upd i e, st => match st with
    | .Expr (.Call (.Attribute (.Name x _) m apos) [ve] [] cpos) _ => decide (m = "update") && slotOk N sc i x && noStar ve && notPeek e && chkE T N e sc ve && (apos.endLine == cpos.line)
    | _ => false
  | .popA j i, st => match st with
    | .Assign [.Name y _] (.Call (.Attribute (.Name x _) m apos) [] [] cpos) _ => decide (m = "pop") && storeOk N sc (fun _ => true) j y && slotOk N sc i x && (apos.endLine == cpos.line)
    | _ => false
  | .drop e, st => match st with
    | .Expr ve _ => chkE T N e sc ve && !isCompE ve
    | _ => false
  | .ret e, st => match st with
    | .Return (some ve) _ => chkE T N e sc ve
    | _ => false
  | .retN, st => match st with
    | .Return none _ => true
    | _ => false
  | .ife c a b, st => match st with
    | .If ec ea eb _ => chkE T N c sc ec && chkB a ea && chkB b eb
    | _ => false
  | .for_ tg k src body, st => match st with
    | .For etg eit eb [] _ => tgOk N sc (fun _ => true) tg etg && !isSetE eit && src.all notPeek &&
        (match itShape T sc etg k eit with
          | some es => chkAs T N src sc es
          | none => false) && chkB body eb
    | _ => false
  | .whl c body, st => match st with
    | .While ec eb [] _ => chkE T N c sc ec && chkB body eb
    | _ => false
  | .pass, st => match st with
    | .Pass _ => true
    | _ => false
  | .brk, st => match st with
    | .Break _ => true
    | _ => false
  | .cont, st => match st with
    | .Continue _ => true
    | _ => false
def chkB : List Sx → List Stmt → Bool
  | [], sts => sts.isEmpty
  | s :: ss, sts => match sts with
    | st :: sts => chkS s st && chkB ss sts
    | _ => false
end
end
theorem nosw_name {sc : Scope} {env : Env} (hs : env.scope = sc) {e : Expr} {x : Str} {px : Pos} {l : Nat} (hc : isCompE e = false) : swapsWith e (some (.Name x px)) l env = pure false := by
  cases e <;> first | rfl | cases hc
theorem nosw_cell {env : Env} {elt : Expr} {gs : List Comprehension} {scope : Scope} {p px : Pos} {x : Str} {l : Nat} (h : env.scope.names.lookup x = some .cell) : swapsWith (.ListComp elt gs scope p) (some (.Name x px)) l env = pure false := by
  have hk : env.kindOf x = some .cell := h
  show (pure (env.blockKind == .function && env.kindOf x == some .local && px.line == (Expr.ListComp elt gs scope p).pos.line && !(scope.names.any fun (n, k) => n == x && (k == .local || k == .cell))) : Sem Bool) = pure false
  rw [hk]
  have : (some NameKind.cell == some NameKind.local) = false := by decide
  rw [this]
  simp
theorem nosw_none {env : Env} {e : Expr} {l : Nat} (hc : isCompE e = false) : swapsWith e none l env = pure false := by
  cases e <;> first | rfl | cases hc
theorem nosw_sub (env : Env) (e o i : Expr) (p : Pos) (l : Nat) : swapsWith e (some (.Subscript o i p)) l env = pure false := by
  cases e <;> rfl
theorem nosw_tup (env : Env) (e : Expr) (ts : List Expr) (k : Nat) (p : Pos) (l : Nat) : swapsWith e (some (.Tuple ts k p)) l env = pure false := by
  cases e <;> rfl
theorem sw_none {env : Env} {ts : List Expr} {k : Nat} {p : Pos} {e : Expr} (hb : env.scope.kind = .function) (h : swNone env.scope ts e = true) : swappedStores [.Tuple ts k p] e env = pure none := by
  cases e with
  | Tuple vs k2 p2 =>
    unfold swNone at h
    unfold swappedStores
    simp only
    split
    · rfl
    · rename_i h1
      split
      · rfl
      · rename_i h2
        split
        · rfl
        · rename_i h3
          split
          · rfl
          · rename_i h4
            exfalso
            simp only [Bool.or_eq_true] at h
            rcases h with (h | h) | h
            · exact h1 (by simp only [Bool.or_eq_true]; exact .inl h)
            · exact h3 (by simp only [Bool.or_eq_true]; exact h)
            · exact h4 h
  | _ => rfl
theorem sw_some {env : Env} {ts vs : List Expr} {k k2 : Nat} {p p2 : Pos} {names : List Str} (hb : env.scope.kind = .function) (h : swSome env.scope ts vs names = true) : swappedStores [.Tuple ts k p] (.Tuple vs k2 p2) env = pure (some names) := by
  unfold swSome at h
  simp only [Bool.and_eq_true, Bool.not_eq_true', decide_eq_true_eq] at h
  obtain ⟨⟨⟨⟨⟨⟨⟨a1, a2⟩, a3⟩, a4⟩, a5⟩, a6⟩, a7⟩, a8⟩ := h
  have hbk : env.blockKind = .function := by
    unfold Env.blockKind
    rw [hb]; rfl
  unfold swappedStores
  simp only
  split
  · rename_i h1
    exfalso
    rw [a1, hbk] at h1
    have a2' : (vs.length != ts.length) = false := by rw [bne, a2]; rfl
    rw [a2'] at h1
    revert h1; decide
  · split
    · rename_i h2
      exfalso
      have : (vs.any isStarE) = true := h2
      rw [a3] at this; cases this
    · split
      · rename_i h3
        exfalso
        have h3' : ((namesOf2 env.scope (headLine ts) ts).length != ts.length || (namesOf2 env.scope (headLine ts) ts).eraseDups.length != (namesOf2 env.scope (headLine ts) ts).length) = true := h3
        rw [a4, bne, bne, a5, a6] at h3'
        cases h3'
      · split
        · rename_i h4
          rw [a7] at h4; cases h4
        · split
          · rename_i h5
            rw [a8] at h5; cases h5
          · show (pure (some (namesOf2 env.scope (headLine ts) ts)) : Sem _) = _
            rw [a4]
end Ofw
/-! Ofw 20: statements are what the evaluator reckons -/
namespace Ofw
open PySem L2
structure CtxS (G : Gx) (T : Tab) (rf : Nat → List Bool) (C : CallT) (N : List Str) (sc : Scope) (X : Cx) : Prop where
  ok : CtxOk T rf C N sc X
  hK : G.K = X.K
  fn : X.fn = fun _ => true
  xe : X.xe = fun _ _ => False
  kind : sc.kind = .function
section
variable {G : Gx} {rf : Nat → List Bool} {C : CallT} {T : Tab} {N : List Str} {sc : Scope} {X : Cx} {wf : Nat}
theorem _root_.L2.PS.or {st : Stmt} {t t' : TS} (h : PS X st t) (h' : PS X st t') : PS X st (fun D σ H => t D σ H ∨ t' D σ H) := ⟨fun pins s σ H D I q => q.elim (h.run pins s σ H D I) (h'.run pins s σ H D I)⟩
theorem CtxS.never (c : CtxS G T rf C N sc X) : PassesOwn (model X.prog X.w) X.A X.env X.xe := by rw [c.xe]; exact PassesOwn.never
theorem CtxS.swap (c : CtxS G T rf C N sc X) {G' : Gx} (e : G'.K = X.K) : CtxS G' T rf C N sc X := { c with hK := e }
theorem s_lc {elt : Ex} {tg : Tg} {k : ItK} {src ifs : List Ex} {vs : List Nat} {eelt etg eit : Expr} {eifs : List Expr} {scope : Scope} {pos py spos : Pos} {i : Nat} {y : Str} (ok : CtxOk T rf C N sc X) (hK : G.K = X.K) (h : chkE T N (.lc elt tg k src ifs vs) sc (.ListComp eelt [⟨etg, eit, eifs, 0⟩] scope pos) = true)
    (hy : X.N[i]? = some y) (hyl : X.env.scope.names.lookup y = some .local) (hsw : swapsWith (.ListComp eelt [⟨etg, eit, eifs, 0⟩] scope pos) (some (.Name y py)) spos.line X.env = pure true) :
    PS X (.Assign [.Name y py] (.ListComp eelt [⟨etg, eit, eifs, 0⟩] scope pos) spos) (tAsg (tE G rf C (.lc elt tg k src ifs vs)) (gName i)) := by
  unfold chkE at h
  simp only [Bool.and_eq_true, decide_eq_true_eq, Bool.not_eq_true'] at h
  obtain ⟨⟨⟨⟨⟨⟨⟨⟨h1, h2⟩, h3⟩, h4⟩, h5⟩, h6⟩, h7⟩, h8⟩, h9⟩ := h
  have hsrc : ∃ es, itShape T sc etg k eit = some es ∧ chkAs T N src sc es = true := by
    split at h7
    · exact ⟨_, ‹_›, h7⟩
    · cases h7
  obtain ⟨es, hsh, hca⟩ := hsrc
  have nd : X.N.Nodup := by rw [ok.names]; exact ok.nd
  have bk : BlkOk X.N X.env.scope scope (ownOf N vs) := by rw [ok.names, ok.scope]; exact blkOk_by h3
  have hv : ∀ i ∈ tgI tg, i ∈ vs := fun i hi => by
    have := List.all_eq_true.mp h2 i hi
    simpa using this
  have ownvs : (ownOf N vs).map (·.2) = vs := by unfold ownOf; rw [List.map_map]; simp [Function.comp_def]
  by_cases hk : k = .keys
  · subst hk
    obtain ⟨x, rfl, hx, pi⟩ := keys_ok hsh (sound_as src G sc es X ok hK hca) h6
    refine (ps_unl (ps_setLc (g := gBX X.K tg) (tt := tIX X.K rf C ifs) (te := tEX X.K rf C elt) (own := ownOf N vs) ok.calm nd hy hyl hsw pi bk
      (fun s H Ca cl fp => pgX fun G' e => tg_ok (ok.blk s H scope cl Ca fp) e (.inl rfl) h1)
      (fun s H Ca cl fp => ptsX fun G' e => (sound_l ifs G' _ _ _ (ok.blk s H scope cl Ca fp) e h8).2 h5)
      (fun s H Ca cl fp => peX fun G' e => (sound_e elt G' _ _ _ (ok.blk s H scope cl Ca fp) e h9).1) (setless h4 _))).imp fun D σ H q => ?_
    rw [ownvs]
    refine lc_redD hx hK hv σ H (fun x H1 => D.nx (σ.set i (some x)) H1) ?_
    obtain ⟨Z, env, r, env', g, he, q⟩ := q
    exact ⟨Z, env, r, env', g, by rw [← evalE_lc]; exact he, q⟩
  have pi := it_ok ok hK hsh (sound_as src G sc es X ok hK hca) h6 hk
  refine (ps_setLc (own := ownOf N vs) ok.calm nd hy hyl hsw pi bk
    (fun s H Ca cl fp => tg_ok (ok.blk s H scope cl Ca fp) hK (.inl rfl) h1)
    (fun s H Ca cl fp => (sound_l ifs G _ _ _ (ok.blk s H scope cl Ca fp) hK h8).2 h5)
    (fun s H Ca cl fp => (sound_e elt G _ _ _ (ok.blk s H scope cl Ca fp) hK h9).1) (setless h4 _)).imp fun D σ H q => ?_
  rw [ownvs]
  refine lc_red hv σ H _ ?_
  obtain ⟨Z, env, r, env', g, he, q⟩ := q
  exact ⟨Z, env, r, env', g, by rw [← evalE_lc]; exact he, q⟩
theorem s_asg (c : CtxS G T rf C N sc X) {i : Nat} {e : Ex} {st : Stmt} (h : chkS T N sc (.asg i e) st = true) : PS X st (tS G (evAsg rf C i e)) := by
  unfold chkS at h
  split at h
  · rename_i x px ve pos
    simp only [Bool.and_eq_true] at h
    obtain ⟨⟨h1, h2⟩, h3⟩ := h
    obtain ⟨hx, hloc, hf⟩ := store_ok1 c.ok (.inr c.fn) h1
    have nd : X.N.Nodup := by rw [c.ok.names]; exact c.ok.nd
    have pe := (sound_e e G sc ve X c.ok c.hK h2).1
    by_cases hcomp : isCompE ve = true
    · cases ve <;> first | (exact absurd (show false = true from hcomp) (by decide)) | skip
      · rename_i eelt gens scope p
        unfold swOk at h3
        simp only [Bool.or_eq_true, Bool.and_eq_true, decide_eq_true_eq, Bool.not_eq_true'] at h3
        rcases h3 with ⟨⟨h4, h5⟩, h6⟩ | h4
        · -- stored within the comprehension's frame
          have hl : X.env.scope.names.lookup x = some .local := by rw [c.ok.scope]; exact h4
          have hsw : swapsWith (.ListComp eelt gens scope p) (some (.Name x px)) pos.line X.env = pure true := sw_true (by rw [c.ok.scope]; exact c.kind) hl h5 h6
          have hgen : ∃ elt tg k src ifs vs etg eit eifs, e = .lc elt tg k src ifs vs ∧ gens = [⟨etg, eit, eifs, 0⟩] := by
            cases e <;> simp only [chkE] at h2 <;> try (exact absurd h2 (by decide))
            · rename_i t as
              exfalso
              have h2' : chkE T N (.op t as) sc (.ListComp eelt gens scope p) = true := by unfold chkE; exact h2
              by_cases hs : ∃ lo hi, t = .slc lo hi
              · obtain ⟨lo, hi, rfl⟩ := hs
                unfold chkE at h2'
                cases h2'
              · obtain ⟨es, hsh, _⟩ := chkE_op (fun lo hi e => hs ⟨lo, hi, e⟩) h2'
                unfold shape at hsh
                split at hsh <;> cases hsh
            · rename_i elt tg k src ifs vs
              split at h2
              · rename_i heq
                cases heq
                exact ⟨_, _, _, _, _, _, _, _, _, rfl, rfl⟩
              · cases h2
          obtain ⟨elt, tg, k, src, ifs, vs, etg, eit, eifs, rfl, rfl⟩ := hgen
          exact (s_lc c.ok c.hK h2 hx hl hsw).imp fun D σ H q => asg_red D σ H q
        · exact (ps_set nd hx hloc pe (nosw_cell (by rw [c.ok.scope]; exact h4)) hf).imp fun D σ H q => asg_red D σ H q
      · simp [swOk, isCompE] at h3
      · simp [swOk, isCompE] at h3
    · exact (ps_set nd hx hloc pe (nosw_name c.ok.scope (by simpa using hcomp)) hf).imp fun D σ H q => asg_red D σ H q
  · cases h
theorem s_asgT (c : CtxS G T rf C N sc X) {is : List Nat} {e : Ex} {st : Stmt} (h : chkS T N sc (.asgT is e) st = true) : PS X st (tS G (evAsgT rf C is e)) := by
  unfold chkS at h
  split at h
  · rename_i ts k p ve pos
    simp only [Bool.and_eq_true, Bool.not_eq_true'] at h
    obtain ⟨⟨⟨h1, h2⟩, h3⟩, h4⟩ := h
    have nd : X.N.Nodup := by rw [c.ok.names]; exact c.ok.nd
    have pe := (sound_e e G sc ve X c.ok c.hK h2).1
    obtain ⟨hl, hx⟩ := stores_ok c.ok (.inr c.fn) h1
    have pg := pg_tups (G := G) (k := k) (pos := p) c.hK.symm c.ok.calm nd hl hx
    have hs0 : swapsWithSole [.Tuple ts k p] ve pos.line X.env = pure false := nosw_tup X.env ve ts k p pos.line
    refine (ps_asg pe pg hs0 (sw_none (by rw [c.ok.scope]; exact c.kind) (by rw [c.ok.scope]; exact h4)) rfl).imp fun D σ H q => asgT_red D σ H q
  · cases h
theorem s_par (c : CtxS G T rf C N sc X) {is : List Nat} {es : List Ex} {st : Stmt} (h : chkS T N sc (.par is es) st = true) : PS X st (tS G (evPar rf C is es)) := by
  unfold chkS at h
  split at h
  · rename_i ts k p vs k2 p2 pos
    simp only [Bool.and_eq_true] at h
    obtain ⟨⟨⟨⟨⟨h1, h2⟩, h3⟩, h4⟩, h5⟩, h6⟩ := h
    have nd : X.N.Nodup := by rw [c.ok.names]; exact c.ok.nd
    obtain ⟨hl, hx⟩ := stores_ok c.ok (.inr c.fn) h1
    have hnp : ∀ a ∈ es, notPeek a = true := List.all_eq_true.mp h2
    have ps := sound_as es G sc vs X c.ok c.hK h3
    have hnd := of_decide_eq_true h4
    have hsw := sw_some (k := k) (k2 := k2) (p := p) (p2 := p2) (env := X.env) (by rw [c.ok.scope]; exact c.kind) (by rw [c.ok.scope]; exact h6)
    have hlen : (ts.length = 2 ∨ ts.length = 3) ∧ vs.length = ts.length := by
      unfold swSome at h6
      simp only [Bool.and_eq_true, Bool.or_eq_true, beq_iff_eq] at h6
      exact ⟨h6.1.1.1.1.1.1.1, h6.1.1.1.1.1.1.2⟩
    have loc : ∀ (j : Nat) (x : Str) (q : Pos), ts[j]? = some (.Name x q) → X.env.scope.names.lookup x = some .local := fun j x q hj => by
      have := List.all_eq_true.mp h5 _ (List.mem_of_getElem? hj)
      rw [c.ok.scope]
      simpa using this
    have vl : vs.length = es.length := by
      have : ∀ {a : List Expr} {b : List Ex}, PEs G rf C X a b → a.length = b.length := fun {a} => by
        induction a with
        | nil => intro b h; cases h; rfl
        | cons _ _ ih => intro b h; cases h with | cons _ _ r => simp [ih r]
      exact this ps
    rcases hlen.1 with h2' | h3'
    · obtain ⟨e1, e2, rfl⟩ : ∃ a b, ts = [a, b] := by
        match ts, h2' with
        | [a, b], _ => exact ⟨a, b, rfl⟩
      obtain ⟨i1, i2, rfl⟩ : ∃ a b, is = [a, b] := by
        match is, hl with
        | [a, b], _ => exact ⟨a, b, rfl⟩
      obtain ⟨v1, v2, rfl⟩ : ∃ a b, vs = [a, b] := by
        match vs, hlen.2 with
        | [a, b], _ => exact ⟨a, b, rfl⟩
      obtain ⟨x, px, rfl, nx, _, _⟩ := hx 0 i1 e1 rfl rfl
      obtain ⟨y, py, rfl, ny, _, _⟩ := hx 1 i2 e2 rfl rfl
      have ne : i1 ≠ i2 := by simpa using hnd
      have hs0 : swapsWithSole [.Tuple [.Name x px, .Name y py] k p] (.Tuple [v1, v2] k2 p2) pos.line X.env = pure false := nosw_tup X.env (.Tuple [v1, v2] k2 p2) [.Name x px, .Name y py] k p pos.line
      refine (ps_par c.ok.calm nd nx ny ne (loc 0 x px rfl) (loc 1 y py rfl) ps.pa hsw hs0).imp fun D σ H q => ?_
      refine tArgs_mono (fun ws H1 hq => ?_) (par_red hnp D σ H q)
      obtain ⟨hwl, hq⟩ := hq
      rw [← vl] at hwl
      match ws, hwl with
      | [a, b], _ => exact ⟨a, b, rfl, hq⟩
    · obtain ⟨e1, e2, e3, rfl⟩ : ∃ a b d, ts = [a, b, d] := by
        match ts, h3' with
        | [a, b, d], _ => exact ⟨a, b, d, rfl⟩
      obtain ⟨i1, i2, i3, rfl⟩ : ∃ a b d, is = [a, b, d] := by
        match is, hl with
        | [a, b, d], _ => exact ⟨a, b, d, rfl⟩
      obtain ⟨v1, v2, v3, rfl⟩ : ∃ a b d, vs = [a, b, d] := by
        match vs, hlen.2 with
        | [a, b, d], _ => exact ⟨a, b, d, rfl⟩
      obtain ⟨x, px, rfl, nx, _, _⟩ := hx 0 i1 e1 rfl rfl
      obtain ⟨y, py, rfl, ny, _, _⟩ := hx 1 i2 e2 rfl rfl
      obtain ⟨z, pz, rfl, nz, _, _⟩ := hx 2 i3 e3 rfl rfl
      have ne : i1 ≠ i2 ∧ i1 ≠ i3 ∧ i2 ≠ i3 := by
        simp only [List.nodup_cons, List.mem_cons, List.not_mem_nil, or_false, not_or] at hnd
        exact ⟨hnd.1.1, hnd.1.2, hnd.2.1⟩
      have hs0 : swapsWithSole [.Tuple [.Name x px, .Name y py, .Name z pz] k p] (.Tuple [v1, v2, v3] k2 p2) pos.line X.env = pure false := nosw_tup X.env (.Tuple [v1, v2, v3] k2 p2) [.Name x px, .Name y py, .Name z pz] k p pos.line
      refine (ps_par3 c.ok.calm nd nx ny nz ne.1 ne.2.1 ne.2.2 (loc 0 x px rfl) (loc 1 y py rfl) (loc 2 z pz rfl) ps.pa hsw hs0).imp fun D σ H q => ?_
      refine tArgs_mono (fun ws H1 hq => ?_) (par_red hnp D σ H q)
      obtain ⟨hwl, hq⟩ := hq
      rw [← vl] at hwl
      match ws, hwl with
      | [a, b, d], _ => exact ⟨a, b, d, rfl, hq⟩
  · cases h
theorem s_seti (c : CtxS G T rf C N sc X) {i : Nat} {k e : Ex} {st : Stmt} (h : chkS T N sc (.seti i k e) st = true) : PS X st (tS G (evSeti rf C i k e)) := by
  unfold chkS at h
  split at h
  · rename_i x px ke p ve pos
    simp only [Bool.and_eq_true, Bool.not_eq_true'] at h
    obtain ⟨⟨⟨h1, h2⟩, h3⟩, h4⟩ := h
    obtain ⟨v1, v2, v3, v4⟩ := slot_vis c.ok h1
    have pk := (sound_e k G sc ke X c.ok c.hK h2).1
    have pe := (sound_e e G sc ve X c.ok c.hK h3).1
    have pv : PE X (.Name x px) (tVar i) := pe_var v1 v2 v3 v4
    have hu1 : X.A.units + 1 < cLine := by have := c.ok.units; omega
    have sw : swappedStores [.Subscript (.Name x px) ke p] ve X.env = pure none := by cases ve <;> rfl
    have hs0 : swapsWithSole [.Subscript (.Name x px) ke p] ve pos.line X.env = pure false := nosw_sub X.env ve (.Name x px) ke p pos.line
    exact ((ps_asg pe (pg_sub pv pk set_list (by intro _; cases ke <;> first | rfl | cases h4)) hs0 sw rfl).or (ps_dput hu1 pv pk pe (nosw_sub X.env ve (.Name x px) ke p pos.line))).imp fun D σ H q => seti_red (X := X) c.hK D σ H q
  · cases h
theorem s_aug (c : CtxS G T rf C N sc X) {i : Nat} {op : Operator} {e : Ex} {st : Stmt} (h : chkS T N sc (.aug i op e) st = true) : PS X st (tS G (evAug rf C i op e)) := by
  unfold chkS at h
  split at h
  · simp only [Bool.and_eq_true, decide_eq_true_eq, Bool.or_eq_true] at h
    obtain ⟨⟨⟨rfl, h1⟩, h2⟩, h3⟩ := h
    obtain ⟨hx, hloc, hf⟩ := store_ok1 c.ok (.inr c.fn) h1
    have nd : X.N.Nodup := by rw [c.ok.names]; exact c.ok.nd
    have pe := (sound_e e G sc _ X c.ok c.hK h2).1
    rcases h3 with rfl | rfl
    · refine (ps_aug nd hx hloc pe ip_add hf).imp fun D σ H q => aug_red (fun d d' x h => ?_) D σ H q
      cases d <;> cases d' <;> simp only [augD, Option.some.injEq, reduceCtorEq] at h
      exact ⟨_, _, rfl, rfl, h.symm⟩
    · refine (ps_aug nd hx hloc pe ip_sub hf).imp fun D σ H q => aug_red (fun d d' x h => ?_) D σ H q
      cases d <;> cases d' <;> simp only [augD, Option.some.injEq, reduceCtorEq] at h
      exact ⟨_, _, rfl, rfl, h.symm⟩
  · cases h
theorem bm_few {e : Expr} (h : noStar e = true) (cpos : Pos) : ((backTo cpos (starEach [e] X.env)).all (fun x => !x.1) && (backToKw cpos (keywordEach [] X.env)).all (fun x => x.1.isSome) && decide ([e].length + ([] : List Keyword).length + (if ([] : List Keyword).isEmpty then 0 else 1) < 30)) = true := by
  rw [star_one h]; rfl
theorem s_app (c : CtxS G T rf C N sc X) {i : Nat} {e : Ex} {st : Stmt} (h : chkS T N sc (.app i e) st = true) : PS X st (tS G (evApp rf C i e)) := by
  unfold chkS at h
  split at h
  · rename_i x px m apos ve cpos pos
    simp only [Bool.and_eq_true, decide_eq_true_eq] at h
    obtain ⟨⟨⟨⟨⟨rfl, h1⟩, h2⟩, h3⟩, h4⟩, h5⟩ := h
    obtain ⟨v1, v2, v3, v4⟩ := slot_vis c.ok h1
    have pe := (sound_e e G sc ve X c.ok c.hK h4).1
    have pv : PE X (.Name x px) (tVar i) := pe_var v1 v2 v3 v4
    exact (ps_expr (pe_bm PySem.F.plainAttrs_list PySem.F.slot_list_append PySem.F.type_list_append mt_append pv (pa_cons pe pa_nil (star_one h2 _ _)) rfl (bm_few h2 _) h5 (star_one h2 _ _) rfl) rfl).imp fun D σ H q => app_red (X := X) c.hK D σ H q
  · cases h
theorem s_ext (c : CtxS G T rf C N sc X) {i : Nat} {e : Ex} {st : Stmt} (h : chkS T N sc (.ext i e) st = true) : PS X st (tS G (evExt rf C i e)) := by
  unfold chkS at h
  split at h
  · rename_i x px m apos ve cpos pos
    simp only [Bool.and_eq_true, decide_eq_true_eq] at h
    obtain ⟨⟨⟨⟨⟨rfl, h1⟩, h2⟩, h3⟩, h4⟩, h5⟩ := h
    obtain ⟨v1, v2, v3, v4⟩ := slot_vis c.ok h1
    have pe := (sound_e e G sc ve X c.ok c.hK h4).1
    have pv : PE X (.Name x px) (tVar i) := pe_var v1 v2 v3 v4
    exact (ps_expr (pe_bm PySem.F.plainAttrs_list PySem.F.slot_list_extend PySem.F.type_list_extend mt_extend2 pv (pa_cons pe pa_nil (star_one h2 _ _)) rfl (bm_few h2 _) h5 (star_one h2 _ _) rfl) rfl).imp fun D σ H q => ext_red (X := X) c.hK D σ H q
  · cases h
theorem s_upd (c : CtxS G T rf C N sc X) {i : Nat} {e : Ex} {st : Stmt} (h : chkS T N sc (.upd i e) st = true) : PS X st (tS G (evUpd rf C i e)) := by
  unfold chkS at h
  split at h
  · rename_i x px m apos ve cpos pos
    simp only [Bool.and_eq_true, decide_eq_true_eq] at h
    obtain ⟨⟨⟨⟨⟨rfl, h1⟩, h2⟩, h3⟩, h4⟩, h5⟩ := h
    obtain ⟨v1, v2, v3, v4⟩ := slot_vis c.ok h1
    have pe := (sound_e e G sc ve X c.ok c.hK h4).1
    have pv : PE X (.Name x px) (tVar i) := pe_var v1 v2 v3 v4
    exact (ps_expr (pe_bm PySem.F.plainAttrs_dict PySem.F.slot_dict_update PySem.F.type_dict_update mt_updD pv (pa_cons pe pa_nil (star_one h2 _ _)) rfl (bm_few h2 _) h5 (star_one h2 _ _) rfl) rfl).imp fun D σ H q => upd_red (X := X) c.hK D σ H q
  · cases h
theorem s_pop (c : CtxS G T rf C N sc X) {i j : Nat} {st : Stmt} (h : chkS T N sc (.popA j i) st = true) : PS X st (tS G (evPop j i)) := by
  unfold chkS at h
  split at h
  · rename_i y py x px m apos cpos pos
    simp only [Bool.and_eq_true, decide_eq_true_eq] at h
    obtain ⟨⟨⟨rfl, h1⟩, h2⟩, h5⟩ := h
    obtain ⟨v1, v2, v3, v4⟩ := slot_vis c.ok h2
    obtain ⟨hx, hloc, hf⟩ := store_ok1 c.ok (.inr c.fn) h1
    have nd : X.N.Nodup := by rw [c.ok.names]; exact c.ok.nd
    have pv : PE X (.Name x px) (tVar i) := pe_var v1 v2 v3 v4
    exact (ps_set nd hx hloc (pe_bm0 PySem.F.plainAttrs_list PySem.F.slot_list_pop PySem.F.type_list_pop mt_pop pv rfl h5) rfl hf).imp fun D σ H q => pop_red (X := X) c.hK D σ H q
  · cases h
mutual
theorem sound_s {G : Gx} (c : CtxS G T rf C N sc X) : ∀ (s : Sx) (st : Stmt), chkS T N sc s st = true → PS X st (tS G (execS rf C wf s))
  | .asg i e, st, h => by simp only [execS]; exact s_asg c h
  | .asgT is e, st, h => by simp only [execS]; exact s_asgT c h
  | .par is es, st, h => by simp only [execS]; exact s_par c h
  | .seti i k e, st, h => by simp only [execS]; exact s_seti c h
  | .aug i op e, st, h => by simp only [execS]; exact s_aug c h
  | .app i e, st, h => by simp only [execS]; exact s_app c h
  | .ext i e, st, h => by simp only [execS]; exact s_ext c h
  | .upd i e, st, h => by simp only [execS]; exact s_upd c h
  | .popA j i, st, h => by simp only [execS]; exact s_pop c h
  | .drop e, st, h => by
    simp only [execS]
    unfold chkS at h
    split at h
    · simp only [Bool.and_eq_true, Bool.not_eq_true'] at h
      exact (ps_expr (sound_e e G sc _ X c.ok c.hK h.1).1 (nosw_none h.2)).imp fun D σ H q => drop_red D σ H q
    · cases h
  | .ret e, st, h => by
    simp only [execS]
    unfold chkS at h
    split at h
    · refine ret_red (fun i hi => ?_) (sound_e e G sc _ X c.ok c.hK h).1
      subst hi
      unfold chkE at h
      split at h
      · obtain ⟨v1, v2, v3, v4⟩ := slot_vis c.ok h
        exact pe_var v1 v2 v3 v4
      · cases h
    · cases h
  | .retN, st, h => by
    simp only [execS]
    unfold chkS at h
    split at h
    · refine ps_retN.imp fun D σ H ⟨Z, env, fl, env', g, he, q⟩ => ?_
      simp only [Option.some.injEq, Prod.mk.injEq] at he
      obtain ⟨rfl, rfl⟩ := he
      exact q .non σ H (Post.refl g) .non
    · cases h
  | .ife cc a b, st, h => by
    simp only [execS]
    unfold chkS at h
    split at h
    · simp only [Bool.and_eq_true] at h
      exact (ps_if (sound_e cc G sc _ X c.ok c.hK h.1.1).2 (sound_b c a _ h.1.2) (sound_b c b _ h.2)).imp fun D σ H q => if_red D σ H q
    · cases h
  | .for_ tg k src body, st, h => by
    simp only [execS]
    unfold chkS at h
    split at h
    · rename_i etg eit eb pos
      simp only [Bool.and_eq_true, Bool.not_eq_true'] at h
      obtain ⟨⟨⟨⟨h1, h2⟩, h3⟩, h4⟩, h5⟩ := h
      have hsrc : ∃ es, itShape T sc etg k eit = some es ∧ chkAs T N src sc es = true := by
        split at h4
        · exact ⟨_, ‹_›, h4⟩
        · cases h4
      obtain ⟨es, hsh, hca⟩ := hsrc
      by_cases hk : k = .keys
      · subst hk
        obtain ⟨x, rfl, hx, pi⟩ := keys_ok (G := G) hsh (sound_as src G sc es X c.ok c.hK hca) h3
        exact (ps_unl (ps_for c.never c.ok.calm pi (pgX fun G' e => tg_ok c.ok e (.inr c.fn) h1) (pssX fun G' e => sound_b (c.swap e) body _ h5) (setless h2 _))).imp fun D σ H q => for_redD hx c.hK D σ H q
      have pi := it_ok (G := G) c.ok c.hK hsh (sound_as src G sc es X c.ok c.hK hca) h3 hk
      exact (ps_for c.never c.ok.calm pi (tg_ok c.ok c.hK (.inr c.fn) h1) (sound_b c body _ h5) (setless h2 _)).imp fun D σ H q => for_red D σ H q
    · cases h
  | .whl cc body, st, h => by
    simp only [execS]
    unfold chkS at h
    split at h
    · simp only [Bool.and_eq_true] at h
      exact (ps_while c.never (sound_e cc G sc _ X c.ok c.hK h.1).2 (sound_b c body _ h.2)).imp fun D σ H q => while_red D σ H q
    · cases h
  | .pass, st, h => by
    simp only [execS]
    unfold chkS at h
    split at h
    · refine ps_pass.imp fun D σ H ⟨Z, env, fl, env', g, he, q⟩ => ?_
      simp only [Option.some.injEq, Prod.mk.injEq] at he
      obtain ⟨rfl, rfl⟩ := he
      exact q σ H (Post.refl g)
    · cases h
  | .brk, st, h => by
    simp only [execS]
    unfold chkS at h
    split at h
    · refine ps_break.imp fun D σ H ⟨Z, env, fl, env', g, he, q⟩ => ?_
      simp only [Option.some.injEq, Prod.mk.injEq] at he
      obtain ⟨rfl, rfl⟩ := he
      exact q σ H (Post.refl g)
    · cases h
  | .cont, st, h => by
    simp only [execS]
    unfold chkS at h
    split at h
    · refine ps_continue.imp fun D σ H ⟨Z, env, fl, env', g, he, q⟩ => ?_
      simp only [Option.some.injEq, Prod.mk.injEq] at he
      obtain ⟨rfl, rfl⟩ := he
      exact q σ H (Post.refl g)
    · cases h
theorem sound_b {G : Gx} (c : CtxS G T rf C N sc X) : ∀ (ss : List Sx) (sts : List Stmt), chkB T N sc ss sts = true → PSs X sts (tS G (execB rf C wf ss))
  | [], sts, h => by
    unfold chkB at h
    have : sts = [] := by simpa using h
    subst this
    simp only [execB]
    refine pss_nil.imp fun D σ H ⟨Z, env, fl, env', g, he, q⟩ => ?_
    simp only [Option.some.injEq, Prod.mk.injEq] at he
    obtain ⟨rfl, rfl⟩ := he
    exact q σ H (Post.refl g)
  | s :: ss, sts, h => by
    unfold chkB at h
    split at h
    · simp only [Bool.and_eq_true] at h
      simp only [execB]
      exact (pss_cons (sound_s c s _ h.1) (sound_b c ss _ h.2)).imp fun D σ H q => seq_red q
    · cases h
end
end
end Ofw
/-! Ofw 21: defs -/
namespace Ofw
open PySem L2
/-- a def: which parameters it borrows, how many slots, its body -/
structure FnD where
  rf : List Bool
  ns : Nat
  body : List Sx
def rfOf (ps : List FnD) (f : Nat) : List Bool := match ps[f]? with
  | some fd => fd.rf
  | none => []
def startE (rf : List Bool) (ds : List D) (ns : Nat) : En := List.zipWith (fun b d => if b then Sl.bor d else Sl.val d) rf ds ++ List.replicate (ns - rf.length) .emp
def outsOf (rf : List Bool) (env : En) : List (Option D) := (List.range rf.length).map fun (j : Nat) => if rf[j]? = some true then (match env[j]? with | some (Sl.bor d) => some d | _ => none) else none
def runF (ps : List FnD) (wf : Nat) : Nat → CallT
  | 0 => fun _ _ => none
  | n + 1 => fun f ds => match ps[f]? with
    | some fd => if ds.length = fd.rf.length then match execB (rfOf ps) (runF ps wf n) wf fd.body (startE fd.rf ds fd.ns) with
        | some (.rt r, env) => some (r, outsOf fd.rf env)
        | some (.nx, env) => some (.val .non, outsOf fd.rf env)
        | _ => none
      else none
    | none => none
/-- a def of the text as it stands behind the top -/
structure FnAt (K : PySem.W.Frag) (mg : Str → Option Value) (T : Tab) (ps : List FnD) (f : Nat) (x : Str) (a : Addr) (fd : FuncData) (prs : List Str) : Prop where
  ex : ∃ (st : Stmt) (N : List Str) (qual x' : Str) (fn : FnD), ps[f]? = some fn ∧ Fun K x' qual st a fd ∧ FnScope N prs (defScope st) ∧ prs.length = fn.rf.length ∧ N.length = fn.ns ∧ chkB T N (defScope st) fn.body (defBody st) = true
  binds : Binds K fd prs []
  mg : mg x = some (.ref a)
  kws : ∀ p ∈ T.kw f, KB K fd prs p.1 p.2.1 p.2.2
theorem startE_len {rf : List Bool} {ds : List D} {ns : Nat} (h : ds.length = rf.length) (hn : rf.length ≤ ns) : (startE rf ds ns).length = ns := by
  unfold startE
  simp [h]; omega
theorem startE_get {rf : List Bool} {ds : List D} {ns : Nat} (h : ds.length = rf.length) (j : Nat) :
    (∀ b d, rf[j]? = some b → ds[j]? = some d → (startE rf ds ns)[j]? = some (if b then Sl.bor d else Sl.val d)) ∧ (rf.length ≤ j → ∀ s, (startE rf ds ns)[j]? = some s → s = .emp) := by
  unfold startE
  refine ⟨fun b d h1 h2 => ?_, fun hj s hs => ?_⟩
  · have hl : j < rf.length := (List.getElem?_eq_some_iff.mp h1).1
    rw [List.getElem?_append_left (by simp [h]; exact hl), List.getElem?_zipWith, h1, h2]
  · rw [List.getElem?_append_right (by simp [h]; exact hj)] at hs
    rw [List.getElem?_replicate] at hs
    split at hs
    · cases hs; rfl
    · cases hs
theorem outs_get {rf : List Bool} {env : En} {j : Nat} (hj : j < rf.length) : (outsOf rf env)[j]? = some (if rf[j]? = some true then (match env[j]? with | some (Sl.bor d) => some d | _ => none) else none) := by
  unfold outsOf
  rw [List.getElem?_map, List.getElem?_range hj]
  rfl
section
variable {P : Program} {w : World} {K : PySem.W.Frag} {mg : Str → Option Value} {base : Heap}
/-- the slots at a def's entry -/
theorem start_good {fl : List Bool} {Z : Ys} {H : Hp} {vs : List V} {ds : List D} {N : List Str} (ca : CArgs K fl Z H vs ds) (hN : fl.length ≤ N.length) :
    Good ⟨K, H, fun j => if fl[j]? = some true then (match vs[j]? with | some (.ref a) => some a | _ => none) else none⟩ Z (L2.start N vs) H (startE fl ds N.length) ∧ ∀ a, ownA (L2.start N vs) (startE fl ds N.length) a ↔ isB fl vs a := by
  have sg := fun j => startE_get (ns := N.length) ca.ld j
  have σg : ∀ (j : Nat) (v : V), vs[j]? = some v → (L2.start N vs)[j]? = some (some v) := fun j v h => by
    unfold L2.start
    rw [List.getElem?_append_left (by simp; exact (List.getElem?_eq_some_iff.mp h).1), List.getElem?_map, h]; rfl
  -- a slot with something in it is a parameter's
  have par : ∀ (j : Nat) (s : Sl), s ≠ .emp → (startE fl ds N.length)[j]? = some s → ∃ b d v, fl[j]? = some b ∧ ds[j]? = some d ∧ vs[j]? = some v ∧ s = (if b then Sl.bor d else Sl.val d) := fun j s ne h => by
    rcases Nat.lt_or_ge j fl.length with hj | hj
    · have hd : j < ds.length := by rw [ca.ld]; exact hj
      have hv : j < vs.length := by rw [ca.lv]; exact hj
      have := (sg j).1 _ _ (List.getElem?_eq_getElem hj) (List.getElem?_eq_getElem hd)
      rw [this] at h
      cases h
      exact ⟨_, _, _, List.getElem?_eq_getElem hj, List.getElem?_eq_getElem hd, List.getElem?_eq_getElem hv, rfl⟩
    · exact absurd ((sg j).2 hj s h) ne
  have own : ∀ a, ownA (L2.start N vs) (startE fl ds N.length) a ↔ isB fl vs a := fun a => by
    constructor
    · rintro ⟨j, s, h1, h2, h3⟩
      obtain ⟨b, d, v, e1, e2, e3, rfl⟩ := par j s (fun e => by rw [e] at h2; cases h2) h1
      rw [σg j v e3] at h3
      cases h3
      cases b with
      | true => exact ⟨j, e1, e3⟩
      | false => cases h2
    · rintro ⟨j, h1, h2⟩
      have hj : j < fl.length := (List.getElem?_eq_some_iff.mp h1).1
      have hd : j < ds.length := by rw [ca.ld]; exact hj
      exact ⟨j, _, (sg j).1 true _ h1 (List.getElem?_eq_getElem hd), rfl, σg j _ h2⟩
  have less : ∀ a, Av (L2.start N vs) (startE fl ds N.length) Z a → Z a ∨ isB fl vs a := fun a y => y.elim (fun z => .inr ((own a).mp z)) .inl
  refine ⟨⟨?_, ca.zdom, fun j d h => ?_, fun j d h => ?_, fun j d h => ?_, fun i j s t a h1 h2 h3 h4 h5 h6 => ?_, fun j a h => ?_, fun a o h n => h⟩, own⟩
  · rw [startE_len ca.ld hN]
    unfold L2.start
    have := ca.lv
    simp; omega
  · obtain ⟨b, d', v, e1, e2, e3, e4⟩ := par j (.val d) (fun e => nomatch e) h
    cases b with
    | true => cases e4
    | false =>
      cases e4
      exact ⟨v, σg j v e3, (ca.val j v d e1 e3 e2).fr (Fr1.less less)⟩
  · obtain ⟨b, d', v, e1, e2, e3, e4⟩ := par j (.own d) (fun e => nomatch e) h
    cases b <;> cases e4
  · obtain ⟨b, d', v, e1, e2, e3, e4⟩ := par j (.bor d) (fun e => nomatch e) h
    cases b with
    | false => cases e4
    | true =>
      cases e4
      obtain ⟨a, rfl, nz, bd⟩ := ca.bor j v d e1 e3 e2
      exact ⟨a, σg j _ e3, bd.fr (Fr1.less less) fun o h => h, by simp only [e1, if_true, e3], nz⟩
  · obtain ⟨b, d, v, e1, e2, e3, rfl⟩ := par i s (fun e => by rw [e] at h3; cases h3) h1
    obtain ⟨b', d', v', e1', e2', e3', rfl⟩ := par j t (fun e => by rw [e] at h4; cases h4) h2
    rw [σg i v e3] at h5
    rw [σg j v' e3'] at h6
    cases h5; cases h6
    cases b with
    | false => cases h3
    | true => cases b' with
      | false => cases h4
      | true => exact ca.inj i j a e1 e1' e3 e3'
  · simp only at h
    split at h
    · rename_i e1
      have hj : j < fl.length := (List.getElem?_eq_some_iff.mp e1).1
      have hd : j < ds.length := by rw [ca.ld]; exact hj
      exact ⟨_, (sg j).1 true _ e1 (List.getElem?_eq_getElem hd)⟩
    · cases h
theorem isB_dec (fl : List Bool) (vs : List V) (a : Addr) : isB fl vs a ↔ ∃ j : Nat, (if fl[j]? = some true then (match vs[j]? with | some (V.ref a) => some a | _ => none) else none) = some a := by
  constructor
  · rintro ⟨j, h1, h2⟩
    exact ⟨j, by simp only [h1, if_true, h2]⟩
  · rintro ⟨j, h⟩
    split at h
    · rename_i h1
      split at h
      · cases h
        exact ⟨j, h1, ‹_›⟩
      · cases h
    · cases h
/-- what the caller is told -/
theorem end_post {fl : List Bool} {Z : Ys} {H H' : Hp} {vs : List V} {ds : List D} {N : List Str} {σ' : L2.St} {env' : En} {v : V} {r : Rs} (ca : CArgs K fl Z H vs ds) (hN : fl.length ≤ N.length)
    (p : Post ⟨K, H, fun j => if fl[j]? = some true then (match vs[j]? with | some (.ref a) => some a | _ => none) else none⟩ Z (L2.start N vs) H (startE fl ds N.length) σ' H' env')
    (ro : RetOk ⟨K, H, fun j => if fl[j]? = some true then (match vs[j]? with | some (.ref a) => some a | _ => none) else none⟩ Z σ' H' env' v r) : CPost K fl Z H vs H' v r (outsOf fl env') := by
  obtain ⟨g0, own0⟩ := start_good (N := N) ca hN
  have g := p.good
  -- the borrowed slots at the end
  have bor : ∀ (j : Nat) (a : Addr), fl[j]? = some true → vs[j]? = some (V.ref a) → ∃ d, env'[j]? = some (Sl.bor d) ∧ σ'[j]? = some (some (.ref a)) := fun j a h1 h2 => by
    have hb : (⟨K, H, fun j => if fl[j]? = some true then (match vs[j]? with | some (.ref a) => some a | _ => none) else none⟩ : Gx).ba j = some a := by simp only [h1, if_true, h2]
    obtain ⟨d, hd⟩ := g.held j a hb
    obtain ⟨a', ha', _, hb', _⟩ := g.bors j d hd
    rw [hb] at hb'; cases hb'
    exact ⟨d, hd, ha'⟩
  have b2o : ∀ a, isB fl vs a → ownA σ' env' a := fun a ⟨j, h1, h2⟩ => by
    obtain ⟨d, hd, hσ⟩ := bor j a h1 h2
    exact ⟨j, _, hd, rfl, hσ⟩
  have less : ∀ (Z' : Ys) a, Z' a ∨ isB fl vs a → Av σ' env' Z' a := fun Z' a y => y.elim .inr fun z => .inl (b2o a z)
  refine ⟨fun a o h n => p.step a o h fun z => n ((own0 a).mp z), p.there, fun j h => ?_, by simp [outsOf], ?_⟩
  · rw [outs_get (List.getElem?_eq_some_iff.mp h).1, h]
    rfl
  · have bo : ∀ (Z' : Ys), Good ⟨K, H, fun j => if fl[j]? = some true then (match vs[j]? with | some (.ref a) => some a | _ => none) else none⟩ Z' σ' H' env' → BorOut K fl H' vs (outsOf fl env') (fun a => Z' a ∨ isB fl vs a) := fun Z' g' j a h1 h2 => by
      obtain ⟨d, hd, hσ⟩ := bor j a h1 h2
      obtain ⟨a', ha', b, _, _⟩ := g'.bors j d hd
      rw [hσ] at ha'; cases ha'
      refine ⟨d, by rw [outs_get (List.getElem?_eq_some_iff.mp h1).1, h1, hd]; rfl, b.fr (Fr1.less (less Z')) fun o h => h⟩
    cases r with
    | val d => exact ⟨(show Rep K H' (Av σ' env' Z) v d from ro).fr (Fr1.less (less Z)), bo Z g⟩
    | fr d =>
      obtain ⟨q, rfl, h0, nz, gz, b⟩ := ro
      have re : ∀ a, (Z a ∨ isB fl vs a) ∨ a = q → zad Z q a ∨ isB fl vs a := fun a y => by
        rcases y with (y | y) | y
        · exact .inl (.inl y)
        · exact .inr y
        · exact .inl (.inr y)
      refine ⟨q, rfl, h0, b.fr (Fr1.less fun a y => less (zad Z q) a (re a y)) fun o h => h, fun j a h1 h2 => ?_⟩
      obtain ⟨d2, hd2, b2⟩ := bo (zad Z q) gz j a h1 h2
      exact ⟨d2, hd2, b2.fr (Fr1.less re) fun o h => h⟩
/-- every def keeps its promise, by the evaluator, at every depth -/
theorem all_fns {T : Tab} {ps : List FnD} {wf : Nat} (hf : ∀ x f, T.fn x = some f → ∃ a fd prs, FnAt K mg T ps f x a fd prs) (hb : ∀ x, T.blt.contains x = true → mg x = none)
    (hc : ∀ x c, T.cst x = some c → ∃ u, mg x = some u ∧ match c with
      | .int i => ∃ t, u = .int i t
      | .str s => ∃ t, u = .str s t
      | .bool b => u = .bool b
      | _ => False) :
    ∀ (n : Nat) (x : Str) (f : Nat) (a : Addr) (fd : FuncData) (prs : List Str), FnAt K mg T ps f x a fd prs → FnG P w K mg base n a fd prs (spF K (rfOf ps f) (runF ps wf n) f) := by
  intro n
  induction n with
  | zero =>
    intro x f a fd prs F
    obtain ⟨st, N, qual, x', fn, e1, e2, e3, e4, e5, e6⟩ := F.ex
    have erf : rfOf ps f = fn.rf := by unfold rfOf; rw [e1]
    refine ⟨fun vs H Q E ⟨Z, ds, r, outs, ca, h, q⟩ => ?_, fun A outer s H args us vs Q E _ _ _ _ _ ⟨Z, ds, r, outs, ca, h, q⟩ => ?_⟩
    · simp only [runF] at h; cases h
    · simp only [runF] at h; cases h
  | succ n ih =>
    intro x f a fd prs F
    obtain ⟨st, N, qual, x', fn, e1, e2, e3, e4, e5, e6⟩ := F.ex
    have erf : rfOf ps f = fn.rf := by unfold rfOf; rw [e1]
    have hNl : fn.rf.length ≤ N.length := by
      have h1 := e3.pre
      have h2 := congrArg List.length h1
      rw [List.length_take] at h2
      omega
    refine fnG_of e2 e3 (fun vs H Q E ⟨Z, ds, r, outs, ca, h, q⟩ => ?_) (fun cdv A outer s H vs Q E gu hr ⟨Z, ds, r, outs, ca, h, q⟩ => ?_)
    · rw [ca.lv, erf, e4]
    · rw [erf] at ca q
      simp only [runF, e1] at h
      split at h
      · rename_i hl
        let G : Gx := ⟨K, H, fun j => if fn.rf[j]? = some true then (match vs[j]? with | some (.ref a) => some a | _ => none) else none⟩
        have c : CtxS G T (rfOf ps) (runF ps wf n) N (defScope st) (cxOf CX0 P w K mg base N qual (defScope st) a cdv A outer s H E).nox :=
          ⟨⟨rfl, e3.nd, rfl, rfl, hr.units, deeper_guards _ gu, fun y g hy => by
            obtain ⟨b, fd', prs', FA⟩ := hf y g hy
            have k0 := FA.ex
            obtain ⟨_, _, _, _, _, _, fu, _⟩ := k0
            exact ⟨n, b, fd', prs', hr, FA.mg, fu.kp, FA.binds, ih y g b fd' prs' FA, FA.kws⟩, hb, hc⟩, rfl, rfl, rfl, e3.kind⟩
        refine ⟨_, sound_b (wf := wf) c fn.body _ e6, ?_⟩
        obtain ⟨g0, own0⟩ := start_good (N := N) ca hNl
        rw [← e5] at h
        cases hx : execB (rfOf ps) (runF ps wf n) wf fn.body (startE fn.rf ds N.length) with
        | none => rw [hx] at h; cases h
        | some p =>
          obtain ⟨fl, env'⟩ := p
          rw [hx] at h
          refine ⟨Z, startE fn.rf ds N.length, fl, env', g0, hx, ?_⟩
          cases fl with
          | nx =>
            simp only [Option.some.injEq, Prod.mk.injEq] at h
            obtain ⟨rfl, rfl⟩ := h
            exact fun σ' H' p => q .non H' (end_post ca hNl p .non)
          | rt r' =>
            simp only [Option.some.injEq, Prod.mk.injEq] at h
            obtain ⟨rfl, rfl⟩ := h
            exact fun v σ' H' p ro => q v H' (end_post ca hNl p ro)
          | bk => cases h
          | ct => cases h
      · cases h
end
end Ofw
/-! Ofw 22: the law's row from the evaluator -/
namespace Ofw
open PySem L2
open PySem.Spec PyProof.Rows
section
variable {P : Program} {w : World} {K : PySem.W.Frag} {mg mb : Str → Option Value} {kk : Nat} {fa pl : Addr} {fd : FuncData} {px : Str} {prom : Sp} {st : Shared} {us : List Value} {zs : List Int}
/-- what the row wants of the call -/
def Wants (P : Program) (w : World) (fa pl : Addr) (st : Shared) : Prop :=
  codeAny (model P w) callerA (.call (.ref fa) ⟨[.ref pl], []⟩) (fun r s' => r = .ok (.ret (.bool true)) ∧ OldK st.heap s'.heap ∧ s'.os = st.os ∧ AllBare s'.gens) st
/-- by a view of the heap in which at most the script is told of -/
theorem wants_by (inK : K.In st.heap) (nsM : st.heap.Ns mainGlobals mg) (nsB : st.heap.Ns builtinsNs mb) (same : ∀ y : Str, y ≠ "__name__" → mb y = bootBuiltins y) (nl : st.heap.NoLimit) (ng : st.gens = #[])
    (at_ : st.heap.get? pl = some { cls := .type "list", data := .seq us.toArray }) (room : Room kk callerA) (prm : ∀ B : Heap, FnG P w K mg B kk fa fd [px] prom) (bnd : ∀ (t : Shared) (u : Value), K.In t.heap → BindsTo t fd ⟨[u], []⟩ [(px, u)])
    (V : Hp) (only : Only V) (hok : HOk P w V st.heap) (alone : ∀ b, V b ≠ none → b = pl) (free : V pl ≠ none → K.lookup pl = none) (use : prom [.ref pl] V (fun v _ => v = .bl true) E0) : Wants P w fa pl st := by
  let B := hidT st.heap V
  have dicts : ∀ {b : Addr} {o : Obj} {es : Array DictEntry} {ep : Nat}, st.heap.get? b = some o → o.data = .dict es ep → V b = none := by
    intro b o es ep e d
    refine Classical.byContradiction fun z => ?_
    obtain rfl := alone b z
    rw [at_] at e
    cases e
    cases (show Data.seq us.toArray _ = Data.dict es ep from d)
  have keepNs : ∀ {b : Addr} {m : Str → Option Value}, st.heap.Ns b m → B.Ns b m := by
    rintro b m ⟨o, es, ep, e, d, r⟩
    exact ⟨o, es, ep, hidT_get e (dicts e d), d, r⟩
  have inB : K.In B := by
    intro b o e
    refine hidT_get (inK b o e) (Classical.byContradiction fun z => ?_)
    obtain rfl := alone b z
    rw [free z] at e
    cases e
  have nlB : B.NoLimit := by
    obtain ⟨mc, q1, q2⟩ := nl
    exact ⟨mc, keepNs q1, q2⟩
  have env0 : Env0 P w K mg B callerA [] st V := {
    frames := rfl
    mod := { kin := inB, glob := keepNs nsM, blt := ⟨mb, keepNs nsB, same⟩, nolimit := nlB }
    bs := fun b o e => of_hidT e
    bsz := Nat.le_of_eq (hidT_size _ _)
    funs := trivial
    frf := fun b hb => nomatch hb
    hok := hok
    bare := .of_eq ng }
  have run := (prm B).run callerA [] st V ⟨[.ref pl], []⟩ [.ref pl] [.ref pl] (fun v _ => v = .bl true) E0 rfl room env0 (bnd st (.ref pl) inK) (.cons rfl .nil) use
  refine codeAny_mono run ?_
  intro r s' end_
  match r, end_ with
  | .error e, z => exact z.elim
  | .ok .next, z => exact z.elim
  | .ok .brk, z => exact z.elim
  | .ok .cont, z => exact z.elim
  | .ok (.ret u), z =>
    obtain ⟨v, V', os, bare, un, hok', rel, tru⟩ := z
    cases (show v = .bl true from tru)
    cases (show u = Value.bool true from rel)
    refine ⟨rfl, OldK.of_keep ?_, os, bare⟩
    intro b o e
    rcases only b with n | ⟨ob, xs, n⟩
    · exact un.keep b o e n (fun z => nomatch z) (fun z => nomatch z)
    · have old := (hok b _ n).1
      have new := (hok' b _ (un.frzs b ob _ n)).1
      rw [e] at old
      cases old
      exact new
/-- the script stands as a list of ints that nobody writes to -/
theorem wants_of (inK : K.In st.heap) (nsM : st.heap.Ns mainGlobals mg) (nsB : st.heap.Ns builtinsNs mb) (same : ∀ y : Str, y ≠ "__name__" → mb y = bootBuiltins y) (nl : st.heap.NoLimit) (ng : st.gens = #[])
    (at_ : st.heap.get? pl = some { cls := .type "list", data := .seq us.toArray }) (hin : IntsAre us zs) (short : zs.length ≤ sizeLine) (room : Room kk callerA) (prm : ∀ B : Heap, FnG P w K mg B kk fa fd [px] prom)
    (bnd : ∀ (t : Shared) (u : Value), K.In t.heap → BindsTo t fd ⟨[u], []⟩ [(px, u)]) (use : ∀ V : Hp, Only V → SqL K V pl (zs.map L2.V.int) → prom [.ref pl] V (fun v _ => v = .bl true) E0) : Wants P w fa pl st := by
  have rel := vals_ints hin
  have ln := hin.length
  cases own : K.lookup pl with
  | some o =>
    have e := inK pl o own
    rw [at_] at e
    cases e
    have sq : SqL K (fun _ => none) pl (zs.map L2.V.int) := by
      refine .inr ⟨_, us.toArray, _, own, rfl, rfl, rfl, ?_, ?_⟩
      · rw [List.size_toArray, ln]; exact short
      · rw [List.toList_toArray]; exact rel
    exact wants_by inK nsM nsB same nl ng at_ room prm bnd (fun _ => none) (fun _ => .inl rfl) (fun b u z => nomatch z) (fun b z => (z rfl).elim) (fun z => (z rfl).elim) (use _ (fun _ => .inl rfl) sq)
  | none =>
    let ob : Obj := { cls := .type "list", data := .seq us.toArray }
    let V : Hp := fun b => if b = pl then some (.frz ob (.lst (zs.map L2.V.int))) else none
    have here : V pl = some (.frz ob (.lst (zs.map L2.V.int))) := if_pos rfl
    have away : ∀ b, b ≠ pl → V b = none := fun b n => if_neg n
    have only : Only V := fun b => by
      by_cases e : b = pl
      · exact .inr ⟨ob, _, by rw [e]; exact here⟩
      · exact .inl (away b e)
    refine wants_by inK nsM nsB same nl ng at_ room prm bnd V only (fun b u z => ?_) (fun b z => Classical.byContradiction fun n => z (away b n)) (fun _ => own) (use V only (.inl (.inr ⟨ob, here⟩)))
    by_cases e : b = pl
    · subst e
      rw [here] at z
      cases z
      exact ⟨at_, by rw [List.length_map]; exact short, us, _, rel, at_⟩
    · rw [away b e] at z
      cases z
end
/-- the law's row: the evaluator gives True for every script -/
theorem walk_run {l : PySem.W.OpenLaw} {q : Program} {loose : List Str} {XP : (Str → Option Value) → Heap → Prop} {YP : World → Heap → Prop} {d : DefRec} {K : Params → PySem.W.Frag} {T : Tab} {ps : List FnD} {wf kk f : Nat} {px : Str}
    (most : l.most = some 63) (nodf : d.params.defaults = []) (room : Room kk callerA) (inY : ∀ (w : World) (h : Heap), YP w h → (K w.params).In h) (rf1 : rfOf ps f = [false])
    (texts : ∀ (w : World) (mg : Str → Option Value) (fa : Addr) (h : Heap), (K w.params).In h → h.Ns mainGlobals mg → mg d.name = some (.ref fa) →
      (∃ fd, FnAt (K w.params) mg T ps f d.name fa fd [px]) ∧ (∀ x g, T.fn x = some g → ∃ a fd prs, FnAt (K w.params) mg T ps g x a fd prs) ∧ (∀ x, T.blt.contains x = true → mg x = none) ∧
      (∀ x c, T.cst x = some c → ∃ u, mg x = some u ∧ match c with
        | .int i => ∃ t, u = .int i t
        | .str s => ∃ t, u = .str s t
        | .bool b => u = .bool b
        | _ => False))
    (tells : ∀ ns : List Int, ns.length ≤ 63 → (∀ z ∈ ns, Builtin.Int.intBits z ≤ 1048576) → runF ps wf kk f [.scr ns] = some (.val (.bl true), [none])) :
    PySem.W.WalkO q loose XP YP l.row.toRowW d [] (fun f vs => PySem.call f vs) := by
  refine Att.attach_callB most nodf ?_
  intro w s₀ s₁ mg mb fa o pm cd doc a vs ns G Y ho hd hcd hmg hobj hints hlen hbits hg
  have inK := inY w _ Y
  obtain ⟨⟨fd, F⟩, fns, blt, cst⟩ := texts w mg fa _ inK G.T.g hmg
  refine wants_of (zs := ns) inK G.T.g G.T.b G.T.builtins G.T.nolimit hg hobj hints (Nat.le_trans hlen (by decide)) room (fun B => all_fns (wf := wf) fns blt cst kk d.name f fa fd [px] F) (fun t u ht => ?_) (fun V only sq => ?_)
  · have := F.binds t [u] ht rfl
    exact this
  · have rep : Rep (K w.params) V (fun b => False ∨ isB [false] [L2.V.ref a] b) (.ref a) (.scr ns) := by
      have nB : ¬ isB [false] [L2.V.ref a] a := by
        rintro ⟨j, h1, _⟩
        match j, h1 with
        | 0, h1 => cases h1
        | j + 1, h1 => cases h1
      rcases sq with (sq | ⟨o, sq⟩) | sq
      · rcases only a with n | ⟨o, xs, n⟩
        · rw [sq] at n; cases n
        · rw [sq] at n; cases n
      · exact .scr sq (fun z => z.elim id nB)
      · exact .scrW sq
    refine ⟨fun _ => False, [.scr ns], .val (.bl true), [none], ?_, tells ns hlen hbits, fun v H' po => ?_⟩
    · rw [rf1]
      refine ⟨rfl, rfl, fun b z => z.elim, fun j v d h1 h2 h3 => ?_, fun j v d h1 => ?_, fun i j b h1 => ?_⟩
      · match j, h2, h3 with
        | 0, h2, h3 => cases h2; cases h3; exact rep
        | j + 1, h2, h3 => cases h2
      · match j, h1 with
        | 0, h1 => cases h1
        | j + 1, h1 => cases h1
      · match i, h1 with
        | 0, h1 => cases h1
        | i + 1, h1 => cases h1
    · have := po.res
      cases this.1
      rfl
/-- a def that stands in the module -/
theorem fn_at {K : PySem.W.Frag} {h : Heap} {mg : Str → Option Value} {T : Tab} {ps : List FnD} {f : Nat} {x : Str} {a : Addr} {prs N : List Str} {stm : Stmt} {fn : FnD} {od an : Option Addr} {osl : Array (Option Value)} {oc kV doc pm cdv ct : Value} (X : K.In h) (G : h.Ns mainGlobals mg)
    (ns : PySem.W.nsIn K mainGlobals x = some (some (.ref a))) (lk : K.lookup a = some ⟨oc, od, .func (PySem.W.fnOf x x (defArgs stm) (defBody stm) (defScope stm) .none kV doc pm an cdv ct), osl⟩) (cd : PySem.W.codeIn K cdv x = true) (kp : PySem.W.keepIn K (.ref a) = true)
    (bd : ∀ (kV doc pm : Value) (an : Option Addr) (cdv ct : Value) (us : List Value), us.length = prs.length → bindArgs (PySem.W.fnOf x x (defArgs stm) (defBody stm) (defScope stm) .none kV doc pm an cdv ct) ⟨us, []⟩ = pure (prs.zip us))
    (S : FnScope N prs (defScope stm)) (e : ps[f]? = some fn) (l1 : prs.length = fn.rf.length) (l2 : N.length = fn.ns) (chk : chkB T N (defScope stm) fn.body (defBody stm) = true)
    (kw : ∀ (kV doc pm : Value) (an : Option Addr) (cdv ct : Value), ∀ p ∈ T.kw f, ∀ us ws : List Value, us.length = p.1 → ws.length = p.2.1.length → ∃ zs, permL p.2.2 (us ++ ws) = some zs ∧ bindArgs (PySem.W.fnOf x x (defArgs stm) (defBody stm) (defScope stm) .none kV doc pm an cdv ct) ⟨us, p.2.1.zip ws⟩ = pure (prs.zip zs)) :
    ∃ fd, FnAt K mg T ps f x a fd prs := by
  have F := fun_mk (st := stm) lk cd kp
  exact ⟨_, ⟨stm, N, x, x, fn, e, F, S, l1, l2, chk⟩, F.binds bd, PySem.W.mg_of X G ns, fun p hp s us ws _ h1 h2 => by
    obtain ⟨zs, e, b⟩ := kw kV doc pm an cdv ct p hp us ws h1 h2
    exact ⟨zs, e, .of_eq b⟩⟩
/-- facts about each entry of a table -/
def Each {α : Type} (p : α → Prop) : List α → Prop
  | [] => True
  | x :: r => p x ∧ Each p r
theorem Each.lookup {α β : Type} [BEq α] [LawfulBEq α] {p : α × β → Prop} : ∀ {l : List (α × β)} {x : α} {y : β}, Each p l → l.lookup x = some y → p (x, y)
  | [], x, y, _, e => by cases e
  | (a, b) :: r, x, y, h, e => by
    rw [List.lookup_cons] at e
    cases q : x == a with
    | true =>
      rw [q] at e
      cases e
      rw [eq_of_beq q]
      exact h.1
    | false =>
      rw [q] at e
      exact Each.lookup h.2 e
theorem Each.mem {α : Type} {p : α → Prop} : ∀ {l : List α} {x : α}, Each p l → x ∈ l → p x
  | a :: r, x, h, e => by
    rcases List.mem_cons.mp e with e | e
    · subst e; exact h.1
    · exact Each.mem h.2 e
end Ofw
/-! Ofw 23: loops and texts of the evaluator -/
namespace Ofw
open PySem L2
/-- a loop that goes through all -/
theorem forLoop_nx {f : D → En → Option (Fl × En)} (P : Nat → En → Prop) : ∀ (its : List D) (k : Nat) (env : En), (∀ i d en, its[i]? = some d → P (k + i) en → ∃ en', f d en = some (.nx, en') ∧ P (k + i + 1) en') → P k env →
    ∃ env', forLoop f its env = some (.nx, env') ∧ P (k + its.length) env'
  | [], k, env, _, h => ⟨env, rfl, h⟩
  | d :: ds, k, env, st, h => by
    obtain ⟨e1, h1, h2⟩ := st 0 d env rfl h
    obtain ⟨e2, h3, h4⟩ := forLoop_nx P ds (k + 1) e1 (fun i d' en hi hp => by
      have := st (i + 1) d' en (by simpa using hi) (by rw [show k + (i + 1) = k + 1 + i by omega]; exact hp)
      rw [show k + (i + 1) + 1 = k + 1 + i + 1 by omega] at this
      exact this) h2
    refine ⟨e2, ?_, by rw [List.length_cons, show k + (ds.length + 1) = k + 1 + ds.length by omega]; exact h4⟩
    simp only [forLoop, h1, h3]
/-- .. with the same told at every turn -/
theorem forLoop_inv {f : D → En → Option (Fl × En)} (P : En → Prop) (its : List D) (env : En) (st : ∀ d en, d ∈ its → P en → ∃ en', f d en = some (.nx, en') ∧ P en') (h : P env) : ∃ env', forLoop f its env = some (.nx, env') ∧ P env' :=
  forLoop_nx (fun _ => P) its 0 env (fun i d en hi hp => st d en (List.mem_of_getElem? hi) hp) h
theorem lcLoop_nx {f : D → En → Option (Option D × En)} (P : Nat → En → Prop) (Q : D → Prop) : ∀ (its : List D) (k : Nat) (env : En), (∀ i d en, its[i]? = some d → P (k + i) en → ∃ o en', f d en = some (some o, en') ∧ Q o ∧ P (k + i + 1) en') → P k env →
    ∃ out env', lcLoop f its env = some (out, env') ∧ (∀ x ∈ out, Q x) ∧ out.length = its.length ∧ P (k + its.length) env'
  | [], k, env, _, h => ⟨[], env, rfl, by simp, rfl, h⟩
  | d :: ds, k, env, st, h => by
    obtain ⟨o, e1, h1, hq, h2⟩ := st 0 d env rfl h
    obtain ⟨out, e2, h3, hqs, hl, h4⟩ := lcLoop_nx P Q ds (k + 1) e1 (fun i d' en hi hp => by
      have := st (i + 1) d' en (by simpa using hi) (by rw [show k + (i + 1) = k + 1 + i by omega]; exact hp)
      rw [show k + (i + 1) + 1 = k + 1 + i + 1 by omega] at this
      exact this) h2
    refine ⟨o :: out, e2, by simp only [lcLoop, h1, h3]; rfl, fun x hx => ?_, by simp [hl], by rw [List.length_cons, show k + (ds.length + 1) = k + 1 + ds.length by omega]; exact h4⟩
    rcases List.mem_cons.mp hx with e | e
    · rw [e]; exact hq
    · exact hqs x e
/-- some left out -/
theorem lcLoop_le {f : D → En → Option (Option D × En)} (P : Nat → En → Prop) (Q : D → Prop) : ∀ (its : List D) (k : Nat) (env : En), (∀ i d en, its[i]? = some d → P (k + i) en → ∃ o en', f d en = some (o, en') ∧ (∀ x, o = some x → Q x) ∧ P (k + i + 1) en') → P k env →
    ∃ out env', lcLoop f its env = some (out, env') ∧ (∀ x ∈ out, Q x) ∧ out.length ≤ its.length ∧ P (k + its.length) env'
  | [], k, env, _, h => ⟨[], env, rfl, by simp, Nat.le_refl _, h⟩
  | d :: ds, k, env, st, h => by
    obtain ⟨o, e1, h1, hq, h2⟩ := st 0 d env rfl h
    obtain ⟨out, e2, h3, hqs, hl, h4⟩ := lcLoop_le P Q ds (k + 1) e1 (fun i d' en hi hp => by
      have := st (i + 1) d' en (by simpa using hi) (by rw [show k + (i + 1) = k + 1 + i by omega]; exact hp)
      rw [show k + (i + 1) + 1 = k + 1 + i + 1 by omega] at this
      exact this) h2
    refine ⟨o.toList ++ out, e2, by simp only [lcLoop, h1, h3], fun x hx => ?_, ?_, by rw [List.length_cons, show k + (ds.length + 1) = k + 1 + ds.length by omega]; exact h4⟩
    · rcases List.mem_append.mp hx with e | e
      · cases o with
        | none => simp at e
        | some y => simp at e; rw [e]; exact hq y rfl
      · exact hqs x e
    · cases o <;> simp <;> omega
/-- by a function -/
theorem lcLoop_map {f : D → En → Option (Option D × En)} (g : D → Option D) (env : En) : ∀ (its : List D), (∀ d ∈ its, f d env = some (g d, env)) → lcLoop f its env = some (its.filterMap g, env)
  | [], _ => rfl
  | d :: ds, h => by
    have h1 := h d (List.mem_cons_self)
    have h2 := lcLoop_map g env ds fun x hx => h x (List.mem_cons_of_mem _ hx)
    simp only [lcLoop, h1, h2]
    cases e : g d <;> simp [List.filterMap_cons, e]
theorem rngD_get {lo hi : Int} {i : Nat} {d : D} (h : (rngD lo hi)[i]? = some d) : d = .int (lo + (i : Int)) ∧ lo + (i : Int) < hi := by
  unfold rngD at h
  rw [List.getElem?_map] at h
  cases e : (List.range (hi - lo).toNat)[i]? with
  | none => rw [e] at h; cases h
  | some k =>
    rw [e] at h
    have hl : i < (hi - lo).toNat := by
      have := (List.getElem?_eq_some_iff.mp e).1
      simpa using this
    rw [List.getElem?_range hl] at e
    cases e
    cases h
    exact ⟨rfl, by omega⟩
theorem rngD_mem {lo hi : Int} {d : D} (h : d ∈ rngD lo hi) : ∃ i, d = .int i ∧ lo ≤ i ∧ i < hi := by
  obtain ⟨i, hi⟩ := List.getElem?_of_mem h
  obtain ⟨e, h2⟩ := rngD_get hi
  exact ⟨_, e, by omega, h2⟩
/-- an index within -/
theorem ix_in {α : Type} {xs : List α} {i : Int} (h0 : 0 ≤ i) (h1 : i < xs.length) : ∃ x, ixD xs i = some x ∧ x ∈ xs := by
  have hi : i.toNat < xs.length := by omega
  refine ⟨xs[i.toNat], ?_, List.getElem_mem hi⟩
  unfold ixD atI ixN
  rw [if_pos h0, if_pos h1]
  simp [hi]
theorem log2_lt {m : Int} (h0 : 0 < m) (h1 : m < 2 ^ 64) : m.natAbs.log2 < 9000 := by
  have : m.natAbs < 2 ^ 64 := by omega
  have h2 : m.natAbs ≠ 0 := by omega
  have := (Nat.log2_lt h2).mpr this
  omega
/-! ### texts: short, of signs that are there -/
def Tx (k : Nat) (x : Str) : Prop := x.length ≤ k ∧ PyData.strOk x = true
theorem tx_iff {k : Nat} {x : Str} : Tx k x ↔ x.cps.toList.length ≤ k ∧ ∀ c ∈ x.cps.toList, c < 0x110000 := by
  unfold Tx PyData.strOk Str.length
  rw [← Array.all_toList, List.all_eq_true]
  simp only [Array.length_toList, decide_eq_true_eq]
theorem Tx.mono {j k : Nat} {x : Str} (h : Tx j x) (l : j ≤ k) : Tx k x := ⟨Nat.le_trans h.1 l, h.2⟩
theorem Tx.app {j k : Nat} {x y : Str} (hx : Tx j x) (hy : Tx k y) : Tx (j + k) (x ++ y) := by
  rw [tx_iff] at hx hy ⊢
  have e : (x ++ y).cps.toList = x.cps.toList ++ y.cps.toList := by
    show (x.cps ++ y.cps).toList = _
    simp
  rw [e, List.length_append]
  refine ⟨by omega, fun c hc => ?_⟩
  rcases List.mem_append.mp hc with q | q
  · exact hx.2 c q
  · exact hy.2 c q
theorem Tx.cut {k : Nat} {x : Str} (hx : Tx k x) (lo hi : Option Int) : Tx k ⟨(cutD x.cps.toList lo hi).toArray⟩ := by
  rw [tx_iff] at hx ⊢
  simp only [List.toList_toArray]
  unfold cutD
  refine ⟨?_, fun c hc => hx.2 c (List.mem_of_mem_drop (List.mem_of_mem_take hc))⟩
  rw [List.length_take, List.length_drop]
  omega
theorem Tx.char {k : Nat} {x : Str} (hx : Tx k x) {c : Nat} (hc : c ∈ x.cps.toList) : Tx 1 ⟨#[c]⟩ := by
  rw [tx_iff] at hx ⊢
  refine ⟨by simp, fun d hd => ?_⟩
  simp at hd
  rw [hd]
  exact hx.2 c hc
theorem Tx.rep {x : Str} {j : Nat} (hx : Tx j x) (n : Nat) : Tx (j * n) (repS x n) := by
  have hs : ∀ (n : Nat) (acc : Array Nat), (∀ c ∈ acc.toList, c < 0x110000) → ∀ c ∈ ((List.replicate n x.cps).foldl (· ++ ·) acc).toList, c < 0x110000 := fun n => by
    induction n with
    | zero => intro acc ha; exact ha
    | succ n ih =>
      intro acc ha
      rw [List.replicate_succ, List.foldl_cons]
      refine ih _ fun c hc => ?_
      rw [Array.toList_append] at hc
      rcases List.mem_append.mp hc with q | q
      · exact ha c q
      · exact (tx_iff.mp hx).2 c q
  refine ⟨by rw [repS_len]; exact Nat.mul_le_mul_right _ hx.1, (tx_iff.mpr ⟨Nat.le_refl _, hs n #[] (by simp)⟩ : Tx _ (repS x n)).2⟩
theorem Tx.join0 {k : Nat} : ∀ {ys : List Str}, (∀ y ∈ ys, Tx k y) → Tx (k * ys.length) (Txt.join "" ys) := by
  intro ys h
  have e : ∀ ys : List Str, (∀ y ∈ ys, Tx k y) → Tx (k * ys.length) (Str.join "" ys) := fun ys => by
    induction ys with
    | nil => intro _; exact ⟨Nat.zero_le _, by decide +kernel⟩
    | cons y r ih =>
      intro h
      cases r with
      | nil => exact (h y List.mem_cons_self).mono (by simp)
      | cons z r =>
        show Tx _ (y ++ "" ++ Str.join "" (z :: r))
        have h1 := h y List.mem_cons_self
        have h2 := ih fun w hw => h w (List.mem_cons_of_mem _ hw)
        have h3 : Tx 0 ("" : Str) := ⟨by decide +kernel, by decide +kernel⟩
        refine ((h1.app h3).app h2).mono ?_
        rw [List.length_cons (a := y), Nat.mul_succ]
        omega
  show Tx _ (Builtin.Str.glued "" ys)
  rw [StrLaws.glued_eq_join]
  exact e ys h
theorem tx_sum {k : Nat} : ∀ {ys : List Str}, (∀ y ∈ ys, Tx k y) → (ys.map (·.length)).sum ≤ k * ys.length
  | [], _ => by simp
  | y :: r, h => by
    have h1 := (h y List.mem_cons_self).1
    have h2 := tx_sum (k := k) fun w hw => h w (List.mem_cons_of_mem _ hw)
    rw [List.map_cons, List.sum_cons, List.length_cons, Nat.mul_succ]
    omega
/-- texts among data -/
def IsTx (k : Nat) (d : D) : Prop := ∃ x, d = .str x ∧ Tx k x
theorem strs_of {k : Nat} : ∀ {ds : List D}, (∀ d ∈ ds, IsTx k d) → ∃ ys : List Str, ds = ys.map D.str ∧ strsD ds = some ys ∧ ∀ y ∈ ys, Tx k y
  | [], _ => ⟨[], rfl, rfl, by simp⟩
  | d :: ds, h => by
    obtain ⟨x, rfl, hx⟩ := h d List.mem_cons_self
    obtain ⟨ys, rfl, e, hy⟩ := strs_of (ds := ds) fun w hw => h w (List.mem_cons_of_mem _ hw)
    refine ⟨x :: ys, rfl, by simp [strsD, e], fun y hm => ?_⟩
    rcases List.mem_cons.mp hm with q | q
    · rw [q]; exact hx
    · exact hy y q
/-- how a def's body ends -/
def fin (rf : List Bool) (r : Option (Fl × En)) : Option (Rs × List (Option D)) := match r with
  | some (.rt r, env) => some (r, outsOf rf env)
  | some (.nx, env) => some (.val .non, outsOf rf env)
  | _ => none
theorem run_fn {ps : List FnD} {wf n f : Nat} {fd : FnD} {ds : List D} (h : ps[f]? = some fd) (hl : ds.length = fd.rf.length) :
    runF ps wf (n + 1) f ds = fin fd.rf (execB (rfOf ps) (runF ps wf n) wf fd.body (startE fd.rf ds fd.ns)) := by
  simp only [runF, h, hl, if_true]
  rfl
end Ofw
namespace Ofw
theorem ix_nat {α : Type} {l : List α} {x : α} (k : Nat) (h : l[k]? = some x) : ixD l (k : Int) = some x := by
  have hk : k < l.length := (List.getElem?_eq_some_iff.mp h).1
  unfold ixD L2.atI L2.ixN
  rw [if_pos (by omega), if_pos (by omega)]
  simpa using h
theorem ix0 {α : Type} (x : α) (r : List α) : ixD (x :: r) 0 = some x := ix_nat 0 rfl
theorem ix1 {α : Type} (x y : α) (r : List α) : ixD (x :: y :: r) 1 = some y := ix_nat 1 rfl
theorem ix2 {α : Type} (x y z : α) (r : List α) : ixD (x :: y :: z :: r) 2 = some z := ix_nat 2 rfl
theorem range1 : List.range 1 = [0] := rfl
theorem range2 : List.range 2 = [0, 1] := rfl
theorem range3 : List.range 3 = [0, 1, 2] := rfl
end Ofw
namespace Ofw
open PySem L2
section
variable (rf : Nat → List Bool) (C : CallT) (wf : Nat)
theorem eVar (i : Nat) (env : En) : evalE rf C (.var i) env = (match env[i]? with
    | some (.val d) => some (.val d, env)
    | some (.own d) => some (.val d, env.set i (.val d))
    | _ => none) := by simp only [evalE] <;> rfl
theorem eLit (c : Const) (env : En) : evalE rf C (.lit c) env = (litD c).map fun d => (.val d, env) := by simp only [evalE] <;> rfl
theorem eGlob (x : Str) (d : D) (env : En) : evalE rf C (.glob x d) env = some (.val d, env) := by simp only [evalE] <;> rfl
theorem eOp (t : Tag) (as : List Ex) (env : En) : evalE rf C (.op t as) env = (match evalAs rf C as env with
    | some (xs, env1) => applyT rf C t xs env1
    | none => none) := by simp only [evalE] <;> rfl
theorem eNot (a : Ex) (env : En) : evalE rf C (.not a) env = (match evalE rf C a env with
    | some (r, env1) => (truD r.d).map fun b => (.val (.bl (!b)), env1)
    | none => none) := by simp only [evalE] <;> rfl
theorem eAnd (as : List Ex) (env : En) : evalE rf C (.and as) env = evalAnd rf C as env := by simp only [evalE] <;> rfl
theorem eOr (as : List Ex) (env : En) : evalE rf C (.or as) env = evalOr rf C as env := by simp only [evalE] <;> rfl
theorem eIfe (c a b : Ex) (env : En) : evalE rf C (.ife c a b) env = (match evalE rf C c env with
    | some (r, env1) => match truD r.d with
      | some true => evalE rf C a env1
      | some false => evalE rf C b env1
      | none => none
    | none => none) := by simp only [evalE] <;> rfl
theorem eChain (p q : CmpOp) (a b c : Ex) (env : En) : evalE rf C (.chain p q a b c) env = (match evalE rf C a env with
    | some (ra, env1) => match evalE rf C b env1 with
      | some (rb, env2) => match cmpD p ra.d rb.d with
        | some true => match evalE rf C c env2 with
          | some (rc, env3) => (cmpD q rb.d rc.d).map fun k => (.val (.bl k), env3)
          | none => none
        | some false => some (.val (.bl false), env2)
        | none => none
      | none => none
    | none => none) := by simp only [evalE] <;> rfl
theorem aNil (env : En) : evalAs rf C [] env = some ([], env) := by simp only [evalAs] <;> rfl
theorem aPeek (i : Nat) (as : List Ex) (env : En) : evalAs rf C (.peek i :: as) env = (match env[i]? with
    | some .emp => none
    | none => none
    | some _ => match evalAs rf C as env with
      | some (xs, env2) => some (.r i :: xs, env2)
      | none => none) := by simp only [evalAs] <;> rfl
theorem aCons (a : Ex) (as : List Ex) (env : En) (h : notPeek a = true) : evalAs rf C (a :: as) env = (match evalE rf C a env with
    | some (r, env1) => match evalAs rf C as env1 with
      | some (xs, env2) => some (.v r.d :: xs, env2)
      | none => none
    | none => none) := evalAs_cons fun i e => by subst e; cases h
theorem sIfe (c : Ex) (a b : List Sx) (env : En) : execS rf C wf (.ife c a b) env = evIfS rf C c (execB rf C wf a) (execB rf C wf b) env := by simp only [execS] <;> rfl
theorem sAsg (i : Nat) (e : Ex) (env : En) : execS rf C wf (.asg i e) env = evAsg rf C i e env := by simp only [execS] <;> rfl
theorem sAsgT (i : List Nat) (e : Ex) (env : En) : execS rf C wf (.asgT i e) env = evAsgT rf C i e env := by simp only [execS] <;> rfl
theorem sPar (i : List Nat) (e : List Ex) (env : En) : execS rf C wf (.par i e) env = evPar rf C i e env := by simp only [execS] <;> rfl
theorem sSeti (i : Nat) (k e : Ex) (env : En) : execS rf C wf (.seti i k e) env = evSeti rf C i k e env := by simp only [execS] <;> rfl
theorem sAug (i : Nat) (o : Operator) (e : Ex) (env : En) : execS rf C wf (.aug i o e) env = evAug rf C i o e env := by simp only [execS] <;> rfl
theorem sApp (i : Nat) (e : Ex) (env : En) : execS rf C wf (.app i e) env = evApp rf C i e env := by simp only [execS] <;> rfl
theorem sExt (i : Nat) (e : Ex) (env : En) : execS rf C wf (.ext i e) env = evExt rf C i e env := by simp only [execS] <;> rfl
theorem sPop (i j : Nat) (env : En) : execS rf C wf (.popA i j) env = evPop i j env := by simp only [execS] <;> rfl
theorem sDrop (e : Ex) (env : En) : execS rf C wf (.drop e) env = evDrop rf C e env := by simp only [execS] <;> rfl
theorem sRet (e : Ex) (env : En) : execS rf C wf (.ret e) env = evRet rf C e env := by simp only [execS] <;> rfl
theorem sRetN (env : En) : execS rf C wf .retN env = some (.rt (.val .non), env) := by simp only [execS] <;> rfl
theorem sPass (env : En) : execS rf C wf .pass env = some (.nx, env) := by simp only [execS] <;> rfl
theorem sBrk (env : En) : execS rf C wf .brk env = some (.bk, env) := by simp only [execS] <;> rfl
theorem sCont (env : En) : execS rf C wf .cont env = some (.ct, env) := by simp only [execS] <;> rfl
theorem bNil (env : En) : execB rf C wf [] env = some (.nx, env) := by simp only [execB]
theorem bCons (s : Sx) (ss : List Sx) (env : En) : execB rf C wf (s :: ss) env = evSeq (execS rf C wf s) (execB rf C wf ss) env := by simp only [execB]
/-- a comprehension's turn -/
def lcTurn (elt : Ex) (tg : Tg) (ifs : List Ex) (vs : List Nat) (d : D) (en : En) : Option (Option D × En) := match bindT tg d en with
  | some en1 => match evalIfs rf C ifs en1 with
    | some (true, en2) => match evalE rf C elt en2 with
      | some (r, en3) => if plainSlots en3 vs then some (some r.d, wipeE en3 vs) else none
      | none => none
    | some (false, en2) => if plainSlots en2 vs then some (none, wipeE en2 vs) else none
    | none => none
  | none => none
end
section
variable {rf : Nat → List Bool} {C : CallT} {wf : Nat}
theorem lc_eq {elt : Ex} {tg : Tg} {k : ItK} {src ifs : List Ex} {vs : List Nat} {env env1 env2 : En} {xs : List Av1} {ds its out : List D} (h1 : evalAs rf C src env = some (xs, env1)) (h2 : valsOf xs = some ds) (h3 : itemsD k ds = some its) (h4 : plainSlots env1 vs = true) (h5 : its.length < sizeLine)
    (h6 : lcLoop (lcTurn rf C elt tg ifs vs) its (wipeE env1 vs) = some (out, env2)) : evalE rf C (.lc elt tg k src ifs vs) env = some (.fr (.lst out), backE env1 env2 vs) := by
  have e : ∀ z : Option (List D × En), z = some (out, env2) → (match z with
      | some (out, env2) => some (Rs.fr (.lst out), backE env1 env2 vs)
      | none => none) = some (.fr (.lst out), backE env1 env2 vs) := fun z hz => by rw [hz]
  simp only [evalE, h1, h2, h3, h4, h5, decide_true, Bool.and_self, if_true]
  exact e _ h6
theorem for_eq {tg : Tg} {k : ItK} {src : List Ex} {body : List Sx} {env env1 : En} {xs : List Av1} {ds its : List D} (h1 : evalAs rf C src env = some (xs, env1)) (h2 : valsOf xs = some ds) (h3 : itemsD k ds = some its) :
    execS rf C wf (.for_ tg k src body) env = forLoop (fun d en => (bindT tg d en).bind (execB rf C wf body)) its env1 := by
  simp only [execS, evFor, h1, h2, h3]
end
end Ofw
namespace Ofw
open PySem L2
section
variable (rf : Nat → List Bool) (C : CallT)
theorem aVar (i : Nat) (as : List Ex) (env : En) : evalAs rf C (.var i :: as) env = (match evalE rf C (.var i) env with
    | some (r, env1) => match evalAs rf C as env1 with
      | some (xs, env2) => some (.v r.d :: xs, env2)
      | none => none
    | none => none) := aCons rf C _ _ _ rfl
theorem aLit (c : Const) (as : List Ex) (env : En) : evalAs rf C (.lit c :: as) env = (match evalE rf C (.lit c) env with
    | some (r, env1) => match evalAs rf C as env1 with
      | some (xs, env2) => some (.v r.d :: xs, env2)
      | none => none
    | none => none) := aCons rf C _ _ _ rfl
theorem aGlob (x : Str) (d : D) (as : List Ex) (env : En) : evalAs rf C (.glob x d :: as) env = (match evalE rf C (.glob x d) env with
    | some (r, env1) => match evalAs rf C as env1 with
      | some (xs, env2) => some (.v r.d :: xs, env2)
      | none => none
    | none => none) := aCons rf C _ _ _ rfl
theorem aOp (t : Tag) (a : List Ex) (as : List Ex) (env : En) : evalAs rf C (.op t a :: as) env = (match evalE rf C (.op t a) env with
    | some (r, env1) => match evalAs rf C as env1 with
      | some (xs, env2) => some (.v r.d :: xs, env2)
      | none => none
    | none => none) := aCons rf C _ _ _ rfl
theorem aNot (a : Ex) (as : List Ex) (env : En) : evalAs rf C (.not a :: as) env = (match evalE rf C (.not a) env with
    | some (r, env1) => match evalAs rf C as env1 with
      | some (xs, env2) => some (.v r.d :: xs, env2)
      | none => none
    | none => none) := aCons rf C _ _ _ rfl
theorem aAnd (a : List Ex) (as : List Ex) (env : En) : evalAs rf C (.and a :: as) env = (match evalE rf C (.and a) env with
    | some (r, env1) => match evalAs rf C as env1 with
      | some (xs, env2) => some (.v r.d :: xs, env2)
      | none => none
    | none => none) := aCons rf C _ _ _ rfl
theorem aOr (a : List Ex) (as : List Ex) (env : En) : evalAs rf C (.or a :: as) env = (match evalE rf C (.or a) env with
    | some (r, env1) => match evalAs rf C as env1 with
      | some (xs, env2) => some (.v r.d :: xs, env2)
      | none => none
    | none => none) := aCons rf C _ _ _ rfl
theorem aIfe (a b c : Ex) (as : List Ex) (env : En) : evalAs rf C (.ife a b c :: as) env = (match evalE rf C (.ife a b c) env with
    | some (r, env1) => match evalAs rf C as env1 with
      | some (xs, env2) => some (.v r.d :: xs, env2)
      | none => none
    | none => none) := aCons rf C _ _ _ rfl
theorem aChain (p q : CmpOp) (a b c : Ex) (as : List Ex) (env : En) : evalAs rf C (.chain p q a b c :: as) env = (match evalE rf C (.chain p q a b c) env with
    | some (r, env1) => match evalAs rf C as env1 with
      | some (xs, env2) => some (.v r.d :: xs, env2)
      | none => none
    | none => none) := aCons rf C _ _ _ rfl
end
end Ofw
namespace Ofw
open PySem L2
section
variable {rf : Nat → List Bool} {C : CallT} {wf : Nat}
theorem lc_run {ex elt : Ex} {tg : Tg} {k : ItK} {src ifs : List Ex} {vs : List Nat} (hx : ex = .lc elt tg k src ifs vs) (env env1 : En) {xs : List Av1} {ds : List D} (its : List D) (P : Nat → En → Prop) (Q : D → Prop) (h1 : evalAs rf C src env = some (xs, env1)) (h2 : valsOf xs = some ds) (h3 : itemsD k ds = some its)
    (h4 : plainSlots env1 vs = true) (h5 : its.length < sizeLine) (h0 : P 0 (wipeE env1 vs)) (step : ∀ i d en, its[i]? = some d → P i en → ∃ o en', lcTurn rf C elt tg ifs vs d en = some (some o, en') ∧ Q o ∧ P (i + 1) en') :
    ∃ out env2, evalE rf C ex env = some (.fr (.lst out), backE env1 env2 vs) ∧ (∀ x ∈ out, Q x) ∧ out.length = its.length ∧ P its.length env2 := by
  subst hx
  obtain ⟨out, en, e1, hq, hl, hp⟩ := lcLoop_nx (f := lcTurn rf C elt tg ifs vs) P Q its 0 (wipeE env1 vs) (fun i d en hi hp => by rw [Nat.zero_add] at hp ⊢; exact step i d en hi hp) h0
  rw [Nat.zero_add] at hp
  exact ⟨out, en, lc_eq h1 h2 h3 h4 h5 e1, hq, hl, hp⟩
/-- with some left out -/
theorem lc_le {ex elt : Ex} {tg : Tg} {k : ItK} {src ifs : List Ex} {vs : List Nat} (hx : ex = .lc elt tg k src ifs vs) (env env1 : En) {xs : List Av1} {ds : List D} (its : List D) (P : Nat → En → Prop) (Q : D → Prop) (h1 : evalAs rf C src env = some (xs, env1)) (h2 : valsOf xs = some ds) (h3 : itemsD k ds = some its)
    (h4 : plainSlots env1 vs = true) (h5 : its.length < sizeLine) (h0 : P 0 (wipeE env1 vs)) (step : ∀ i d en, its[i]? = some d → P i en → ∃ o en', lcTurn rf C elt tg ifs vs d en = some (o, en') ∧ (∀ x, o = some x → Q x) ∧ P (i + 1) en') :
    ∃ out env2, evalE rf C ex env = some (.fr (.lst out), backE env1 env2 vs) ∧ (∀ x ∈ out, Q x) ∧ out.length ≤ its.length ∧ P its.length env2 := by
  subst hx
  obtain ⟨out, en, e1, hq, hl, hp⟩ := lcLoop_le (f := lcTurn rf C elt tg ifs vs) P Q its 0 (wipeE env1 vs) (fun i d en hi hp => by rw [Nat.zero_add] at hp ⊢; exact step i d en hi hp) h0
  rw [Nat.zero_add] at hp
  exact ⟨out, en, lc_eq h1 h2 h3 h4 h5 e1, hq, hl, hp⟩
/-- by a function of the items alone -/
theorem lc_map {ex elt : Ex} {tg : Tg} {k : ItK} {src ifs : List Ex} {vs : List Nat} (hx : ex = .lc elt tg k src ifs vs) (env env1 : En) {xs : List Av1} {ds : List D} (its : List D) (g : D → Option D) (h1 : evalAs rf C src env = some (xs, env1)) (h2 : valsOf xs = some ds) (h3 : itemsD k ds = some its)
    (h4 : plainSlots env1 vs = true) (h5 : its.length < sizeLine) (step : ∀ d ∈ its, lcTurn rf C elt tg ifs vs d (wipeE env1 vs) = some (g d, wipeE env1 vs)) :
    evalE rf C ex env = some (.fr (.lst (its.filterMap g)), backE env1 (wipeE env1 vs) vs) := by
  subst hx
  exact lc_eq h1 h2 h3 h4 h5 (lcLoop_map g _ its step)
/-- a loop's turn -/
def loTurn (rf : Nat → List Bool) (C : CallT) (wf : Nat) (tg : Tg) (body : List Sx) (d : D) (en : En) : Option (Fl × En) := (bindT tg d en).bind (execB rf C wf body)
theorem for_run {sx : Sx} {tg : Tg} {k : ItK} {src : List Ex} {body : List Sx} (hx : sx = .for_ tg k src body) (env env1 : En) {xs : List Av1} {ds : List D} (its : List D) (P : Nat → En → Prop) (h1 : evalAs rf C src env = some (xs, env1)) (h2 : valsOf xs = some ds) (h3 : itemsD k ds = some its)
    (h0 : P 0 env1) (step : ∀ i d en, its[i]? = some d → P i en → ∃ en', loTurn rf C wf tg body d en = some (.nx, en') ∧ P (i + 1) en') : ∃ env', execS rf C wf sx env = some (.nx, env') ∧ P its.length env' := by
  subst hx
  obtain ⟨en, e1, hp⟩ := forLoop_nx (f := loTurn rf C wf tg body) P its 0 env1 (fun i d en hi hp => by rw [Nat.zero_add] at hp ⊢; exact step i d en hi hp) h0
  rw [Nat.zero_add] at hp
  exact ⟨en, (for_eq h1 h2 h3).trans e1, hp⟩
end
end Ofw
namespace Ofw
open PySem L2
section
variable (rf : Nat → List Bool) (C : CallT)
theorem tVar' (i : Nat) (env : En) : evalRet rf C (.var i) env = (match env[i]? with
    | some (.own d) => some (.fr d, env.set i .emp)
    | _ => evalE rf C (.var i) env) := rfl
theorem tLit' (c : Const) (env : En) : evalRet rf C (.lit c) env = evalE rf C (.lit c) env := rfl
theorem tGlob' (x : Str) (d : D) (env : En) : evalRet rf C (.glob x d) env = evalE rf C (.glob x d) env := rfl
theorem tOp' (t : Tag) (as : List Ex) (env : En) : evalRet rf C (.op t as) env = evalE rf C (.op t as) env := rfl
theorem tNot' (a : Ex) (env : En) : evalRet rf C (.not a) env = evalE rf C (.not a) env := rfl
theorem tAnd' (a : List Ex) (env : En) : evalRet rf C (.and a) env = evalE rf C (.and a) env := rfl
theorem tOr' (a : List Ex) (env : En) : evalRet rf C (.or a) env = evalE rf C (.or a) env := rfl
theorem tIfe' (a b c : Ex) (env : En) : evalRet rf C (.ife a b c) env = evalE rf C (.ife a b c) env := rfl
theorem tChain' (p q : CmpOp) (a b c : Ex) (env : En) : evalRet rf C (.chain p q a b c) env = evalE rf C (.chain p q a b c) env := rfl
end
end Ofw
/-! Ofw A1: kinds of data: what a thing may be; joined, held against each other -/
namespace Ofw
open PySem L2
/-- one sort of thing; a kind is a list of sorts -/
inductive At where
  | non | tr | fa | big
  | int (lo hi : Int)
  | str (n : Nat) | txt (x : Str)
  | tup (as : List (List At)) | lst (as : List (List At))
  | tupN (a : List At) (lo hi : Nat) | lstN (a : List At) (lo hi : Nat)
  | dic | scr
  | nam (k c : Nat)
abbrev Ak := List At
/-- what holds a named sort -/
abbrev Vw := Nat → Nat → Ak
/-- named sorts: what they are, and a kind that holds them -/
structure Nm where
  P : Nat → Nat → D → Prop
  view : Nat → Nat → Ak
section
variable (N : Nm)
mutual
inductive GT : At → D → Prop where
  | non : GT .non .non
  | tr : GT .tr (.bl true)
  | fa : GT .fa (.bl false)
  | big (i : Int) : GT .big (.int i)
  | int {lo hi i : Int} : lo ≤ i → i ≤ hi → GT (.int lo hi) (.int i)
  | str {n : Nat} {x : Str} : Tx n x → GT (.str n) (.str x)
  | txt {x : Str} : GT (.txt x) (.str x)
  | tup {as : List Ak} {ds : List D} : GL as ds → GT (.tup as) (.tup ds)
  | lst {as : List Ak} {ds : List D} : GL as ds → GT (.lst as) (.lst ds)
  | tupN {a : Ak} {lo hi : Nat} {ds : List D} : (∀ d, d ∈ ds → GA a d) → lo ≤ ds.length → ds.length ≤ hi → GT (.tupN a lo hi) (.tup ds)
  | lstN {a : Ak} {lo hi : Nat} {ds : List D} : (∀ d, d ∈ ds → GA a d) → lo ≤ ds.length → ds.length ≤ hi → GT (.lstN a lo hi) (.lst ds)
  | dic : GT .dic (.dic [])
  | scr {ns : List Int} : ns.length ≤ 63 → GT .scr (.scr ns)
  | nam {k c : Nat} {d : D} : N.P k c d → GT (.nam k c) d
inductive GA : Ak → D → Prop where
  | mk {t : At} {a : Ak} {d : D} : t ∈ a → GT t d → GA a d
inductive GL : List Ak → List D → Prop where
  | nil : GL [] []
  | cons {a : Ak} {d : D} {as : List Ak} {ds : List D} : GA a d → GL as ds → GL (a :: as) (d :: ds)
end
/-- what is asked of names -/
structure NmOk : Prop where
  view : ∀ k c d, N.P k c d → GA N (N.view k c) d
  mono : ∀ k c c' d, N.P k c d → c ≤ c' → N.P k c' d
end
section
variable {N : Nm}
theorem GA.one {t : At} {d : D} (h : GT N t d) : GA N [t] d := .mk (List.mem_singleton.mpr rfl) h
theorem GA.of1 {t : At} {d : D} (h : GA N [t] d) : GT N t d := by
  cases h with
  | mk m g => rw [List.mem_singleton.mp m] at g; exact g
theorem GA.sub {a b : Ak} {d : D} (h : GA N a d) (s : ∀ t, t ∈ a → t ∈ b) : GA N b d := by
  cases h with
  | mk m g => exact .mk (s _ m) g
theorem GA.left {a b : Ak} {d : D} (h : GA N a d) : GA N (a ++ b) d := h.sub fun _ m => List.mem_append_left _ m
theorem GA.right {a b : Ak} {d : D} (h : GA N b d) : GA N (a ++ b) d := h.sub fun _ m => List.mem_append_right _ m
theorem GL.len : ∀ {as : List Ak} {ds : List D}, GL N as ds → as.length = ds.length
  | _, _, .nil => rfl
  | _, _, .cons _ r => by simp [GL.len r]
theorem GL.get : ∀ {as : List Ak} {ds : List D} {i : Nat} {a : Ak}, GL N as ds → as[i]? = some a → ∃ d, ds[i]? = some d ∧ GA N a d
  | _, _, _, _, .nil, e => by simp at e
  | _, _, 0, _, .cons h _, e => by simp at e; subst e; exact ⟨_, rfl, h⟩
  | _, _, i + 1, d, .cons _ r, e => by
    obtain ⟨v, h1, h2⟩ := GL.get (i := i) (a := d) r (by simpa using e)
    exact ⟨v, by simpa using h1, h2⟩
theorem GL.app : ∀ {as bs : List Ak} {ds es : List D}, GL N as ds → GL N bs es → GL N (as ++ bs) (ds ++ es)
  | _, _, _, _, .nil, s => s
  | _, _, _, _, .cons h r, s => .cons h (GL.app r s)
theorem GL.drop : ∀ {as : List Ak} {ds : List D} (n : Nat), GL N as ds → GL N (as.drop n) (ds.drop n)
  | _, _, 0, r => r
  | _, _, _ + 1, .nil => .nil
  | _, _, n + 1, .cons _ r => GL.drop n r
theorem GL.take : ∀ {as : List Ak} {ds : List D} (n : Nat), GL N as ds → GL N (as.take n) (ds.take n)
  | _, _, 0, _ => .nil
  | _, _, _ + 1, .nil => .nil
  | _, _, n + 1, .cons h r => .cons h (GL.take n r)
theorem GL.set : ∀ {as : List Ak} {ds : List D} {a : Ak} {d : D} (n : Nat), GL N as ds → GA N a d → GL N (as.set n a) (ds.set n d)
  | _, _, _, _, _, .nil, _ => .nil
  | _, _, _, _, 0, .cons _ r, h => .cons h r
  | _, _, _, _, n + 1, .cons g r, h => .cons g (GL.set n r h)
end
/-! ### held against each other -/
section
variable (N : Vw)
/-- whether a text is short enough, of good signs -/
def txB (n : Nat) (x : Str) : Bool := decide (x.length ≤ n) && PyData.strOk x
def subT : Nat → At → At → Bool
  | 0, _, _ => false
  | k + 1, s, t =>
    let sub : Ak → Ak → Bool := fun a b => a.all fun x => b.any fun y => subT k x y
    let subs : List Ak → List Ak → Bool := fun as bs => decide (as.length = bs.length) && (as.zip bs).all fun p => sub p.1 p.2
    match s, t with
    | .non, .non => true
    | .tr, .tr => true
    | .fa, .fa => true
    | .big, .big => true
    | .int _ _, .big => true
    | .int lo hi, .int lo' hi' => decide (lo' ≤ lo) && decide (hi ≤ hi')
    | .str n, .str m => decide (n ≤ m)
    | .txt x, .str n => txB n x
    | .txt x, .txt y => x == y
    | .tup as, .tup bs => subs as bs
    | .lst as, .lst bs => subs as bs
    | .tup as, .tupN b lo hi => decide (lo ≤ as.length) && decide (as.length ≤ hi) && as.all fun a => sub a b
    | .lst as, .lstN b lo hi => decide (lo ≤ as.length) && decide (as.length ≤ hi) && as.all fun a => sub a b
    | .tupN a lo hi, .tupN b lo' hi' => decide (lo' ≤ lo) && decide (hi ≤ hi') && (hi == 0 || sub a b)
    | .lstN a lo hi, .lstN b lo' hi' => decide (lo' ≤ lo) && decide (hi ≤ hi') && (hi == 0 || sub a b)
    | .dic, .dic => true
    | .scr, .scr => true
    | .nam i c, .nam j c' => if i == j then decide (c ≤ c') else sub (N i c) [.nam j c']
    | .nam i c, t => sub (N i c) [t]
    | _, _ => false
def subA (k : Nat) (a b : Ak) : Bool := a.all fun x => b.any fun y => subT N k x y
end
section
variable {N : Nm} (ok : NmOk N)
include ok
theorem subT_ok : ∀ (k : Nat) {s t : At} {d : D}, subT N.view k s t = true → GT N s d → GT N t d
  | 0, _, _, _, h, _ => by cases h
  | k + 1, s, t, d, h, g => by
    have sub : ∀ (a b : Ak) (d : D), (a.all fun x => b.any fun y => subT N.view k x y) = true → GA N a d → GA N b d := by
      intro a b d h g
      cases g with
      | mk m g =>
        have h1 := List.all_eq_true.mp h _ m
        obtain ⟨y, my, hy⟩ := List.any_eq_true.mp h1
        exact .mk my (subT_ok k hy g)
    have subs : ∀ (as bs : List Ak) (ds : List D), as.length = bs.length → ((as.zip bs).all fun p => p.1.all fun x => p.2.any fun y => subT N.view k x y) = true → GL N as ds → GL N bs ds := by
      intro as
      induction as with
      | nil =>
        intro bs ds hl _ g
        cases g
        cases bs with
        | nil => exact .nil
        | cons _ _ => cases hl
      | cons a as ih =>
        intro bs ds hl h g
        cases bs with
        | nil => cases hl
        | cons b bs =>
          cases g with
          | cons g1 g2 =>
            rw [List.zip_cons_cons, List.all_cons, Bool.and_eq_true] at h
            exact .cons (sub a b _ h.1 g1) (ih bs _ (by simpa using hl) h.2 g2)
    have all1 : ∀ (as : List Ak) (b : Ak) (ds : List D), (as.all fun a => a.all fun x => b.any fun y => subT N.view k x y) = true → GL N as ds → ∀ d, d ∈ ds → GA N b d := by
      intro as
      induction as with
      | nil => intro b ds _ g d hd; cases g; cases hd
      | cons a as ih =>
        intro b ds h g d hd
        cases g with
        | cons g1 g2 =>
          rw [List.all_cons, Bool.and_eq_true] at h
          rcases List.mem_cons.mp hd with rfl | hd
          · exact sub a b _ h.1 g1
          · exact ih b _ h.2 g2 d hd
    have subN : ∀ (a b : Ak) (ds : List D) (hi : Nat), ds.length ≤ hi → ((hi == 0) = true ∨ (a.all fun x => b.any fun y => subT N.view k x y) = true) → (∀ d, d ∈ ds → GA N a d) → ∀ d, d ∈ ds → GA N b d := by
      intro a b ds hi hl h g d hd
      rcases h with e | e
      · have e := eq_of_beq e
        have := List.length_pos_of_mem hd
        omega
      · exact sub _ _ d e (g d hd)
    cases s with
    | nam i c =>
      cases g with
      | nam g =>
        have v := ok.view i c d g
        by_cases ht : ∃ j c', t = .nam j c'
        · obtain ⟨j, c', rfl⟩ := ht
          simp only [subT] at h
          by_cases e : (i == j) = true
          · rw [if_pos e] at h
            have e := eq_of_beq e
            subst e
            exact .nam (ok.mono _ _ _ _ g (of_decide_eq_true h))
          · rw [if_neg e] at h
            exact (sub _ _ d h v).of1
        · have h' : (((N.view i c).all fun x => [t].any fun y => subT N.view k x y)) = true := by
            cases t <;> first | exact h | exact absurd ⟨_, _, rfl⟩ ht
          exact (sub _ _ d h' v).of1
    | _ =>
      all_goals cases t
      all_goals (first | (simp only [subT] at h; cases h; done) | skip)
      all_goals simp only [subT, Bool.and_eq_true, Bool.or_eq_true, decide_eq_true_eq, reduceCtorEq] at h
      all_goals (cases g)
      all_goals (first
        | exact .non | exact .tr | exact .fa | exact .big _ | exact .dic | (exact .scr ‹_›)
        | (exact .int (by omega) (by omega))
        | (exact .str (Tx.mono ‹_› h))
        | (exact .str ⟨of_decide_eq_true (by unfold txB at h; simp only [Bool.and_eq_true] at h; exact h.1), by unfold txB at h; simp only [Bool.and_eq_true] at h; exact h.2⟩)
        | (rw [eq_of_beq h]; exact .txt)
        | (exact .tup (subs _ _ _ h.1 h.2 ‹_›))
        | (exact .lst (subs _ _ _ h.1 h.2 ‹_›))
        | (refine .tupN (all1 _ _ _ h.2 ‹_›) ?_ ?_ <;> (have := GL.len ‹GL N _ _›; omega))
        | (refine .lstN (all1 _ _ _ h.2 ‹_›) ?_ ?_ <;> (have := GL.len ‹GL N _ _›; omega))
        | (rename_i g1 g2 g3; exact .tupN (subN _ _ _ _ g3 h.2 g1) (by omega) (by omega))
        | (rename_i g1 g2 g3; exact .lstN (subN _ _ _ _ g3 h.2 g1) (by omega) (by omega)))
theorem subA_ok {k : Nat} {a b : Ak} {d : D} (h : subA N.view k a b = true) (g : GA N a d) : GA N b d := by
  cases g with
  | mk m g =>
    obtain ⟨y, my, hy⟩ := List.any_eq_true.mp (List.all_eq_true.mp h _ m)
    exact .mk my (subT_ok ok k hy g)
end
end Ofw
/-! Ofw A2: kinds joined -/
namespace Ofw
open PySem L2
def insW (m : At → At → Option At) (t : At) : Ak → Ak
  | [] => [t]
  | s :: r => match m s t with
    | some u => u :: r
    | none => s :: insW m t r
def joinW (m : At → At → Option At) (a b : Ak) : Ak := b.foldl (fun acc t => insW m t acc) a
def joinsW (m : At → At → Option At) (as : List Ak) : Ak := as.foldl (fun acc a => joinW m acc a) []
/-- the texts with which a tuple may begin, if these alone -/
def txtsOf : Ak → Option (List Str)
  | [] => some []
  | .txt x :: r => (txtsOf r).map (x :: ·)
  | _ => none
def headT : List Ak → Option (List Str)
  | (.txt x :: r) :: _ => txtsOf (.txt x :: r)
  | _ => none
def sameHead (as bs : List Ak) : Bool := match headT as, headT bs with
  | some x, some y => x.any fun z => y.contains z
  | none, none => true
  | _, _ => false
def mrgT : Nat → At → At → Option At
  | 0, _, _ => none
  | k + 1, s, t => match s, t with
    | .non, .non => some .non
    | .tr, .tr => some .tr
    | .fa, .fa => some .fa
    | .big, .big => some .big
    | .big, .int _ _ => some .big
    | .int _ _, .big => some .big
    | .int a b, .int c d => some (.int (min a c) (max b d))
    | .str n, .str m => some (.str (max n m))
    | .txt x, .txt y => if x == y then some (.txt x) else none
    | .txt x, .str n => if txB n x then some (.str n) else none
    | .str n, .txt x => if txB n x then some (.str n) else none
    | .tup as, .tup bs => if as.length = bs.length ∧ sameHead as bs = true then some (.tup (List.zipWith (joinW (mrgT k)) as bs)) else none
    | .lst as, .lst bs => if as.length = bs.length then some (.lst (List.zipWith (joinW (mrgT k)) as bs)) else some (.lstN (joinsW (mrgT k) (as ++ bs)) (min as.length bs.length) (max as.length bs.length))
    | .lst as, .lstN b l h => some (.lstN (joinsW (mrgT k) (as ++ [b])) (min as.length l) (max as.length h))
    | .lstN b l h, .lst as => some (.lstN (joinsW (mrgT k) (as ++ [b])) (min as.length l) (max as.length h))
    | .tup as, .tupN b l h => if (headT as).isNone then some (.tupN (joinsW (mrgT k) (as ++ [b])) (min as.length l) (max as.length h)) else none
    | .tupN b l h, .tup as => if (headT as).isNone then some (.tupN (joinsW (mrgT k) (as ++ [b])) (min as.length l) (max as.length h)) else none
    | .tupN a l h, .tupN b l' h' => some (.tupN (joinW (mrgT k) a b) (min l l') (max h h'))
    | .lstN a l h, .lstN b l' h' => some (.lstN (joinW (mrgT k) a b) (min l l') (max h h'))
    | .dic, .dic => some .dic
    | .scr, .scr => some .scr
    | .nam i c, .nam j c' => if i == j then some (.nam i (max c c')) else none
    | _, _ => none
section
variable {N : Nm} {m : At → At → Option At} {d : D}
theorem insW_ok (hm : ∀ s t u d, m s t = some u → (GT N s d → GT N u d) ∧ (GT N t d → GT N u d)) (t : At) : ∀ (a : Ak), (GA N a d → GA N (insW m t a) d) ∧ (GT N t d → GA N (insW m t a) d)
  | [] => ⟨fun g => (by cases g with | mk mm _ => cases mm), fun g => GA.one g⟩
  | s :: r => by
    obtain ⟨ih1, ih2⟩ := insW_ok hm t r
    unfold insW
    cases e : m s t with
    | some u =>
      obtain ⟨h1, h2⟩ := hm s t u d e
      refine ⟨fun g => ?_, fun g => .mk List.mem_cons_self (h2 g)⟩
      cases g with
      | mk mm g =>
        rcases List.mem_cons.mp mm with rfl | mm
        · exact .mk List.mem_cons_self (h1 g)
        · exact .mk (List.mem_cons_of_mem _ mm) g
    | none =>
      refine ⟨fun g => ?_, fun g => (ih2 g).sub fun _ z => List.mem_cons_of_mem _ z⟩
      cases g with
      | mk mm g =>
        rcases List.mem_cons.mp mm with rfl | mm
        · exact .mk List.mem_cons_self g
        · exact (ih1 (.mk mm g)).sub fun _ z => List.mem_cons_of_mem _ z
theorem joinW_ok (hm : ∀ s t u d, m s t = some u → (GT N s d → GT N u d) ∧ (GT N t d → GT N u d)) : ∀ (b a : Ak), (GA N a d → GA N (joinW m a b) d) ∧ (GA N b d → GA N (joinW m a b) d)
  | [], a => ⟨id, fun g => (by cases g with | mk mm _ => cases mm)⟩
  | t :: b, a => by
    obtain ⟨h1, h2⟩ := joinW_ok hm b (insW m t a)
    obtain ⟨i1, i2⟩ := insW_ok (d := d) hm t a
    refine ⟨fun g => h1 (i1 g), fun g => ?_⟩
    cases g with
    | mk mm g =>
      rcases List.mem_cons.mp mm with rfl | mm
      · exact h1 (i2 g)
      · exact h2 (.mk mm g)
theorem joinsW_ok (hm : ∀ s t u d, m s t = some u → (GT N s d → GT N u d) ∧ (GT N t d → GT N u d)) : ∀ (as : List Ak) (acc : Ak), (GA N acc d → GA N (as.foldl (fun acc a => joinW m acc a) acc) d) ∧ ∀ a, a ∈ as → GA N a d → GA N (as.foldl (fun acc a => joinW m acc a) acc) d
  | [], _ => ⟨id, fun _ h => nomatch h⟩
  | b :: as, acc => by
    obtain ⟨h1, h2⟩ := joinsW_ok hm as (joinW m acc b)
    obtain ⟨j1, j2⟩ := joinW_ok (d := d) hm b acc
    refine ⟨fun g => h1 (j1 g), fun a ha g => ?_⟩
    rcases List.mem_cons.mp ha with rfl | ha
    · exact h1 (j2 g)
    · exact h2 a ha g
theorem GL.zipL (hm : ∀ s t u d, m s t = some u → (GT N s d → GT N u d) ∧ (GT N t d → GT N u d)) : ∀ {as bs : List Ak} {ds : List D}, as.length = bs.length → (GL N as ds → GL N (List.zipWith (joinW m) as bs) ds) ∧ (GL N bs ds → GL N (List.zipWith (joinW m) as bs) ds)
  | [], [], _, _ => ⟨id, id⟩
  | [], _ :: _, _, h => nomatch h
  | _ :: _, [], _, h => nomatch h
  | a :: as, b :: bs, ds, h => by
    refine ⟨fun g => ?_, fun g => ?_⟩
    · cases g with
      | cons g1 g2 => exact .cons ((joinW_ok hm b a).1 g1) ((GL.zipL hm (by simpa using h)).1 g2)
    · cases g with
      | cons g1 g2 => exact .cons ((joinW_ok hm b a).2 g1) ((GL.zipL hm (by simpa using h)).2 g2)
theorem GL.mem : ∀ {as : List Ak} {ds : List D} {d : D}, GL N as ds → d ∈ ds → ∃ a, a ∈ as ∧ GA N a d
  | _, _, _, .cons h r, hd => by
    rcases List.mem_cons.mp hd with rfl | hd
    · exact ⟨_, List.mem_cons_self, h⟩
    · obtain ⟨a, ha, g⟩ := GL.mem r hd
      exact ⟨a, List.mem_cons_of_mem _ ha, g⟩
end
section
variable {N : Nm} (ok : NmOk N)
include ok
theorem mrgT_ok : ∀ (k : Nat) (s t u : At) (d : D), mrgT k s t = some u → (GT N s d → GT N u d) ∧ (GT N t d → GT N u d)
  | 0, _, _, _, _, h => by cases h
  | k + 1, s, t, u, d, h => by
    have ih := mrgT_ok k
    have js : ∀ (as : List Ak) (a : Ak) (d : D), a ∈ as → GA N a d → GA N (joinsW (mrgT k) as) d := fun as a d ha g => (joinsW_ok ih as []).2 a ha g
    have jl : ∀ (as bs : List Ak) (ds : List D), (∀ a, a ∈ as → a ∈ bs) → GL N as ds → ∀ d, d ∈ ds → GA N (joinsW (mrgT k) bs) d := fun as bs ds hs g d hd => by
      obtain ⟨a, ha, ga⟩ := g.mem hd
      exact js bs a d (hs a ha) ga
    cases s <;> cases t <;> simp only [mrgT, Option.some.injEq, reduceCtorEq] at h
    all_goals (try split at h)
    all_goals (first | (cases h; done) | skip)
    all_goals (try simp only [Option.some.injEq] at h)
    all_goals (subst h)
    all_goals (refine ⟨fun g => ?_, fun g => ?_⟩ <;> cases g)
    all_goals (first
      | exact .non | exact .tr | exact .fa | exact .big _ | exact .dic | (exact .scr ‹_›) | exact .txt
      | (exact .int (by omega) (by omega))
      | (exact .str (Tx.mono ‹_› (by omega)))
      | (exact .str ‹_›)
      | (rename_i hx; have hx := eq_of_beq hx; subst hx; exact .txt)
      | (rename_i hx; unfold txB at hx; simp only [Bool.and_eq_true] at hx; exact .str ⟨of_decide_eq_true hx.1, hx.2⟩)
      | (rename_i hx _ g1; exact .tup ((GL.zipL ih hx.1).1 g1))
      | (rename_i hx _ g1; exact .tup ((GL.zipL ih hx.1).2 g1))
      | (rename_i hx _ g1; exact .lst ((GL.zipL ih hx).1 g1))
      | (rename_i hx _ g1; exact .lst ((GL.zipL ih hx).2 g1))
      | (rename_i hx g1; exact .lstN (jl _ _ _ (fun a ha => List.mem_append_left _ ha) g1) (by have := g1.len; omega) (by have := g1.len; omega))
      | (rename_i hx g1; exact .lstN (jl _ _ _ (fun a ha => List.mem_append_right _ ha) g1) (by have := g1.len; omega) (by have := g1.len; omega))
      | (rename_i g1; exact .lstN (jl _ _ _ (fun a ha => List.mem_append_left _ ha) g1) (by have := g1.len; omega) (by have := g1.len; omega))
      | (rename_i hx g1; exact .tupN (jl _ _ _ (fun a ha => List.mem_append_left _ ha) g1) (by have := g1.len; omega) (by have := g1.len; omega))
      | (rename_i g1 g2 g3; exact .lstN (fun d hd => js _ _ d (List.mem_append_right _ (List.mem_singleton.mpr rfl)) (g1 d hd)) (by omega) (by omega))
      | (rename_i g1 g2 g3; exact .tupN (fun d hd => js _ _ d (List.mem_append_right _ (List.mem_singleton.mpr rfl)) (g1 d hd)) (by omega) (by omega))
      | (rename_i g1 g2 g3; exact .lstN (fun d hd => (joinW_ok ih _ _).1 (g1 d hd)) (by omega) (by omega))
      | (rename_i g1 g2 g3; exact .lstN (fun d hd => (joinW_ok ih _ _).2 (g1 d hd)) (by omega) (by omega))
      | (rename_i g1 g2 g3; exact .tupN (fun d hd => (joinW_ok ih _ _).1 (g1 d hd)) (by omega) (by omega))
      | (rename_i g1 g2 g3; exact .tupN (fun d hd => (joinW_ok ih _ _).2 (g1 d hd)) (by omega) (by omega))
      | (rename_i hx g1; exact .nam (ok.mono _ _ _ _ g1 (by omega)))
      | (rename_i hx g1; have hx := eq_of_beq hx; subst hx; exact .nam (ok.mono _ _ _ _ g1 (by omega))))
/-- two kinds joined -/
theorem join_ok {k : Nat} {a b : Ak} {d : D} : (GA N a d → GA N (joinW (mrgT k) a b) d) ∧ (GA N b d → GA N (joinW (mrgT k) a b) d) := joinW_ok (mrgT_ok ok k) b a
theorem joins_ok {k : Nat} {as : List Ak} {a : Ak} {d : D} (ha : a ∈ as) (g : GA N a d) : GA N (joinsW (mrgT k) as) d := (joinsW_ok (mrgT_ok ok k) as []).2 a ha g
end
end Ofw
/-! Ofw A3: operations on kinds -/
namespace Ofw
open PySem L2
abbrev Ar := Bool × Ak
def joinA (a b : Ak) : Ak := joinW (mrgT 16) a b
def joinAs (as : List Ak) : Ak := joinsW (mrgT 16) as
def bothA : Ak := [.tr, .fa]
def blA (b : Bool) : At := if b then .tr else .fa
def blsA (bs : List Bool) : Ak := bs.map blA
def tupV : At → Option (Ak × Nat × Nat)
  | .tup as => some (joinAs as, as.length, as.length)
  | .tupN a lo hi => some (a, lo, hi)
  | _ => none
def lstV : At → Option (Ak × Nat × Nat)
  | .lst as => some (joinAs as, as.length, as.length)
  | .lstN a lo hi => some (a, lo, hi)
  | _ => none
/-- a text's greatest length -/
def txtV : At → Option Nat
  | .str n => some n
  | .txt x => if PyData.strOk x then some x.length else none
  | _ => none
def flatA : At → Bool
  | .non => true | .tr => true | .fa => true | .big => true | .int _ _ => true | .str _ => true | .txt _ => true
  | _ => false
def isIntA : At → Bool
  | .big => true | .int _ _ => true
  | _ => false
def addA (s t : At) : Option Ar := match s, t with
  | .int a b, .int c d => some (false, [.int (a + c) (b + d)])
  | .big, .big => some (false, [.big])
  | .big, .int _ _ => some (false, [.big])
  | .int _ _, .big => some (false, [.big])
  | .tup as, .tup bs => if as.length + bs.length ≤ sizeLine then some (false, [.tup (as ++ bs)]) else none
  | .lst as, .lst bs => if as.length + bs.length ≤ sizeLine then some (true, [.lst (as ++ bs)]) else none
  | s, t => match txtV s, txtV t with
    | some n, some m => if n + m ≤ sizeLine then some (false, [.str (n + m)]) else none
    | _, _ => match tupV s, tupV t with
      | some (a, l, h), some (b, l', h') => if h + h' ≤ sizeLine then some (false, [.tupN (joinA a b) (l + l') (h + h')]) else none
      | _, _ => match lstV s, lstV t with
        | some (a, l, h), some (b, l', h') => if h + h' ≤ sizeLine then some (true, [.lstN (joinA a b) (l + l') (h + h')]) else none
        | _, _ => none
def subI (s t : At) : Option Ar := match s, t with
  | .int a b, .int c d => some (false, [.int (a - d) (b - c)])
  | .big, .big => some (false, [.big])
  | .big, .int _ _ => some (false, [.big])
  | .int _ _, .big => some (false, [.big])
  | _, _ => none
def smallB (a b : Int) : Bool := decide (-18446744073709551616 < a) && decide (b < 18446744073709551616)
def min4 (a b c d : Int) : Int := min (min a b) (min c d)
def max4 (a b c d : Int) : Int := max (max a b) (max c d)
def mulA (s t : At) : Option Ar := match s, t with
  | .int a b, .int c d => if smallB a b || smallB c d then some (false, [.int (min4 (a * c) (a * d) (b * c) (b * d)) (max4 (a * c) (a * d) (b * c) (b * d))]) else none
  | .big, .int c d => if smallB c d then some (false, [.big]) else none
  | .int c d, .big => if smallB c d then some (false, [.big]) else none
  | s, .int c d => match txtV s with
    | some n => if 0 ≤ c ∧ d ≤ 10000 ∧ n ≤ 1000 then some (false, [.str (n * d.toNat)]) else none
    | none => none
  | _, _ => none
def divA (s t : At) : Option Ar := match s, t with
  | .int a b, .int c d => if 0 < c ∧ d < 18446744073709551616 then (if c = d then some (false, [.int (a / c) (b / c)]) else if 0 ≤ a then some (false, [.int 0 b]) else none) else none
  | .big, .int c d => if 0 < c ∧ d < 18446744073709551616 then some (false, [.big]) else none
  | _, _ => none
def modA (s t : At) : Option Ar := match t with
  | .int c d => if isIntA s = true ∧ 0 < c then some (false, [.int 0 (d - 1)]) else none
  | _ => none
def powA (s t : At) : Option Ar := match s, t with
  | .int a b, .int c d => if a = b ∧ c = d ∧ 0 ≤ c ∧ c ≤ 1000 ∧ a.natAbs < 2 ^ 64 then some (false, [.int (a ^ c.toNat) (a ^ c.toNat)]) else none
  | _, _ => none
def binA (op : Operator) (s t : At) : Option Ar := match op with
  | .Add => addA s t
  | .Sub => subI s t
  | .Mult => mulA s t
  | .FloorDiv => divA s t
  | .Mod => modA s t
  | .Pow => powA s t
  | _ => none
def GR (N : Nm) (x : Ar) (r : Rs) : Prop := (r = .val r.d ∧ x.1 = false ∨ r = .fr r.d ∧ x.1 = true) ∧ GA N x.2 r.d
theorem GR.val {N : Nm} {a : Ak} {d : D} (g : GA N a d) : GR N (false, a) (.val d) := ⟨.inl ⟨rfl, rfl⟩, g⟩
theorem GR.fr {N : Nm} {a : Ak} {d : D} (g : GA N a d) : GR N (true, a) (.fr d) := ⟨.inr ⟨rfl, rfl⟩, g⟩
section
variable {N : Nm} (ok : NmOk N)
include ok
theorem tupV_ok {t : At} {d : D} {a : Ak} {l h : Nat} (g : GT N t d) (e : tupV t = some (a, l, h)) : ∃ ds, d = .tup ds ∧ (∀ d, d ∈ ds → GA N a d) ∧ l ≤ ds.length ∧ ds.length ≤ h := by
  cases g <;> simp only [tupV, Option.some.injEq, Prod.mk.injEq, reduceCtorEq] at e
  · rename_i g
    obtain ⟨rfl, rfl, rfl⟩ := e
    have := g.len
    exact ⟨_, rfl, fun d hd => by obtain ⟨a, ha, ga⟩ := g.mem hd; exact joins_ok ok ha ga, by omega, by omega⟩
  · obtain ⟨rfl, rfl, rfl⟩ := e
    exact ⟨_, rfl, ‹_›, ‹_›, ‹_›⟩
theorem lstV_ok {t : At} {d : D} {a : Ak} {l h : Nat} (g : GT N t d) (e : lstV t = some (a, l, h)) : ∃ ds, d = .lst ds ∧ (∀ d, d ∈ ds → GA N a d) ∧ l ≤ ds.length ∧ ds.length ≤ h := by
  cases g <;> simp only [lstV, Option.some.injEq, Prod.mk.injEq, reduceCtorEq] at e
  · rename_i g
    obtain ⟨rfl, rfl, rfl⟩ := e
    have := g.len
    exact ⟨_, rfl, fun d hd => by obtain ⟨a, ha, ga⟩ := g.mem hd; exact joins_ok ok ha ga, by omega, by omega⟩
  · obtain ⟨rfl, rfl, rfl⟩ := e
    exact ⟨_, rfl, ‹_›, ‹_›, ‹_›⟩
omit ok in
theorem txtV_ok {t : At} {d : D} {n : Nat} (g : GT N t d) (e : txtV t = some n) : ∃ x, d = .str x ∧ Tx n x := by
  cases g <;> simp only [txtV, Option.some.injEq, reduceCtorEq] at e
  · subst e; exact ⟨_, rfl, ‹_›⟩
  · split at e
    · simp only [Option.some.injEq] at e; subst e; exact ⟨_, rfl, Nat.le_refl _, ‹_›⟩
    · cases e
theorem app_mem {a b : Ak} {xs ys : List D} (hx : ∀ d, d ∈ xs → GA N a d) (hy : ∀ d, d ∈ ys → GA N b d) : ∀ d, d ∈ xs ++ ys → GA N (joinA a b) d := fun d hd => by
  rcases List.mem_append.mp hd with h | h
  · exact (join_ok ok).1 (hx d h)
  · exact (join_ok ok).2 (hy d h)
theorem add_ok {s t : At} {x : Ar} {d e : D} (gs : GT N s d) (gt : GT N t e) (h : addA s t = some x) : ∃ r, binD .Add d e = some r ∧ GR N x r := by
  have gen : (match txtV s, txtV t with
    | some n, some m => if n + m ≤ sizeLine then some (false, [At.str (n + m)]) else none
    | _, _ => match tupV s, tupV t with
      | some (a, l, h), some (b, l', h') => if h + h' ≤ sizeLine then some (false, [At.tupN (joinA a b) (l + l') (h + h')]) else none
      | _, _ => match lstV s, lstV t with
        | some (a, l, h), some (b, l', h') => if h + h' ≤ sizeLine then some (true, [At.lstN (joinA a b) (l + l') (h + h')]) else none
        | _, _ => none) = some x → ∃ r, binD .Add d e = some r ∧ GR N x r := by
    intro h
    split at h
    · rename_i n m e1 e2
      split at h
      · rename_i hz
        cases h
        obtain ⟨u, rfl, tu⟩ := txtV_ok gs e1
        obtain ⟨v, rfl, tv⟩ := txtV_ok gt e2
        have : u.length + v.length ≤ sizeLine := by have := tu.1; have := tv.1; omega
        exact ⟨_, by simp only [binD, this, if_true], .val (.one (.str (tu.app tv)))⟩
      · cases h
    · split at h
      · rename_i e1 e2
        split at h
        · rename_i hz
          cases h
          obtain ⟨u, rfl, mu, lu, hu⟩ := tupV_ok ok gs e1
          obtain ⟨v, rfl, mv, lv, hv⟩ := tupV_ok ok gt e2
          have : u.length + v.length ≤ sizeLine := by omega
          exact ⟨_, by simp only [binD, this, if_true], .val (.one (.tupN (app_mem ok mu mv) (by simp; omega) (by simp; omega)))⟩
        · cases h
      · split at h
        · rename_i e1 e2
          split at h
          · rename_i hz
            cases h
            obtain ⟨u, rfl, mu, lu, hu⟩ := lstV_ok ok gs e1
            obtain ⟨v, rfl, mv, lv, hv⟩ := lstV_ok ok gt e2
            have : u.length + v.length ≤ sizeLine := by omega
            exact ⟨_, by simp only [binD, this, if_true], .fr (.one (.lstN (app_mem ok mu mv) (by simp; omega) (by simp; omega)))⟩
          · cases h
        · cases h
  unfold addA at h
  split at h
  · cases h; cases gs; cases gt; exact ⟨_, rfl, .val (.one (.int (by omega) (by omega)))⟩
  · cases h; cases gs; cases gt; exact ⟨_, rfl, .val (.one (.big _))⟩
  · cases h; cases gs; cases gt; exact ⟨_, rfl, .val (.one (.big _))⟩
  · cases h; cases gs; cases gt; exact ⟨_, rfl, .val (.one (.big _))⟩
  · split at h
    · rename_i hz
      cases h; cases gs; cases gt
      rename_i g1 _ g2
      have : _ := g1.len
      have : _ := g2.len
      exact ⟨_, by simp only [binD]; rw [if_pos (by omega)], .val (.one (.tup (g1.app g2)))⟩
    · cases h
  · split at h
    · rename_i hz
      cases h; cases gs; cases gt
      rename_i g1 _ g2
      have : _ := g1.len
      have : _ := g2.len
      exact ⟨_, by simp only [binD]; rw [if_pos (by omega)], .fr (.one (.lst (g1.app g2)))⟩
    · cases h
  · exact gen h
omit ok in
theorem sub_ok {s t : At} {x : Ar} {d e : D} (gs : GT N s d) (gt : GT N t e) (h : subI s t = some x) : ∃ r, binD .Sub d e = some r ∧ GR N x r := by
  unfold subI at h
  split at h
  · cases h; cases gs; cases gt; exact ⟨_, rfl, .val (.one (.int (by omega) (by omega)))⟩
  · cases h; cases gs; cases gt; exact ⟨_, rfl, .val (.one (.big _))⟩
  · cases h; cases gs; cases gt; exact ⟨_, rfl, .val (.one (.big _))⟩
  · cases h; cases gs; cases gt; exact ⟨_, rfl, .val (.one (.big _))⟩
  · cases h
omit ok in
theorem mul_between {a b i j : Int} (h1 : a ≤ i) (h2 : i ≤ b) : (a * j ≤ i * j ∧ i * j ≤ b * j) ∨ (b * j ≤ i * j ∧ i * j ≤ a * j) := by
  rcases Int.le_total 0 j with h | h
  · exact .inl ⟨Int.mul_le_mul_of_nonneg_right h1 h, Int.mul_le_mul_of_nonneg_right h2 h⟩
  · exact .inr ⟨Int.mul_le_mul_of_nonpos_right h2 h, Int.mul_le_mul_of_nonpos_right h1 h⟩
omit ok in
theorem mul_box {a b c d i j : Int} (h1 : a ≤ i) (h2 : i ≤ b) (h3 : c ≤ j) (h4 : j ≤ d) : min4 (a * c) (a * d) (b * c) (b * d) ≤ i * j ∧ i * j ≤ max4 (a * c) (a * d) (b * c) (b * d) := by
  have m1 := mul_between (j := j) h1 h2
  have m2 := mul_between (j := a) h3 h4
  have m3 := mul_between (j := b) h3 h4
  rw [Int.mul_comm c a, Int.mul_comm j a, Int.mul_comm d a] at m2
  rw [Int.mul_comm c b, Int.mul_comm j b, Int.mul_comm d b] at m3
  unfold min4 max4
  generalize a * c = p1 at *
  generalize a * d = p2 at *
  generalize b * c = p3 at *
  generalize b * d = p4 at *
  generalize a * j = p5 at *
  generalize b * j = p6 at *
  generalize i * j = p7 at *
  omega
omit ok in
theorem small_in {a b i : Int} (h : smallB a b = true) (h1 : a ≤ i) (h2 : i ≤ b) : i.natAbs < 2 ^ 64 := by
  unfold smallB at h
  simp only [Bool.and_eq_true, decide_eq_true_eq] at h
  omega
omit ok in
theorem mul_ok {s t : At} {x : Ar} {d e : D} (gs : GT N s d) (gt : GT N t e) (h : mulA s t = some x) : ∃ r, binD .Mult d e = some r ∧ GR N x r := by
  unfold mulA at h
  split at h
  · split at h
    · rename_i hs
      cases h; cases gs; cases gt
      rename_i i h1 h2 j h3 h4
      obtain ⟨b1, b2⟩ := mul_box h1 h2 h3 h4
      have : (i.natAbs < 2 ^ 64 ∨ j.natAbs < 2 ^ 64) ∨ i.natAbs.log2 + j.natAbs.log2 < 1000000 := by
        rw [Bool.or_eq_true] at hs
        exact .inl (hs.imp (fun h => small_in h h1 h2) fun h => small_in h h3 h4)
      exact ⟨_, by simp only [binD]; rw [if_pos this], .val (.one (.int b1 b2))⟩
    · cases h
  · split at h
    · rename_i hs
      cases h; cases gs; cases gt
      rename_i h1 h2
      exact ⟨_, by simp only [binD]; rw [if_pos (.inl (.inr (small_in hs h1 h2)))], .val (.one (.big _))⟩
    · cases h
  · split at h
    · rename_i hs
      cases h; cases gs; cases gt
      rename_i h1 h2 _
      exact ⟨_, by simp only [binD]; rw [if_pos (.inl (.inl (small_in hs h1 h2)))], .val (.one (.big _))⟩
    · cases h
  · split at h
    · rename_i n hn
      split at h
      · rename_i hc
        cases h
        obtain ⟨u, rfl, tu⟩ := txtV_ok gs hn
        cases gt
        rename_i c d _ _ j h1 h2
        have l1 : u.length ≤ 1000 := Nat.le_trans tu.1 hc.2.2
        have l2 : 0 ≤ j ∧ j ≤ 10000 ∧ u.length ≤ 1000 := ⟨by omega, by omega, l1⟩
        refine ⟨_, by simp only [binD]; rw [if_pos l2], .val (.one (.str ((tu.rep j.toNat).mono ?_)))⟩
        exact Nat.mul_le_mul_left _ (by omega)
      · cases h
    · cases h
  · cases h
omit ok in
theorem log_in {c d j : Int} (h0 : 0 < c) (h : d < 18446744073709551616) (h1 : c ≤ j) (h2 : j ≤ d) : 0 < j ∧ j.natAbs.log2 < 9000 := ⟨by omega, log2_lt (by omega) (by omega)⟩
omit ok in
theorem div_ok {s t : At} {x : Ar} {d e : D} (gs : GT N s d) (gt : GT N t e) (h : divA s t = some x) : ∃ r, binD .FloorDiv d e = some r ∧ GR N x r := by
  unfold divA at h
  split at h
  · split at h
    · rename_i hs
      split at h
      · rename_i he
        cases h; cases gs; cases gt
        rename_i i h1 h2 j h3 h4
        have hj : j = _ := Int.le_antisymm (he ▸ h4) h3
        refine ⟨_, by simp only [binD]; rw [if_pos (log_in hs.1 hs.2 h3 h4)], .val (.one (.int ?_ ?_))⟩
        · rw [hj]; exact Int.ediv_le_ediv hs.1 h1
        · rw [hj]; exact Int.ediv_le_ediv hs.1 h2
      · split at h
        · rename_i ha
          cases h; cases gs; cases gt
          rename_i i h1 h2 j h3 h4
          have hj := log_in hs.1 hs.2 h3 h4
          refine ⟨_, by simp only [binD]; rw [if_pos hj], .val (.one (.int ?_ ?_))⟩
          · exact Int.ediv_nonneg (by omega) (by omega)
          · exact Int.le_trans (Int.ediv_le_self _ (by omega)) h2
        · cases h
    · cases h
  · split at h
    · rename_i hs
      cases h; cases gs; cases gt
      rename_i h1 h2
      exact ⟨_, by simp only [binD]; rw [if_pos (log_in hs.1 hs.2 h1 h2)], .val (.one (.big _))⟩
    · cases h
  · cases h
omit ok in
theorem isInt_ok {s : At} {d : D} (h : isIntA s = true) (g : GT N s d) : ∃ i, d = .int i := by
  cases g <;> simp only [isIntA] at h <;> first | exact ⟨_, rfl⟩ | cases h
omit ok in
theorem mod_ok {s t : At} {x : Ar} {d e : D} (gs : GT N s d) (gt : GT N t e) (h : modA s t = some x) : ∃ r, binD .Mod d e = some r ∧ GR N x r := by
  unfold modA at h
  split at h
  · split at h
    · rename_i hs
      cases h
      obtain ⟨i, rfl⟩ := isInt_ok hs.1 gs
      cases gt
      rename_i j h1 h2
      have : 0 < j := by omega
      have m1 := Int.emod_nonneg i (show j ≠ 0 by omega)
      have m2 := Int.emod_lt_of_pos i this
      exact ⟨_, by simp only [binD]; rw [if_pos this], .val (.one (.int m1 (by omega)))⟩
    · cases h
  · cases h
omit ok in
theorem pow_ok {s t : At} {x : Ar} {d e : D} (gs : GT N s d) (gt : GT N t e) (h : powA s t = some x) : ∃ r, binD .Pow d e = some r ∧ GR N x r := by
  unfold powA at h
  split at h
  · split at h
    · rename_i hs
      cases h; cases gs; cases gt
      rename_i i h1 h2 j h3 h4
      obtain ⟨rfl, rfl, h5, h6, h7⟩ := hs
      have e1 : i = _ := Int.le_antisymm h2 h1
      have e2 : j = _ := Int.le_antisymm h4 h3
      subst e1; subst e2
      exact ⟨_, by simp only [binD]; rw [if_pos ⟨h5, by omega, h7⟩], .val (.one (.int (Int.le_refl _) (Int.le_refl _)))⟩
    · cases h
  · cases h
theorem bin_ok {op : Operator} {s t : At} {x : Ar} {d e : D} (gs : GT N s d) (gt : GT N t e) (h : binA op s t = some x) : ∃ r, binD op d e = some r ∧ GR N x r := by
  unfold binA at h
  split at h
  · exact add_ok ok gs gt h
  · exact sub_ok gs gt h
  · exact mul_ok gs gt h
  · exact div_ok gs gt h
  · exact mod_ok gs gt h
  · exact pow_ok gs gt h
  · cases h
end
end Ofw
/-! Ofw A4: comparisons, items, slices on kinds -/
namespace Ofw
open PySem L2
section
variable (N : Vw)
/-- how deep a sort's things may be, where == is told of them -/
def depA : Nat → At → Option Nat
  | 0, _ => none
  | k + 1, t =>
    let deps : Ak → Option Nat := fun a => a.foldl (fun acc t => match acc, depA k t with | some m, some n => some (max m n) | _, _ => none) (some 0)
    match t with
    | .non => some 0 | .tr => some 0 | .fa => some 0 | .big => some 0 | .int _ _ => some 0 | .str _ => some 0
    | .txt x => if PyData.strOk x then some 0 else none
    | .tup as => (deps as.flatten).map (· + 1)
    | .lst as => (deps as.flatten).map (· + 1)
    | .tupN a _ _ => (deps a).map (· + 1)
    | .lstN a _ _ => (deps a).map (· + 1)
    | .nam i c => deps (N i c)
    | _ => none
def fitA (t : At) : Bool := match depA N 24 t with
  | some n => decide (n ≤ 64)
  | none => false
/-- what == may tell -/
def eqB (s t : At) : List Bool := match s, t with
  | .txt x, .txt y => [x == y]
  | .int a b, .int c d => if b < c ∨ d < a then [false] else if a = b ∧ c = d ∧ a = c then [true] else [true, false]
  | .tr, .tr => [true] | .fa, .fa => [true] | .tr, .fa => [false] | .fa, .tr => [false] | .non, .non => [true]
  | .non, .tr => [false] | .non, .fa => [false] | .non, .int _ _ => [false] | .non, .big => [false] | .non, .str _ => [false] | .non, .txt _ => [false]
  | .tr, .non => [false] | .fa, .non => [false] | .int _ _, .non => [false] | .big, .non => [false] | .str _, .non => [false] | .txt _, .non => [false]
  | _, _ => [true, false]
def eqA (s t : At) : Option (List Bool) := if (flatA s && flatA t) || (fitA N s && fitA N t) then some (eqB s t) else none
def ltB (a b c d : Int) : List Bool := if b < c then [true] else if d ≤ a then [false] else [true, false]
def leB (a b c d : Int) : List Bool := if b ≤ c then [true] else if d < a then [false] else [true, false]
def ordA (op : CmpOp) (s t : At) : Option (List Bool) := match s, t with
  | .int a b, .int c d => match op with
    | .Lt => some (ltB a b c d)
    | .LtE => some (leB a b c d)
    | .Gt => some (ltB c d a b)
    | .GtE => some (leB c d a b)
    | _ => none
  | s, t => if isIntA s && isIntA t then match op with
      | .Lt => some [true, false] | .LtE => some [true, false] | .Gt => some [true, false] | .GtE => some [true, false]
      | _ => none
    else none
def isA (s t : At) : Option (List Bool) := match t with
  | .non => match s with
    | .non => some [true]
    | .scr => none | .nam _ _ => none
    | _ => some [false]
  | .tr => match s with
    | .tr => some [true] | .fa => some [false]
    | _ => none
  | .fa => match s with
    | .tr => some [false] | .fa => some [true]
    | _ => none
  | _ => none
def inA (s t : At) : Option (List Bool) := if flatA s then match tupV t, lstV t with
    | some (a, _, _), _ => if a.all flatA then some [true, false] else none
    | _, some (a, _, _) => if a.all flatA then some [true, false] else none
    | _, _ => none
  else none
def notL (bs : List Bool) : List Bool := bs.map (!·)
def cmpA (op : CmpOp) (s t : At) : Option (List Bool) := match op with
  | .Eq => eqA N s t
  | .NotEq => (eqA N s t).map notL
  | .Is => isA s t
  | .IsNot => (isA s t).map notL
  | .In => inA s t
  | .NotIn => inA s t
  | op => ordA op s t
end
section
variable {N : Nm} (ok : NmOk N)
include ok
theorem deps_ok {k : Nat} (ih : ∀ {t : At} {n : Nat} {d : D}, depA N.view k t = some n → GT N t d → okD d = true ∧ depD d ≤ n) :
    ∀ (a : Ak) (m0 n : Nat), a.foldl (fun acc t => match acc, depA N.view k t with | some m, some n => some (max m n) | _, _ => none) (some m0) = some n → m0 ≤ n ∧ ∀ t, t ∈ a → ∃ q, depA N.view k t = some q ∧ q ≤ n
  | [], m0, n, h => by simp only [List.foldl_nil, Option.some.injEq] at h; exact ⟨by omega, fun t ht => nomatch ht⟩
  | t :: a, m0, n, h => by
    rw [List.foldl_cons] at h
    cases e : depA N.view k t with
    | none =>
      rw [e] at h
      have nn : ∀ b : Ak, b.foldl (fun acc t => match acc, depA N.view k t with | some m, some n => some (max m n) | _, _ => none) (none : Option Nat) = none := by
        intro b
        induction b with
        | nil => rfl
        | cons _ _ ih => rw [List.foldl_cons]; exact ih
      rw [show (match (some m0 : Option Nat), (none : Option Nat) with | some m, some n => some (max m n) | _, _ => none) = none from rfl, nn] at h
      cases h
    | some q =>
      rw [e] at h
      obtain ⟨h1, h2⟩ := deps_ok ih a (max m0 q) n h
      refine ⟨by omega, fun u hu => ?_⟩
      rcases List.mem_cons.mp hu with rfl | hu
      · exact ⟨q, e, by omega⟩
      · exact h2 u hu
omit ok in
theorem okDs_of : ∀ {ds : List D} {n : Nat}, (∀ d, d ∈ ds → okD d = true ∧ depD d ≤ n) → okDs ds = true ∧ depDs ds ≤ n
  | [], n, _ => ⟨by simp only [okDs], by simp only [depDs]; omega⟩
  | d :: ds, n, h => by
    obtain ⟨h1, h2⟩ := h d List.mem_cons_self
    obtain ⟨h3, h4⟩ := okDs_of (ds := ds) (n := n) fun e he => h e (List.mem_cons_of_mem _ he)
    exact ⟨by simp only [okDs, h1, h3]; rfl, by simp only [depDs]; omega⟩
theorem depA_ok : ∀ (k : Nat) {t : At} {n : Nat} {d : D}, depA N.view k t = some n → GT N t d → okD d = true ∧ depD d ≤ n
  | 0, _, _, _, h, _ => by cases h
  | k + 1, t, n, d, h, g => by
    have ih := fun {t : At} {n : Nat} {d : D} => depA_ok k (t := t) (n := n) (d := d)
    have one : ∀ (a : Ak) (n : Nat), a.foldl (fun acc t => match acc, depA N.view k t with | some m, some n => some (max m n) | _, _ => none) (some 0) = some n → ∀ d, GA N a d → okD d = true ∧ depD d ≤ n := by
      intro a n h d g
      cases g with
      | mk m g =>
        obtain ⟨q, e, l⟩ := (deps_ok ok ih a 0 n h).2 _ m
        obtain ⟨h1, h2⟩ := ih e g
        exact ⟨h1, by omega⟩
    have fl : ∀ (as : List Ak) (n : Nat) (ds : List D), as.flatten.foldl (fun acc t => match acc, depA N.view k t with | some m, some n => some (max m n) | _, _ => none) (some 0) = some n → GL N as ds → ∀ d, d ∈ ds → okD d = true ∧ depD d ≤ n := by
      intro as n ds h g d hd
      obtain ⟨a, ha, ga⟩ := g.mem hd
      exact one as.flatten n h d (ga.sub fun t ht => List.mem_flatten.mpr ⟨a, ha, ht⟩)
    cases g <;> simp only [depA, Option.map_eq_some_iff, Option.some.injEq, reduceCtorEq] at h
    all_goals (first
      | (subst h; exact ⟨rfl, by simp only [depD]; omega⟩)
      | (subst h; rename_i tx; exact ⟨tx.2, by simp only [depD]; omega⟩)
      | (split at h
         · rename_i hs; cases h; exact ⟨hs, by simp only [depD]; omega⟩
         · cases h)
      | (obtain ⟨m, h, rfl⟩ := h; rename_i g; obtain ⟨h1, h2⟩ := okDs_of (fl _ _ _ h g); exact ⟨by simp only [okD]; exact h1, by simp only [depD]; omega⟩)
      | (obtain ⟨m, h, rfl⟩ := h; rename_i g _ _; obtain ⟨h1, h2⟩ := okDs_of (fun d hd => one _ _ h d (g d hd)); exact ⟨by simp only [okD]; exact h1, by simp only [depD]; omega⟩)
      | (rename_i g; exact one _ _ h _ (ok.view _ _ _ g)))
theorem fitA_ok {t : At} {d : D} (h : fitA N.view t = true) (g : GT N t d) : fitD d = true := by
  unfold fitA at h
  split at h
  · rename_i n e
    obtain ⟨h1, h2⟩ := depA_ok ok 24 e g
    have := of_decide_eq_true h
    unfold fitD
    rw [h1, Bool.true_and]
    exact decide_eq_true (by omega)
  · cases h
omit ok in
theorem flatA_ok {t : At} {d : D} (h : flatA t = true) (g : GT N t d) : flatD d = true := by
  cases g <;> first | rfl | (simp only [flatA] at h; cases h)
omit ok in
theorem eqB_ok {s t : At} {d e : D} (gs : GT N s d) (gt : GT N t e) : eqv d e ∈ eqB s t := by
  have any : ∀ b : Bool, b ∈ [true, false] := by decide
  unfold eqB
  split
  · cases gs; cases gt; simp only [eqv]; exact List.mem_singleton.mpr rfl
  · cases gs; cases gt
    rename_i i h1 h2 j h3 h4
    simp only [eqv]
    split
    · rename_i hc
      have : i ≠ j := by omega
      simp [this]
    · split
      · rename_i hc
        have : i = j := by omega
        simp [this]
      · exact any _
  all_goals first
    | (cases gs; cases gt; simp only [eqv]; exact List.mem_singleton.mpr rfl)
    | exact any _
theorem eqA_ok {s t : At} {bs : List Bool} {d e : D} (gs : GT N s d) (gt : GT N t e) (h : eqA N.view s t = some bs) : ∃ b, eqD d e = some b ∧ b ∈ bs := by
  unfold eqA at h
  split at h
  · rename_i hc
    cases h
    refine ⟨eqv d e, ?_, eqB_ok gs gt⟩
    unfold eqD
    split
    · rfl
    · rename_i hs
      rw [if_pos]
      rcases Bool.or_eq_true _ _ ▸ hc with hc | hc
      · simp only [Bool.and_eq_true] at hc
        cases gs <;> cases gt <;> first | (exact absurd rfl hs) | (simp only [flatA] at hc; cases hc.1 <;> done) | (simp only [flatA] at hc; cases hc.2 <;> done) | rfl
      · simp only [Bool.and_eq_true] at hc
        rw [fitA_ok ok hc.1 gs, fitA_ok ok hc.2 gt]; rfl
  · cases h
end
end Ofw
/-! Ofw A5: further operations on kinds -/
namespace Ofw
open PySem L2
section
variable {N : Nm} (ok : NmOk N)
include ok
theorem notL_mem {b : Bool} {bs : List Bool} (h : b ∈ bs) : (!b) ∈ notL bs := List.mem_map.mpr ⟨b, h, rfl⟩
omit ok in
theorem any2 (b : Bool) : b ∈ [true, false] := by cases b <;> decide
omit ok in
theorem ltB_ok {a b c d i j : Int} (h1 : a ≤ i) (h2 : i ≤ b) (h3 : c ≤ j) (h4 : j ≤ d) : decide (i < j) ∈ ltB a b c d := by
  unfold ltB
  split
  · rw [decide_eq_true (by omega)]; exact List.mem_singleton.mpr rfl
  · split
    · rw [decide_eq_false (by omega)]; exact List.mem_singleton.mpr rfl
    · exact any2 _
omit ok in
theorem leB_ok {a b c d i j : Int} (h1 : a ≤ i) (h2 : i ≤ b) (h3 : c ≤ j) (h4 : j ≤ d) : decide (i ≤ j) ∈ leB a b c d := by
  unfold leB
  split
  · rw [decide_eq_true (by omega)]; exact List.mem_singleton.mpr rfl
  · split
    · rw [decide_eq_false (by omega)]; exact List.mem_singleton.mpr rfl
    · exact any2 _
omit ok in
theorem ord_ok {op : CmpOp} {s t : At} {bs : List Bool} {d e : D} (gs : GT N s d) (gt : GT N t e) (h : ordA op s t = some bs) : ∃ b, cmpD op d e = some b ∧ b ∈ bs := by
  unfold ordA at h
  split at h
  · cases gs; cases gt
    rename_i i h1 h2 j h3 h4
    split at h <;> first | cases h | skip
    · exact ⟨_, rfl, ltB_ok h1 h2 h3 h4⟩
    · exact ⟨_, rfl, leB_ok h1 h2 h3 h4⟩
    · exact ⟨_, rfl, ltB_ok h3 h4 h1 h2⟩
    · exact ⟨_, rfl, leB_ok h3 h4 h1 h2⟩
  · split at h
    · rename_i hi
      simp only [Bool.and_eq_true] at hi
      obtain ⟨i, rfl⟩ := isInt_ok hi.1 gs
      obtain ⟨j, rfl⟩ := isInt_ok hi.2 gt
      split at h <;> first | cases h | skip
      all_goals exact ⟨_, rfl, any2 _⟩
    · cases h
omit ok in
theorem is_ok {s t : At} {bs : List Bool} {d e : D} (gs : GT N s d) (gt : GT N t e) (h : isA s t = some bs) : ∃ b, cmpD .Is d e = some b ∧ cmpD .IsNot d e = some (!b) ∧ b ∈ bs := by
  unfold isA at h
  split at h
  · cases gt
    split at h
    · cases h; cases gs; exact ⟨true, rfl, rfl, List.mem_singleton.mpr rfl⟩
    · cases h
    · cases h
    · cases h
      cases gs <;> first | exact absurd rfl ‹_› | exact ⟨false, rfl, rfl, List.mem_singleton.mpr rfl⟩ | (exfalso; rename_i h1 h2 h3 _; exact h3 _ _ rfl) | (exfalso; simp_all; done)
  · cases gt
    split at h <;> first | cases h | skip
    · cases gs; exact ⟨true, rfl, rfl, List.mem_singleton.mpr rfl⟩
    · cases gs; exact ⟨false, rfl, rfl, List.mem_singleton.mpr rfl⟩
  · cases gt
    split at h <;> first | cases h | skip
    · cases gs; exact ⟨false, rfl, rfl, List.mem_singleton.mpr rfl⟩
    · cases gs; exact ⟨true, rfl, rfl, List.mem_singleton.mpr rfl⟩
  · cases h
theorem flats_ok {a : Ak} (h : a.all flatA = true) {d : D} (g : GA N a d) : flatD d = true := by
  cases g with
  | mk m g => exact flatA_ok (List.all_eq_true.mp h _ m) g
theorem in_ok {s t : At} {bs : List Bool} {d e : D} (gs : GT N s d) (gt : GT N t e) (h : inA s t = some bs) : ∃ b, cmpD .In d e = some b ∧ cmpD .NotIn d e = some (!b) ∧ b ∈ bs ∧ (!b) ∈ bs := by
  unfold inA at h
  split at h
  · rename_i hf
    have fd := flatA_ok hf gs
    have all : ∀ (a : Ak) (ds : List D), a.all flatA = true → (∀ d, d ∈ ds → GA N a d) → (flatD d && ds.all flatD) = true := fun a ds h1 h2 => by
      rw [fd, Bool.true_and, List.all_eq_true]
      exact fun x hx => flats_ok ok h1 (h2 x hx)
    split at h
    · rename_i e1
      split at h
      · rename_i ha
        cases h
        obtain ⟨ds, rfl, m, _, _⟩ := tupV_ok ok gt e1
        have c := all _ _ ha m
        exact ⟨inD d ds, by simp only [cmpD, c, if_true], by simp only [cmpD, c, if_true], any2 _, any2 _⟩
      · cases h
    · rename_i e1 _
      split at h
      · rename_i ha
        cases h
        obtain ⟨ds, rfl, m, _, _⟩ := lstV_ok ok gt e1
        have c := all _ _ ha m
        exact ⟨inD d ds, by simp only [cmpD, c, if_true], by simp only [cmpD, c, if_true], any2 _, any2 _⟩
      · cases h
    · cases h
  · cases h
theorem cmp_ok {op : CmpOp} {s t : At} {bs : List Bool} {d e : D} (gs : GT N s d) (gt : GT N t e) (h : cmpA N.view op s t = some bs) : ∃ b, cmpD op d e = some b ∧ b ∈ bs := by
  unfold cmpA at h
  split at h
  · obtain ⟨b, e1, m⟩ := eqA_ok ok gs gt h
    exact ⟨b, by simp only [cmpD]; exact e1, m⟩
  · cases hq : eqA N.view s t with
    | none => rw [hq] at h; cases h
    | some cs =>
      rw [hq] at h
      cases h
      obtain ⟨b, e1, m⟩ := eqA_ok ok gs gt hq
      exact ⟨!b, by simp only [cmpD, e1]; rfl, notL_mem ok m⟩
  · obtain ⟨b, e1, _, m⟩ := is_ok gs gt h
    exact ⟨b, e1, m⟩
  · cases hq : isA s t with
    | none => rw [hq] at h; cases h
    | some cs =>
      rw [hq] at h
      cases h
      obtain ⟨b, _, e1, m⟩ := is_ok gs gt hq
      exact ⟨!b, e1, notL_mem ok m⟩
  · obtain ⟨b, e1, _, m, _⟩ := in_ok ok gs gt h
    exact ⟨b, e1, m⟩
  · obtain ⟨b, _, e1, _, m⟩ := in_ok ok gs gt h
    exact ⟨_, e1, m⟩
  · exact ord_ok gs gt h
omit ok in
theorem blA_ok (b : Bool) : GT N (blA b) (.bl b) := by cases b <;> constructor
omit ok in
theorem blsA_ok {b : Bool} {bs : List Bool} (h : b ∈ bs) : GA N (blsA bs) (.bl b) := .mk (List.mem_map.mpr ⟨b, h, rfl⟩) (blA_ok b)
end
/-! ### items -/
def pickA (as : List Ak) (lo hi : Int) : Option Ak :=
  if 0 ≤ lo ∧ hi < as.length then some (joinAs ((as.drop lo.toNat).take (hi - lo + 1).toNat))
  else if lo = hi ∧ lo < 0 ∧ -lo ≤ as.length then as[(lo + as.length).toNat]? else none
def pickN (a : Ak) (l : Nat) (lo hi : Int) : Option Ak := if (0 ≤ lo ∧ hi < l) ∨ (hi < 0 ∧ -lo ≤ l) then some a else none
def idxA (s t : At) : Option Ar := match t with
  | .int lo hi => match s with
    | .tup as => (pickA as lo hi).map fun a => (false, a)
    | .lst as => (pickA as lo hi).map fun a => (false, a)
    | .tupN a l _ => (pickN a l lo hi).map fun a => (false, a)
    | .lstN a l _ => (pickN a l lo hi).map fun a => (false, a)
    | .txt x => if 0 ≤ lo ∧ hi < x.length ∧ PyData.strOk x = true ∧ x.length ≤ sizeLine then some (false, [.str 1]) else none
    | _ => none
  | _ => none
def exB : Option At → Option (Option Int)
  | none => some none
  | some (.int a b) => if a = b then some (some a) else none
  | _ => none
def slcA (s : At) (l h : Option At) : Option Ar :=
  match (match exB l, exB h with
    | some i, some j => (match s with
      | .tup as => some (false, [At.tup (cutD as i j)])
      | .lst as => some (true, [At.lst (cutD as i j)])
      | _ => none)
    | _, _ => none) with
  | some r => some r
  | none => match tupV s with
    | some (a, _, m) => some (false, [.tupN a 0 m])
    | none => match lstV s with
      | some (a, _, m) => some (true, [.lstN a 0 m])
      | none => match txtV s with
        | some n => if n ≤ sizeLine then some (false, [.str n]) else none
        | none => match s with
          | .scr => some (true, [.lstN [.big] 0 63])
          | _ => none
def lenA (s : At) : Option Ar := match s with
  | .txt x => if x.length ≤ sizeLine then some (false, [.int x.length x.length]) else none
  | .str n => if n ≤ sizeLine then some (false, [.int 0 n]) else none
  | .scr => some (false, [.int 0 63])
  | .dic => some (false, [.int 0 0])
  | s => match tupV s with
    | some (_, l, h) => some (false, [.int l h])
    | none => match lstV s with
      | some (_, l, h) => some (false, [.int l h])
      | none => none
def isiA (T : Ty) (s : At) : Option Bool := match s with
  | .non => some false
  | .tr => some (match T with | .bool => true | .int => true | _ => false)
  | .fa => some (match T with | .bool => true | .int => true | _ => false)
  | .big => some (match T with | .int => true | _ => false)
  | .int _ _ => some (match T with | .int => true | _ => false)
  | .str _ => some (match T with | .str => true | _ => false)
  | .txt _ => some (match T with | .str => true | _ => false)
  | .tup _ => some (match T with | .tuple => true | _ => false)
  | .tupN _ _ _ => some (match T with | .tuple => true | _ => false)
  | .lst _ => some (match T with | .list => true | _ => false)
  | .lstN _ _ _ => some (match T with | .list => true | _ => false)
  | .scr => some (match T with | .list => true | _ => false)
  | .dic => some (match T with | .dict => true | _ => false)
  | .nam _ _ => none
def isBlA : At → Bool
  | .tr => true | .fa => true
  | _ => false
/-- the greatest length of texts -/
def txtsV : Ak → Option Nat
  | [] => some 0
  | t :: r => match txtV t, txtsV r with
    | some n, some m => some (max n m)
    | _, _ => none
def op1A (t : Tag) (s : At) : Option Ar := match t with
  | .neg => match s with
    | .int a b => some (false, [.int (-b) (-a)])
    | .big => some (false, [.big])
    | _ => none
  | .abs1 => match s with
    | .int a b => some (false, [.int 0 (max (-a) b)])
    | .big => some (false, [.big])
    | _ => none
  | .len => lenA s
  | .int1 => match s with
    | .tr => some (false, [.int 1 1])
    | .fa => some (false, [.int 0 0])
    | .int a b => some (false, [.int a b])
    | .big => some (false, [.big])
    | _ => none
  | .isi T => (isiA T s).map fun b => (false, [blA b])
  | .all1 => match lstV s with
    | some (a, _, _) => if a.all isBlA then some (false, bothA) else none
    | none => none
  | .any1 => match lstV s with
    | some (a, _, _) => if a.all isBlA then some (false, bothA) else none
    | none => none
  | .sorted1 => match lstV s with
    | some (a, l, h) => if a.all isIntA then some (true, [.lstN a l h]) else none
    | none => none
  | .tuple1 => match s with
    | .lst as => some (false, [.tup as])
    | .lstN a l h => some (false, [.tupN a l h])
    | .tup as => some (false, [.tup as])
    | .tupN a l h => some (false, [.tupN a l h])
    | _ => none
  | .list1 => match s with
    | .lst as => some (true, [.lst as])
    | .lstN a l h => some (true, [.lstN a l h])
    | .tup as => some (true, [.lst as])
    | .tupN a l h => some (true, [.lstN a l h])
    | .scr => some (true, [.lstN [.big] 0 63])
    | _ => none
  | .join sep => if sep.length = 0 ∧ sep = "" then match lstV s with
      | some (a, _, h) => match txtsV a with
        | some k => if k * h ≤ 16777216 then some (false, [.str (k * h)]) else none
        | none => none
      | none => none
    else none
  | _ => none
def op2A (N : Vw) (t : Tag) (s u : At) : Option Ar := match t with
  | .bin op => binA op s u
  | .cmp op => (cmpA N op s u).map fun bs => (false, blsA bs)
  | .idx => idxA s u
  | .slc true false => match u with
    | .int _ _ => slcA s (some u) none
    | _ => none
  | .slc false true => match u with
    | .int _ _ => slcA s none (some u)
    | _ => none
  | .min2 => match s, u with
    | .int a b, .int c d => some (false, [.int (min a c) (min b d)])
    | _, _ => if isIntA s && isIntA u then some (false, [.big]) else none
  | .max2 => match s, u with
    | .int a b, .int c d => some (false, [.int (max a c) (max b d)])
    | _, _ => if isIntA s && isIntA u then some (false, [.big]) else none
  | _ => none
def op3A (t : Tag) (s u v : At) : Option Ar := match t with
  | .slc true true => match u, v with
    | .int _ _, .int _ _ => slcA s (some u) (some v)
    | _, _ => none
  | _ => none
section
variable {N : Nm} (ok : NmOk N)
include ok
theorem pickA_ok {as : List Ak} {ds : List D} {lo hi i : Int} {a : Ak} (g : GL N as ds) (h : pickA as lo hi = some a) (h1 : lo ≤ i) (h2 : i ≤ hi) : ∃ d, ixD ds i = some d ∧ GA N a d := by
  have hl := g.len
  unfold pickA at h
  split at h
  · rename_i hc
    cases h
    have hi' : i.toNat < as.length := by omega
    obtain ⟨d, hd, ga⟩ := g.get (List.getElem?_eq_getElem hi')
    refine ⟨d, ?_, joins_ok ok ?_ ga⟩
    · unfold ixD atI ixN
      rw [if_pos (by omega), if_pos (by omega)]
      exact hd
    · have e : ((as.drop lo.toNat).take (hi - lo + 1).toNat)[(i - lo).toNat]? = some as[i.toNat] := by
        rw [List.getElem?_take, if_pos (by omega), List.getElem?_drop, show lo.toNat + (i - lo).toNat = i.toNat by omega]
        exact List.getElem?_eq_getElem hi'
      exact List.mem_of_getElem? e
  · split at h
    · rename_i hc
      obtain ⟨d, hd, ga⟩ := g.get h
      refine ⟨d, ?_, ga⟩
      unfold ixD atI ixN
      have ei : i = lo := by omega
      rw [if_neg (by omega), if_pos (by omega), ei, ← hl]
      exact hd
    · cases h
omit ok in
theorem pickN_ok {a b : Ak} {ds : List D} {l : Nat} {lo hi i : Int} (g : ∀ d, d ∈ ds → GA N a d) (hl : l ≤ ds.length) (h : pickN a l lo hi = some b) (h1 : lo ≤ i) (h2 : i ≤ hi) : ∃ d, ixD ds i = some d ∧ GA N b d := by
  unfold pickN at h
  split at h
  · rename_i hc
    cases h
    rcases hc with hc | hc
    · have hi' : i.toNat < ds.length := by omega
      refine ⟨ds[i.toNat], ?_, g _ (List.getElem_mem hi')⟩
      unfold ixD atI ixN
      rw [if_pos (by omega), if_pos (by omega)]
      exact List.getElem?_eq_getElem hi'
    · have hi' : (i + ds.length).toNat < ds.length := by omega
      refine ⟨ds[(i + ds.length).toNat], ?_, g _ (List.getElem_mem hi')⟩
      unfold ixD atI ixN
      rw [if_neg (by omega), if_pos (by omega)]
      exact List.getElem?_eq_getElem hi'
  · cases h
theorem idx_ok {s t : At} {x : Ar} {d e : D} (gs : GT N s d) (gt : GT N t e) (h : idxA s t = some x) : ∃ r, prIdx [d, e] = some r ∧ GR N x r := by
  unfold idxA at h
  split at h
  · cases gt
    rename_i i h1 h2
    split at h
    · obtain ⟨a, hx, rfl⟩ := Option.map_eq_some_iff.mp h
      cases gs
      obtain ⟨d, hd, ga⟩ := pickA_ok ok ‹_› hx h1 h2
      exact ⟨_, by simp only [prIdx, hd]; rfl, .val ga⟩
    · obtain ⟨a, hx, rfl⟩ := Option.map_eq_some_iff.mp h
      cases gs
      obtain ⟨d, hd, ga⟩ := pickA_ok ok ‹_› hx h1 h2
      exact ⟨_, by simp only [prIdx, hd]; rfl, .val ga⟩
    · obtain ⟨a, hx, rfl⟩ := Option.map_eq_some_iff.mp h
      cases gs
      obtain ⟨d, hd, ga⟩ := pickN_ok ‹_› ‹_› hx h1 h2
      exact ⟨_, by simp only [prIdx, hd]; rfl, .val ga⟩
    · obtain ⟨a, hx, rfl⟩ := Option.map_eq_some_iff.mp h
      cases gs
      obtain ⟨d, hd, ga⟩ := pickN_ok ‹_› ‹_› hx h1 h2
      exact ⟨_, by simp only [prIdx, hd]; rfl, .val ga⟩
    · rename_i z
      split at h
      · rename_i hc
        cases h
        cases gs
        obtain ⟨q, eq, hq⟩ := ix_in (xs := z.cps.toList) (i := i) (by omega) (by rw [Array.length_toList]; show i < (z.length : Int); omega)
        have tz : Tx z.length z := ⟨Nat.le_refl _, hc.2.2.1⟩
        exact ⟨_, by simp only [prIdx, hc.2.2.2, if_true, eq]; rfl, .val (.one (.str (tz.char hq)))⟩
      · cases h
    · cases h
  · cases h
omit ok in
theorem cut_mem {α : Type} {xs : List α} {i j : Option Int} {x : α} (h : x ∈ cutD xs i j) : x ∈ xs := List.mem_of_mem_drop (List.mem_of_mem_take h)
omit ok in
theorem cut_len {α : Type} (xs : List α) (i j : Option Int) : (cutD xs i j).length ≤ xs.length := by
  unfold cutD
  rw [List.length_take, List.length_drop]
  omega
omit ok in
theorem cut_GL {as : List Ak} {ds : List D} (g : GL N as ds) (i j : Option Int) : GL N (cutD as i j) (cutD ds i j) := by
  unfold cutD
  rw [g.len]
  exact (g.drop _).take _
/-- an end of a slice that an int stands for -/
def InB (o : Option At) (i : Option Int) : Prop := match o, i with
  | none, none => True
  | some t, some i => GT N t (.int i)
  | _, _ => False
omit ok in
theorem exB_ok {o : Option At} {i k : Option Int} (g : InB (N := N) o i) (h : exB o = some k) : k = i := by
  cases o with
  | none => cases i <;> first | (cases h; rfl) | exact g.elim
  | some t =>
    cases i with
    | none => exact g.elim
    | some i =>
      have g : GT N t (.int i) := g
      cases t <;> simp only [exB, reduceCtorEq] at h
      split at h
      · cases h; cases g; rename_i h1 h2 he; exact congrArg some (by omega)
      · cases h
theorem slc_ok {s : At} {l h : Option At} {x : Ar} {d : D} {i j : Option Int} (gs : GT N s d) (gl : InB (N := N) l i) (gh : InB (N := N) h j) (e : slcA s l h = some x) : ∃ r, slcD d i j = some r ∧ GR N x r := by
  unfold slcA at e
  split at e
  · rename_i q hq
    cases e
    split at hq
    · rename_i i' j' e1 e2
      obtain rfl := exB_ok gl e1
      obtain rfl := exB_ok gh e2
      split at hq <;> cases hq
      · cases gs
        exact ⟨_, rfl, .val (.one (.tup (cut_GL ‹_› _ _)))⟩
      · cases gs
        exact ⟨_, rfl, .fr (.one (.lst (cut_GL ‹_› _ _)))⟩
    · cases hq
  · split at e
    · rename_i e1
      cases e
      obtain ⟨ds, rfl, m, _, hh⟩ := tupV_ok ok gs e1
      exact ⟨_, rfl, .val (.one (.tupN (fun d hd => m d (cut_mem hd)) (Nat.zero_le _) (Nat.le_trans (cut_len _ _ _) hh)))⟩
    · split at e
      · rename_i e1
        cases e
        obtain ⟨ds, rfl, m, _, hh⟩ := lstV_ok ok gs e1
        exact ⟨_, rfl, .fr (.one (.lstN (fun d hd => m d (cut_mem hd)) (Nat.zero_le _) (Nat.le_trans (cut_len _ _ _) hh)))⟩
      · split at e
        · rename_i n e1
          split at e
          · rename_i hz
            cases e
            obtain ⟨u, rfl, tu⟩ := txtV_ok gs e1
            have : u.length ≤ sizeLine := Nat.le_trans tu.1 hz
            exact ⟨_, by simp only [slcD, this, if_true]; rfl, .val (.one (.str (tu.cut _ _)))⟩
          · cases e
        · split at e <;> cases e
          cases gs
          rename_i hn
          refine ⟨_, rfl, .fr (.one (.lstN (fun d hd => ?_) (Nat.zero_le _) ?_))⟩
          · obtain ⟨z, _, rfl⟩ := List.mem_map.mp hd
            exact .one (.big z)
          · rw [List.length_map]; exact Nat.le_trans (cut_len _ _ _) hn
end
end Ofw
/-! Ofw A6: operations on kinds, all together -/
namespace Ofw
open PySem L2
def allR (f : At → Option Ar) : Ak → Option Ar
  | [] => none
  | s :: r => match r with
    | [] => f s
    | _ :: _ => match f s, allR f r with
      | some x, some y => if x.1 == y.1 then some (x.1, joinA x.2 y.2) else none
      | _, _ => none
def expA (N : Vw) (a : Ak) : Ak := a.flatMap fun t => match t with
  | .nam k c => N k c
  | t => [t]
def opG (N : Vw) (t : Tag) (as : List Ak) : Option Ar := match as with
  | [a] => allR (fun s => op1A t s) (expA N a)
  | [a, b] => allR (fun s => allR (fun u => op2A N t s u) (expA N b)) (expA N a)
  | [a, b, c] => allR (fun s => allR (fun u => allR (fun v => op3A t s u v) (expA N c)) (expA N b)) (expA N a)
  | _ => none
def opA (N : Vw) (t : Tag) (as : List Ak) : Option Ar := match t with
  | .tup => if as.length ≤ sizeLine then some (false, [.tup as]) else none
  | .lst => if as.length ≤ sizeLine then some (true, [.lst as]) else none
  | .dic 0 => if as.isEmpty then some (true, [.dic]) else none
  | t => opG N t as
def truT : At → Option (List Bool)
  | .non => some [false]
  | .tr => some [true]
  | .fa => some [false]
  | .big => some [true, false]
  | .int a b => if 0 < a ∨ b < 0 then some [true] else if a = 0 ∧ b = 0 then some [false] else some [true, false]
  | .str n => if n ≤ sizeLine then some [true, false] else none
  | .txt x => if x.length ≤ sizeLine then some [(x.length : Int) != 0] else none
  | .tup as => some [!as.isEmpty]
  | .lst as => some [!as.isEmpty]
  | .tupN _ l _ => if 0 < l then some [true] else some [true, false]
  | .lstN _ l _ => if 0 < l then some [true] else some [true, false]
  | .scr => some [true, false]
  | .dic => none
  | .nam _ _ => none
def trusT : Ak → Option (List Bool)
  | [] => some []
  | t :: r => match truT t, trusT r with
    | some x, some y => some (x ++ y)
    | _, _ => none
def truA (N : Vw) (a : Ak) : Option (List Bool) := trusT (expA N a)
section
variable {N : Nm} (ok : NmOk N)
include ok
theorem allR_ok {f : At → Option Ar} : ∀ {a : Ak} {x : Ar}, allR f a = some x → ∀ {t : At}, t ∈ a → ∃ y, f t = some y ∧ y.1 = x.1 ∧ ∀ d, GA N y.2 d → GA N x.2 d
  | [], _, h, _, _ => by cases h
  | [s], x, h, t, ht => by
    have h : f s = some x := h
    rw [List.mem_singleton.mp ht]
    exact ⟨x, h, rfl, fun _ g => g⟩
  | s :: u :: r, x, h, t, ht => by
    have h : (match f s, allR f (u :: r) with
      | some x, some y => if x.1 == y.1 then some (x.1, joinA x.2 y.2) else none
      | _, _ => none) = some x := h
    cases e1 : f s with
    | none => rw [e1] at h; cases h
    | some y =>
      cases e2 : allR f (u :: r) with
      | none => rw [e1, e2] at h; cases h
      | some z =>
        rw [e1, e2] at h
        simp only at h
        split at h
        · rename_i hb
          have hb := eq_of_beq hb
          cases h
          rcases List.mem_cons.mp ht with rfl | ht
          · exact ⟨y, e1, rfl, fun d g => (join_ok ok).1 g⟩
          · obtain ⟨w, e3, e4, hw⟩ := allR_ok e2 ht
            exact ⟨w, e3, by rw [e4]; exact hb.symm, fun d g => (join_ok ok).2 (hw d g)⟩
        · cases h
theorem expA_ok {a : Ak} {d : D} (g : GA N a d) : GA N (expA N.view a) d := by
  cases g with
  | mk m g =>
    rename_i t
    by_cases hn : ∃ k c, t = .nam k c
    · obtain ⟨k, c, rfl⟩ := hn
      cases g with
      | nam g => exact (ok.view k c d g).sub fun u hu => List.mem_flatMap.mpr ⟨_, m, hu⟩
    · refine .mk (List.mem_flatMap.mpr ⟨t, m, ?_⟩) g
      cases t <;> first | exact List.mem_singleton.mpr rfl | exact absurd ⟨_, _, rfl⟩ hn
omit ok in
theorem GR.up {x y : Ar} {r : Rs} (g : GR N y r) (e : y.1 = x.1) (h : ∀ d, GA N y.2 d → GA N x.2 d) : GR N x r := ⟨by rw [← e]; exact g.1, h _ g.2⟩
theorem all1_ok {f : At → Option Ar} {a : Ak} {x : Ar} {d : D} {P : Rs → Prop} (h : allR f a = some x) (g : GA N a d) (s : ∀ t y, GT N t d → f t = some y → ∃ r, P r ∧ GR N y r) : ∃ r, P r ∧ GR N x r := by
  cases g with
  | mk m g =>
    obtain ⟨y, e1, e2, hy⟩ := allR_ok ok h m
    obtain ⟨r, hp, gr⟩ := s _ y g e1
    exact ⟨r, hp, gr.up e2 hy⟩
theorem len_ok {s : At} {x : Ar} {d : D} (g : GT N s d) (h : lenA s = some x) : ∃ r, prLen [d] = some r ∧ GR N x r := by
  unfold lenA at h
  split at h
  · split at h
    · cases h; cases g; exact ⟨_, by simp only [prLen, if_pos ‹_›], .val (.one (.int (Int.le_refl _) (Int.le_refl _)))⟩
    · cases h
  · split at h
    · rename_i hz
      cases h; cases g
      rename_i z tx
      have : z.length ≤ sizeLine := Nat.le_trans tx.1 hz
      exact ⟨.val (.int z.length), by simp only [prLen, if_pos this], .val (.one (.int (by omega) (by have := tx.1; omega)))⟩
    · cases h
  · cases h; cases g; exact ⟨_, rfl, .val (.one (.int (by omega) (by omega)))⟩
  · cases h; cases g; exact ⟨_, rfl, .val (.one (.int (Int.le_refl _) (Int.le_refl _)))⟩
  · split at h
    · rename_i e
      cases h
      obtain ⟨ds, rfl, _, h1, h2⟩ := tupV_ok ok g e
      exact ⟨_, rfl, .val (.one (.int (by omega) (by omega)))⟩
    · split at h
      · rename_i e
        cases h
        obtain ⟨ds, rfl, _, h1, h2⟩ := lstV_ok ok g e
        exact ⟨_, rfl, .val (.one (.int (by omega) (by omega)))⟩
      · cases h
omit ok in
theorem isi_ok {T : Ty} {s : At} {b : Bool} {d : D} (g : GT N s d) (h : isiA T s = some b) : isiD T d = b := by
  cases g <;> simp only [isiA, Option.some.injEq, reduceCtorEq] at h <;> subst h <;> cases T <;> rfl
omit ok in
theorem bls_of {a : Ak} (ha : a.all isBlA = true) : ∀ {ds : List D}, (∀ d, d ∈ ds → GA N a d) → ∃ bs, blsD ds = some bs
  | [], _ => ⟨[], rfl⟩
  | d :: ds, h => by
    obtain ⟨bs, e⟩ := bls_of ha (ds := ds) fun d hd => h d (List.mem_cons_of_mem _ hd)
    cases h d List.mem_cons_self with
    | mk m g =>
      have hb := List.all_eq_true.mp ha _ m
      cases g <;> first | (exact ⟨_ :: bs, by simp only [blsD, e]; rfl⟩) | (simp only [isBlA] at hb; cases hb)
omit ok in
theorem ints_of' {a : Ak} (ha : a.all isIntA = true) : ∀ {ds : List D}, (∀ d, d ∈ ds → GA N a d) → ∃ bs, intsD ds = some bs
  | [], _ => ⟨[], rfl⟩
  | d :: ds, h => by
    obtain ⟨bs, e⟩ := ints_of' ha (ds := ds) fun d hd => h d (List.mem_cons_of_mem _ hd)
    cases h d List.mem_cons_self with
    | mk m g =>
      obtain ⟨i, rfl⟩ := isInt_ok (List.all_eq_true.mp ha _ m) g
      exact ⟨i :: bs, by simp only [intsD, e]; rfl⟩
omit ok in
theorem txts_ok : ∀ {a : Ak} {k : Nat}, txtsV a = some k → ∀ {d : D}, GA N a d → IsTx k d
  | [], _, _, _, g => by cases g with | mk m _ => cases m
  | t :: r, k, h, d, g => by
    simp only [txtsV] at h
    cases e1 : txtV t with
    | none => rw [e1] at h; cases h
    | some n =>
      cases e2 : txtsV r with
      | none => rw [e1, e2] at h; cases h
      | some m =>
        rw [e1, e2] at h
        cases h
        cases g with
        | mk mm g =>
          rcases List.mem_cons.mp mm with rfl | mm
          · obtain ⟨x, rfl, tx⟩ := txtV_ok g e1
            exact ⟨x, rfl, tx.mono (Nat.le_max_left _ _)⟩
          · obtain ⟨x, rfl, tx⟩ := txts_ok e2 (.mk mm g)
            exact ⟨x, rfl, tx.mono (Nat.le_max_right _ _)⟩
omit ok in
theorem both_ok (b : Bool) : GA N bothA (.bl b) := by
  cases b
  · exact .mk (List.mem_cons_of_mem _ List.mem_cons_self) .fa
  · exact .mk List.mem_cons_self .tr
theorem op1_ok {t : Tag} {s : At} {x : Ar} {d : D} (g : GT N s d) (h : op1A t s = some x) : ∃ r, primD t [d] = some r ∧ GR N x r := by
  unfold op1A at h
  split at h
  · split at h <;> cases h <;> cases g
    · exact ⟨_, rfl, .val (.one (.int (by omega) (by omega)))⟩
    · exact ⟨_, rfl, .val (.one (.big _))⟩
  · split at h <;> cases h <;> cases g
    · exact ⟨_, rfl, .val (.one (.int (by split <;> omega) (by split <;> omega)))⟩
    · exact ⟨_, rfl, .val (.one (.big _))⟩
  · exact len_ok ok g h
  · split at h <;> cases h <;> cases g
    · exact ⟨_, rfl, .val (.one (.int (by decide) (by decide)))⟩
    · exact ⟨_, rfl, .val (.one (.int (by decide) (by decide)))⟩
    · exact ⟨_, rfl, .val (.one (.int ‹_› ‹_›))⟩
    · exact ⟨_, rfl, .val (.one (.big _))⟩
  · obtain ⟨b, hb, rfl⟩ := Option.map_eq_some_iff.mp h
    have e := isi_ok g hb
    exact ⟨_, rfl, .val (.one (by rw [e]; exact blA_ok b))⟩
  · split at h
    · rename_i e
      split at h
      · cases h
        obtain ⟨ds, rfl, m, _, _⟩ := lstV_ok ok g e
        obtain ⟨bs, eb⟩ := bls_of ‹_› m
        exact ⟨.val (.bl (bs.all id)), by show prAll1 [.lst ds] = _; simp only [prAll1, eb]; rfl, .val (both_ok _)⟩
      · cases h
    · cases h
  · split at h
    · rename_i e
      split at h
      · cases h
        obtain ⟨ds, rfl, m, _, _⟩ := lstV_ok ok g e
        obtain ⟨bs, eb⟩ := bls_of ‹_› m
        exact ⟨.val (.bl (bs.any id)), by show prAny1 [.lst ds] = _; simp only [prAny1, eb]; rfl, .val (both_ok _)⟩
      · cases h
    · cases h
  · split at h
    · rename_i e
      split at h
      · cases h
        obtain ⟨ds, rfl, m, h1, h2⟩ := lstV_ok ok g e
        obtain ⟨ns, en⟩ := ints_of' ‹_› m
        have ed := intsD_ok en
        subst ed
        have lp := (sortI_perm ns).length_eq
        simp only [List.length_map] at h1 h2
        refine ⟨.fr (.lst ((sortI ns).map D.int)), by simp only [primD, prSorted1, en, Option.map_some], .fr (.one (.lstN (fun d hd => ?_) (by simp; omega) (by simp; omega)))⟩
        obtain ⟨i, hi, rfl⟩ := List.mem_map.mp hd
        exact m _ (List.mem_map.mpr ⟨i, (sortI_perm ns).mem_iff.mp hi, rfl⟩)
      · cases h
    · cases h
  · split at h <;> cases h <;> cases g
    · exact ⟨_, rfl, .val (.one (.tup ‹_›))⟩
    · exact ⟨_, rfl, .val (.one (.tupN ‹_› ‹_› ‹_›))⟩
    · exact ⟨_, rfl, .val (.one (.tup ‹_›))⟩
    · exact ⟨_, rfl, .val (.one (.tupN ‹_› ‹_› ‹_›))⟩
  · split at h <;> cases h <;> cases g
    · exact ⟨_, rfl, .fr (.one (.lst ‹_›))⟩
    · exact ⟨_, rfl, .fr (.one (.lstN ‹_› ‹_› ‹_›))⟩
    · exact ⟨_, rfl, .fr (.one (.lst ‹_›))⟩
    · exact ⟨_, rfl, .fr (.one (.lstN ‹_› ‹_› ‹_›))⟩
    · refine ⟨_, rfl, .fr (.one (.lstN (fun d hd => ?_) (Nat.zero_le _) (by simpa using ‹_›)))⟩
      obtain ⟨z, _, rfl⟩ := List.mem_map.mp hd
      exact .one (.big z)
  · rename_i sep
    split at h
    · rename_i hsep
      split at h
      · rename_i e
        split at h
        · rename_i k ek
          split at h
          · rename_i hz
            cases h
            obtain ⟨ds, rfl, m, _, h2⟩ := lstV_ok ok g e
            obtain ⟨ys, rfl, es, hys⟩ := strs_of fun d hd => txts_ok ek (m d hd)
            obtain ⟨h0, rfl⟩ := hsep
            rw [List.length_map] at h2
            have le : k * ys.length ≤ k * _ := Nat.mul_le_mul_left k h2
            have c := tx_sum hys
            have cJ : (ys.map (·.length)).sum + ys.length * ("" : Str).length ≤ 16777216 := by rw [h0]; omega
            exact ⟨.val (.str (Txt.join "" ys)), by show prJoin "" [.lst (ys.map D.str)] = _; simp only [prJoin, es, Option.bind_some]; rw [if_pos cJ], .val (.one (.str ((Tx.join0 hys).mono le)))⟩
          · cases h
        · cases h
      · cases h
    · cases h
  · cases h
theorem op2_ok {t : Tag} {s u : At} {x : Ar} {d e : D} (gs : GT N s d) (gu : GT N u e) (h : op2A N.view t s u = some x) : ∃ r, primD t [d, e] = some r ∧ GR N x r := by
  unfold op2A at h
  split at h
  · exact bin_ok ok gs gu h
  · obtain ⟨bs, hb, rfl⟩ := Option.map_eq_some_iff.mp h
    obtain ⟨b, e1, m⟩ := cmp_ok ok gs gu hb
    exact ⟨.val (.bl b), by show prCmp _ [d, e] = _; simp only [prCmp, e1]; rfl, .val (blsA_ok m)⟩
  · exact idx_ok ok gs gu h
  · split at h
    · rename_i a b
      obtain ⟨i, rfl⟩ := isInt_ok (s := .int a b) rfl gu
      obtain ⟨r, e1, gr⟩ := slc_ok ok (l := some (.int a b)) (h := none) (i := some i) (j := none) gs gu trivial h
      exact ⟨r, e1, gr⟩
    · cases h
  · split at h
    · rename_i a b
      obtain ⟨i, rfl⟩ := isInt_ok (s := .int a b) rfl gu
      obtain ⟨r, e1, gr⟩ := slc_ok ok (l := none) (h := some (.int a b)) (i := none) (j := some i) gs trivial gu h
      exact ⟨r, e1, gr⟩
    · cases h
  · split at h
    · cases h; cases gs; cases gu
      exact ⟨_, rfl, .val (.one (.int (by split <;> omega) (by split <;> omega)))⟩
    · split at h
      · rename_i hc
        simp only [Bool.and_eq_true] at hc
        cases h
        obtain ⟨i, rfl⟩ := isInt_ok hc.1 gs
        obtain ⟨j, rfl⟩ := isInt_ok hc.2 gu
        exact ⟨_, rfl, .val (.one (.big _))⟩
      · cases h
  · split at h
    · cases h; cases gs; cases gu
      exact ⟨_, rfl, .val (.one (.int (by split <;> omega) (by split <;> omega)))⟩
    · split at h
      · rename_i hc
        simp only [Bool.and_eq_true] at hc
        cases h
        obtain ⟨i, rfl⟩ := isInt_ok hc.1 gs
        obtain ⟨j, rfl⟩ := isInt_ok hc.2 gu
        exact ⟨_, rfl, .val (.one (.big _))⟩
      · cases h
  · cases h
theorem op3_ok {t : Tag} {s u v : At} {x : Ar} {d e f : D} (gs : GT N s d) (gu : GT N u e) (gv : GT N v f) (h : op3A t s u v = some x) : ∃ r, primD t [d, e, f] = some r ∧ GR N x r := by
  unfold op3A at h
  split at h
  · split at h
    · rename_i a b a' b'
      obtain ⟨i, rfl⟩ := isInt_ok (s := .int a b) rfl gu
      obtain ⟨j, rfl⟩ := isInt_ok (s := .int a' b') rfl gv
      obtain ⟨r, e1, gr⟩ := slc_ok ok (l := some (.int a b)) (h := some (.int a' b')) (i := some i) (j := some j) gs gu gv h
      exact ⟨r, e1, gr⟩
    · cases h
  · cases h
theorem opG_ok {t : Tag} {as : List Ak} {ds : List D} {x : Ar} (g : GL N as ds) (h : opG N.view t as = some x) : ∃ r, primD t ds = some r ∧ GR N x r := by
  cases g with
  | nil => cases h
  | cons g1 g => cases g with
    | nil => exact all1_ok ok h (expA_ok ok g1) fun s y gs hs => op1_ok ok gs hs
    | cons g2 g => cases g with
      | nil => exact all1_ok ok h (expA_ok ok g1) fun s y gs hs => all1_ok ok hs (expA_ok ok g2) fun u z gu hu => op2_ok ok gs gu hu
      | cons g3 g => cases g with
        | nil => exact all1_ok ok h (expA_ok ok g1) fun s y gs hs => all1_ok ok hs (expA_ok ok g2) fun u z gu hu => all1_ok ok hu (expA_ok ok g3) fun v w gv hv => op3_ok ok gs gu gv hv
        | cons _ _ => cases h
/-- an operation on things of these kinds -/
theorem opA_ok {t : Tag} {as : List Ak} {ds : List D} {x : Ar} (g : GL N as ds) (h : opA N.view t as = some x) : ∃ r, primD t ds = some r ∧ GR N x r := by
  unfold opA at h
  split at h
  · split at h
    · cases h
      have := g.len
      exact ⟨.val (.tup ds), by show prTup ds = _; unfold prTup; rw [if_pos (by omega)], .val (.one (.tup g))⟩
    · cases h
  · split at h
    · cases h
      have := g.len
      exact ⟨.fr (.lst ds), by show prLst ds = _; unfold prLst; rw [if_pos (by omega)], .fr (.one (.lst g))⟩
    · cases h
  · split at h
    · rename_i he
      cases h
      cases g with
      | nil => exact ⟨_, rfl, .fr (.one .dic)⟩
      | cons _ _ => cases he
    · cases h
  · exact opG_ok ok g h
omit ok in
theorem truT_ok {t : At} {bs : List Bool} {d : D} (g : GT N t d) (h : truT t = some bs) : ∃ b, truD d = some b ∧ b ∈ bs := by
  have sg : ∀ b : Bool, b ∈ [b] := fun b => List.mem_singleton.mpr rfl
  cases g <;> simp only [truT, Option.some.injEq, reduceCtorEq] at h
  · subst h; exact ⟨_, rfl, sg _⟩
  · subst h; exact ⟨_, rfl, sg _⟩
  · subst h; exact ⟨_, rfl, sg _⟩
  · subst h; exact ⟨_, rfl, any2 _⟩
  · rename_i i h1 h2
    split at h
    · cases h
      have : i ≠ 0 := by omega
      exact ⟨_, rfl, by rw [show (i != 0) = true by simpa using this]; exact sg _⟩
    · split at h
      · cases h
        have : i = 0 := by omega
        exact ⟨_, rfl, by rw [this]; decide⟩
      · cases h; exact ⟨_, rfl, any2 _⟩
  · rename_i z tx
    split at h
    · cases h
      have : z.length ≤ sizeLine := Nat.le_trans tx.1 ‹_›
      exact ⟨(z.length : Int) != 0, by simp only [truD, if_pos this], any2 _⟩
    · cases h
  · split at h
    · cases h
      exact ⟨_, by simp only [truD, if_pos ‹_›], sg _⟩
    · cases h
  · rename_i g
    subst h
    have e := g.len
    refine ⟨_, rfl, List.mem_singleton.mpr ?_⟩
    cases g <;> rfl
  · rename_i g
    subst h
    have e := g.len
    refine ⟨_, rfl, List.mem_singleton.mpr ?_⟩
    cases g <;> rfl
  · rename_i ds g h1 h2
    split at h
    · cases h
      refine ⟨_, rfl, List.mem_singleton.mpr ?_⟩
      cases ds with
      | nil => simp at h1; omega
      | cons _ _ => rfl
    · cases h; exact ⟨_, rfl, any2 _⟩
  · rename_i ds g h1 h2
    split at h
    · cases h
      refine ⟨_, rfl, List.mem_singleton.mpr ?_⟩
      cases ds with
      | nil => simp at h1; omega
      | cons _ _ => rfl
    · cases h; exact ⟨_, rfl, any2 _⟩
  · subst h; exact ⟨_, rfl, any2 _⟩
omit ok in
theorem trusT_ok : ∀ {a : Ak} {bs : List Bool} {d : D}, GA N a d → trusT a = some bs → ∃ b, truD d = some b ∧ b ∈ bs
  | [], _, _, g, _ => by cases g with | mk m _ => cases m
  | t :: r, bs, d, g, h => by
    simp only [trusT] at h
    cases e1 : truT t with
    | none => rw [e1] at h; cases h
    | some x =>
      cases e2 : trusT r with
      | none => rw [e1, e2] at h; cases h
      | some y =>
        rw [e1, e2] at h
        cases h
        cases g with
        | mk m g =>
          rcases List.mem_cons.mp m with rfl | m
          · obtain ⟨b, eb, mb⟩ := truT_ok g e1
            exact ⟨b, eb, List.mem_append_left _ mb⟩
          · obtain ⟨b, eb, mb⟩ := trusT_ok (.mk m g) e2
            exact ⟨b, eb, List.mem_append_right _ mb⟩
theorem truA_ok {a : Ak} {bs : List Bool} {d : D} (g : GA N a d) (h : truA N.view a = some bs) : ∃ b, truD d = some b ∧ b ∈ bs := trusT_ok (expA_ok ok g) h
end
end Ofw
/-! Ofw A7: slots of kinds; expressions -/
namespace Ofw
open PySem L2
inductive As where
  | emp | val (a : Ak) | own (a : Ak) | bor (a : Ak) | sh (a : Ak) | fre | top
abbrev Ae := List As
section
variable (N : Nm)
inductive GS : As → Sl → Prop where
  | emp : GS .emp .emp
  | val {a : Ak} {d : D} : GA N a d → GS (.val a) (.val d)
  | own {a : Ak} {d : D} : GA N a d → GS (.own a) (.own d)
  | bor {a : Ak} {d : D} : GA N a d → GS (.bor a) (.bor d)
  | shV {a : Ak} {d : D} : GA N a d → GS (.sh a) (.val d)
  | shO {a : Ak} {d : D} : GA N a d → GS (.sh a) (.own d)
  | freE : GS .fre .emp
  | freV {d : D} : GS .fre (.val d)
  | topE : GS .top .emp
  | topV {d : D} : GS .top (.val d)
  | topO {d : D} : GS .top (.own d)
inductive GE : Ae → En → Prop where
  | nil : GE [] []
  | cons {s : As} {t : Sl} {ae : Ae} {env : En} : GS N s t → GE ae env → GE (s :: ae) (t :: env)
end
section
variable {N : Nm}
theorem GE.len : ∀ {ae : Ae} {env : En}, GE N ae env → ae.length = env.length
  | _, _, .nil => rfl
  | _, _, .cons _ r => by simp [GE.len r]
theorem GE.get : ∀ {ae : Ae} {env : En} {i : Nat} {s : As}, GE N ae env → ae[i]? = some s → ∃ t, env[i]? = some t ∧ GS N s t
  | _, _, _, _, .nil, e => by simp at e
  | _, _, 0, _, .cons h _, e => by simp at e; subst e; exact ⟨_, rfl, h⟩
  | _, _, i + 1, s, .cons _ r, e => by
    obtain ⟨v, h1, h2⟩ := GE.get (i := i) (s := s) r (by simpa using e)
    exact ⟨v, by simpa using h1, h2⟩
theorem GE.set : ∀ {ae : Ae} {env : En} {s : As} {t : Sl} (i : Nat), GE N ae env → GS N s t → GE N (ae.set i s) (env.set i t)
  | _, _, _, _, _, .nil, _ => .nil
  | _, _, _, _, 0, .cons _ r, h => .cons h r
  | _, _, _, _, i + 1, .cons g r, h => .cons g (GE.set i r h)
end
/-! ### joined, held against each other -/
def joinS (s t : As) : Option As := match s, t with
  | .emp, .emp => some .emp
  | .val a, .val b => some (.val (joinA a b))
  | .own a, .own b => some (.own (joinA a b))
  | .bor a, .bor b => some (.bor (joinA a b))
  | .own a, .val b => some (.sh (joinA a b)) | .val a, .own b => some (.sh (joinA a b)) | .sh a, .val b => some (.sh (joinA a b)) | .sh a, .own b => some (.sh (joinA a b)) | .val a, .sh b => some (.sh (joinA a b)) | .own a, .sh b => some (.sh (joinA a b)) | .sh a, .sh b => some (.sh (joinA a b))
  | .emp, .val _ => some .fre | .val _, .emp => some .fre | .fre, .fre => some .fre | .fre, .emp => some .fre | .emp, .fre => some .fre | .fre, .val _ => some .fre | .val _, .fre => some .fre
  | .bor _, _ => none
  | _, .bor _ => none
  | _, _ => some .top
def joinE : Ae → Ae → Option Ae
  | [], [] => some []
  | s :: r, t :: q => match joinS s t, joinE r q with
    | some u, some w => some (u :: w)
    | _, _ => none
  | _, _ => none
def joinEs : List Ae → Option Ae
  | [] => none
  | [e] => some e
  | e :: r => match joinEs r with
    | some q => joinE e q
    | none => none
def subS (N : Vw) (s t : As) : Bool := match s, t with
  | .emp, .emp => true
  | .val a, .val b => subA N 16 a b
  | .own a, .own b => subA N 16 a b
  | .bor a, .bor b => subA N 16 a b
  | .val a, .sh b => subA N 16 a b | .own a, .sh b => subA N 16 a b | .sh a, .sh b => subA N 16 a b | .sh _, .top => true
  | .emp, .fre => true | .val _, .fre => true | .fre, .fre => true
  | .emp, .top => true | .val _, .top => true | .own _, .top => true | .fre, .top => true | .top, .top => true
  | _, _ => false
def subE (N : Vw) : Ae → Ae → Bool
  | [], [] => true
  | s :: r, t :: q => subS N s t && subE N r q
  | _, _ => false
section
variable {N : Nm} (ok : NmOk N)
include ok
theorem joinS_ok {s t u : As} {x : Sl} (h : joinS s t = some u) : (GS N s x → GS N u x) ∧ (GS N t x → GS N u x) := by
  cases s <;> cases t <;> simp only [joinS, Option.some.injEq, reduceCtorEq] at h <;> subst h <;> refine ⟨fun g => ?_, fun g => ?_⟩ <;> cases g <;>
    first
      | exact .emp | exact .freE | exact .freV | exact .topE | exact .topV | exact .topO
      | exact .val ((join_ok ok).1 ‹_›) | exact .val ((join_ok ok).2 ‹_›)
      | exact .own ((join_ok ok).1 ‹_›) | exact .own ((join_ok ok).2 ‹_›)
      | exact .bor ((join_ok ok).1 ‹_›) | exact .bor ((join_ok ok).2 ‹_›)
      | exact .shV ((join_ok ok).1 ‹_›) | exact .shV ((join_ok ok).2 ‹_›) | exact .shO ((join_ok ok).1 ‹_›) | exact .shO ((join_ok ok).2 ‹_›)
theorem joinE_ok : ∀ {a b c : Ae} {env : En}, joinE a b = some c → (GE N a env → GE N c env) ∧ (GE N b env → GE N c env)
  | [], [], _, _, h => by cases h; exact ⟨id, id⟩
  | s :: r, t :: q, c, env, h => by
    simp only [joinE] at h
    cases e1 : joinS s t with
    | none => rw [e1] at h; cases h
    | some u =>
      cases e2 : joinE r q with
      | none => rw [e1, e2] at h; cases h
      | some w =>
        rw [e1, e2] at h
        cases h
        refine ⟨fun g => ?_, fun g => ?_⟩
        · cases g with
          | cons g1 g2 => exact .cons ((joinS_ok ok e1).1 g1) ((joinE_ok e2).1 g2)
        · cases g with
          | cons g1 g2 => exact .cons ((joinS_ok ok e1).2 g1) ((joinE_ok e2).2 g2)
  | [], _ :: _, _, _, h => by cases h
  | _ :: _, [], _, _, h => by cases h
theorem joinEs_ok : ∀ {l : List Ae} {c e : Ae} {env : En}, joinEs l = some c → e ∈ l → GE N e env → GE N c env
  | [], _, _, _, h, _, _ => by cases h
  | [e], _, _, _, h, m, g => by cases h; rw [List.mem_singleton.mp m] at g; exact g
  | e :: f :: r, c, x, env, h, m, g => by
    have h : (match joinEs (f :: r) with
      | some q => joinE e q
      | none => none) = some c := h
    cases e1 : joinEs (f :: r) with
    | none => rw [e1] at h; cases h
    | some q =>
      rw [e1] at h
      rcases List.mem_cons.mp m with rfl | m
      · exact (joinE_ok ok h).1 g
      · exact (joinE_ok ok h).2 (joinEs_ok e1 m g)
theorem subS_ok {s t : As} {x : Sl} (h : subS N.view s t = true) (g : GS N s x) : GS N t x := by
  cases s <;> cases t <;> simp only [subS, reduceCtorEq] at h <;> (try cases h; done) <;> cases g <;>
    first | exact .emp | exact .freE | exact .freV | exact .topE | exact .topV | exact .topO | exact .val (subA_ok ok h ‹_›) | exact .own (subA_ok ok h ‹_›) | exact .bor (subA_ok ok h ‹_›) | exact .shV (subA_ok ok h ‹_›) | exact .shO (subA_ok ok h ‹_›)
theorem subE_ok : ∀ {a b : Ae} {env : En}, subE N.view a b = true → GE N a env → GE N b env
  | [], [], _, _, g => g
  | s :: r, t :: q, _, h, .cons g1 g2 => by
    simp only [subE, Bool.and_eq_true] at h
    exact .cons (subS_ok ok h.1 g1) (subE_ok h.2 g2)
  | [], _ :: _, _, h, _ => by cases h
  | _ :: _, [], _, h, _ => by cases h
end
/-! ### expressions -/
inductive Aav where
  | v (a : Ak) | r (i : Nat)
abbrev Hdl := Nat → List Ak → Option (Ar × List (Option Ak))
def litA : Const → Option Ak
  | .none => some [.non]
  | .bool true => some [.tr]
  | .bool false => some [.fa]
  | .int i => some [.int i i]
  | .str x => some [.txt x]
  | _ => none
def cstA : D → Option Ak
  | .bl true => some [.tr]
  | .bl false => some [.fa]
  | .int i => some [.int i i]
  | .str x => some [.txt x]
  | _ => none
def slotA : As → Option Ak
  | .val a => some a
  | .own a => some a
  | .bor a => some a
  | .sh a => some a
  | _ => none
def lookA (ae : Ae) : Aav → Option Ak
  | .v a => some a
  | .r i => (ae[i]?).bind slotA
def looksA (ae : Ae) : List Aav → Option (List Ak)
  | [] => some []
  | x :: r => match lookA ae x, looksA ae r with
    | some a, some as => some (a :: as)
    | _, _ => none
def valsA : List Aav → Option (List Ak)
  | [] => some []
  | .v a :: r => (valsA r).map (a :: ·)
  | _ => none
def isOwnA : As → Bool
  | .own _ => true
  | .bor _ => true
  | _ => false
def plainA : As → Bool
  | .emp => true | .val _ => true | .fre => true
  | _ => false
def borOkA (ae : Ae) : List Bool → List Aav → List Nat → Bool
  | [], [], _ => true
  | true :: fs, .r i :: xs, seen => (match ae[i]? with | some s => isOwnA s | none => false) && !seen.contains i && borOkA ae fs xs (i :: seen)
  | false :: fs, .v _ :: xs, seen => borOkA ae fs xs seen
  | _, _, _ => false
def putBorA : As → Ak → As
  | .own _, a => .own a
  | .bor _, a => .bor a
  | .sh b, a => .sh (joinA b a)
  | s, _ => s
def putBackA : Ae → List Aav → List (Option Ak) → Ae
  | ae, .r i :: xs, some a :: os => putBackA (ae.set i (putBorA (ae.getD i .emp) a)) xs os
  | ae, _ :: xs, _ :: os => putBackA ae xs os
  | ae, _, _ => ae
def applyCA (rf : Nat → List Bool) (hd : Hdl) (f : Nat) (xs : List Aav) (ae : Ae) : Option (Ar × Ae) := if borOkA ae (rf f) xs [] then match looksA ae xs with
      | some as => match hd f as with
        | some (r, outs) => some (r, putBackA ae xs outs)
        | none => none
      | none => none
    else none
def applyA (N : Vw) (rf : Nat → List Bool) (hd : Hdl) (t : Tag) (xs : List Aav) (ae : Ae) : Option (Ar × Ae) := match t with
  | .call f => applyCA rf hd f xs ae
  | .callK f _ _ pm => match permL pm xs with
    | some ys => applyCA rf hd f ys ae
    | none => none
  | t => match (if storing t then valsA xs else looksA ae xs) with
    | some as => (opA N t as).map fun r => (r, ae)
    | none => none
section
variable (ev : Ex → Ae → Option (Ar × Ae))
def asA : List Ex → Ae → Option (List Aav × Ae)
  | [], ae => some ([], ae)
  | a :: as, ae => match a with
    | .peek i => match ae[i]? with
      | some s => if (slotA s).isSome then match asA as ae with
          | some (xs, ae2) => some (.r i :: xs, ae2)
          | none => none
        else none
      | none => none
    | a => match ev a ae with
      | some (r, ae1) => match asA as ae1 with
        | some (xs, ae2) => some (.v r.2 :: xs, ae2)
        | none => none
      | none => none
end
/-- joined results -/
def joinR (x y : Ar × Ae) : Option (Ar × Ae) := if x.1.1 == y.1.1 then (joinE x.2 y.2).map fun e => ((x.1.1, joinA x.1.2 y.1.2), e) else none
def canB (b : Bool) (t : At) : Bool := match truT t with
  | some bs => bs.contains b
  | none => true
section
variable (N : Vw) (ev : Ex → Ae → Option (Ar × Ae))
def andA : List Ex → Ae → Option (Ar × Ae)
  | [], _ => none
  | [a], ae => ev a ae
  | a :: as, ae => match ev a ae with
    | some (r, ae1) => match truA N r.2 with
      | some bs => if bs.contains true then (match andA as ae1 with
          | some o => if bs.contains false then joinR ((false, r.2.filter (canB false)), ae1) o else some o
          | none => none)
        else some ((false, r.2), ae1)
      | none => none
    | none => none
def orA : List Ex → Ae → Option (Ar × Ae)
  | [], _ => none
  | [a], ae => ev a ae
  | a :: as, ae => match ev a ae with
    | some (r, ae1) => match truA N r.2 with
      | some bs => if bs.contains false then (match orA as ae1 with
          | some o => if bs.contains true then joinR ((false, r.2.filter (canB true)), ae1) o else some o
          | none => none)
        else some ((false, r.2), ae1)
      | none => none
    | none => none
end
section
variable {N : Nm} (ok : NmOk N) {rf : Nat → List Bool} {C : CallT}
include ok
omit ok in
theorem litA_ok {c : Const} {a : Ak} (h : litA c = some a) : ∃ d, litD c = some d ∧ GA N a d := by
  unfold litA at h
  split at h <;> cases h
  · exact ⟨_, rfl, .one .non⟩
  · exact ⟨_, rfl, .one .tr⟩
  · exact ⟨_, rfl, .one .fa⟩
  · exact ⟨_, rfl, .one (.int (Int.le_refl _) (Int.le_refl _))⟩
  · exact ⟨_, rfl, .one .txt⟩
omit ok in
theorem cstA_ok {d : D} {a : Ak} (h : cstA d = some a) : GA N a d := by
  unfold cstA at h
  split at h <;> cases h
  · exact .one .tr
  · exact .one .fa
  · exact .one (.int (Int.le_refl _) (Int.le_refl _))
  · exact .one .txt
/-- an argument's kind -/
inductive GV : Aav → Av1 → Prop where
  | v {a : Ak} {d : D} : GA N a d → GV (.v a) (.v d)
  | r (i : Nat) : GV (.r i) (.r i)
inductive GVs : List Aav → List Av1 → Prop where
  | nil : GVs [] []
  | cons {x : Aav} {y : Av1} {xs : List Aav} {ys : List Av1} : GV (N := N) x y → GVs xs ys → GVs (x :: xs) (y :: ys)
omit ok in
theorem slotA_ok {s : As} {t : Sl} {a : Ak} (g : GS N s t) (h : slotA s = some a) : ∃ d, slotD t = some d ∧ GA N a d := by
  cases g <;> simp only [slotA, Option.some.injEq, reduceCtorEq] at h <;> subst h <;> exact ⟨_, rfl, ‹_›⟩
omit ok in
theorem looksA_ok {ae : Ae} {env : En} (g : GE N ae env) : ∀ {xs : List Aav} {ys : List Av1} {as : List Ak}, GVs (N := N) xs ys → looksA ae xs = some as → ∃ ds, looks env ys = some ds ∧ GL N as ds
  | _, _, as, .nil, h => by simp only [looksA, Option.some.injEq] at h; subst h; exact ⟨[], rfl, .nil⟩
  | _, _, as, .cons (x := x) (xs := xs) hx r, h => by
    simp only [looksA] at h
    cases e1 : lookA ae x with
    | none => rw [e1] at h; cases h
    | some a =>
      cases e2 : looksA ae xs with
      | none => rw [e1, e2] at h; cases h
      | some bs =>
        rw [e1, e2] at h
        cases h
        obtain ⟨ds, e3, gl⟩ := looksA_ok g r e2
        cases hx with
        | v ga =>
          cases e1
          exact ⟨_, by simp only [looks, look, e3], .cons ga gl⟩
        | r i =>
          simp only [lookA] at e1
          cases es : ae[i]? with
          | none => rw [es] at e1; cases e1
          | some s =>
            rw [es] at e1
            obtain ⟨t, et, gs⟩ := g.get es
            obtain ⟨d, ed, ga⟩ := slotA_ok gs e1
            exact ⟨d :: ds, by simp only [looks, look, et, Option.bind_some, ed, e3], .cons ga gl⟩
omit ok in
theorem valsA_ok : ∀ {xs : List Aav} {ys : List Av1} {as : List Ak}, GVs (N := N) xs ys → valsA xs = some as → ∃ ds, valsOf ys = some ds ∧ GL N as ds
  | _, _, as, .nil, h => by simp only [valsA, Option.some.injEq] at h; subst h; exact ⟨[], rfl, .nil⟩
  | _, _, as, .cons (xs := xs) (.v ga) r, h => by
    simp only [valsA] at h
    obtain ⟨bs, e, rfl⟩ := Option.map_eq_some_iff.mp h
    obtain ⟨ds, e3, gl⟩ := valsA_ok r e
    exact ⟨_, by simp only [valsOf, e3]; rfl, .cons ga gl⟩
  | _, _, as, .cons (.r i) r, h => by cases h
omit ok in
theorem isOwn_ok {s : As} {t : Sl} (g : GS N s t) (h : isOwnA s = true) : t.isOwn = true := by
  cases g <;> first | rfl | cases h
omit ok in
theorem borOkA_ok {ae : Ae} {env : En} (g : GE N ae env) : ∀ {fs : List Bool} {xs : List Aav} {ys : List Av1} {seen : List Nat}, GVs (N := N) xs ys → borOkA ae fs xs seen = true → borOk env fs ys seen = true
  | [], _, _, _, .nil, _ => rfl
  | true :: fs, _, _, seen, .cons (.r i) r, h => by
    simp only [borOkA, Bool.and_eq_true] at h
    obtain ⟨⟨h1, h2⟩, h3⟩ := h
    cases es : ae[i]? with
    | none => rw [es] at h1; cases h1
    | some s =>
      rw [es] at h1
      obtain ⟨t, et, gs⟩ := g.get es
      simp only [borOk, et, isOwn_ok gs h1, h2, borOkA_ok g r h3]; rfl
  | false :: fs, _, _, seen, .cons (.v ga) r, h => by
    simp only [borOkA] at h
    simp only [borOk]
    exact borOkA_ok g r h
  | true :: _, _, _, _, .cons (.v _) _, h => by cases h
  | false :: _, _, _, _, .cons (.r _) _, h => by cases h
  | [], _, _, _, .cons _ _, h => by cases h
  | b :: _, _, _, _, .nil, h => by cases b <;> cases h
/-- what borrowed ones are behind a call -/
inductive GO : List (Option Ak) → List (Option D) → Prop where
  | nil : GO [] []
  | non {as : List (Option Ak)} {ds : List (Option D)} : GO as ds → GO (none :: as) (none :: ds)
  | one {a : Ak} {d : D} {as : List (Option Ak)} {ds : List (Option D)} : GA N a d → GO as ds → GO (some a :: as) (some d :: ds)
theorem putBor_ok {s : As} {t : Sl} {a : Ak} {d : D} (g : GS N s t) (ga : GA N a d) : GS N (putBorA s a) (putBor t d) := by
  cases g with
  | emp => exact .emp
  | val h => exact .val h
  | own _ => exact .own ga
  | bor _ => exact .bor ga
  | shV h => exact .shV ((join_ok ok).1 h)
  | shO _ => exact .shO ((join_ok ok).2 ga)
  | freE => exact .freE
  | freV => exact .freV
  | topE => exact .topE
  | topV => exact .topV
  | topO => exact .topO
theorem putBackA_ok : ∀ {xs : List Aav} {ys : List Av1} {as : List (Option Ak)} {ds : List (Option D)} {ae : Ae} {env : En}, GVs (N := N) xs ys → GO (N := N) as ds → GE N ae env → GE N (putBackA ae xs as) (putBack env ys ds)
  | _, _, _, _, _, _, .nil, _, g => by simp only [putBackA, putBack]; exact g
  | _, _, _, _, _, _, .cons _ _, .nil, g => by simp only [putBackA, putBack]; exact g
  | _, _, _, _, _, _, .cons (.v _) r, .non o, g => by simp only [putBackA, putBack]; exact putBackA_ok r o g
  | _, _, _, _, _, _, .cons (.v _) r, .one _ o, g => by simp only [putBackA, putBack]; exact putBackA_ok r o g
  | _, _, _, _, _, _, .cons (.r i) r, .non o, g => by simp only [putBackA, putBack]; exact putBackA_ok r o g
  | _, _, _, _, ae, env, .cons (.r i) r, .one ga o, g => by
    simp only [putBackA, putBack]
    refine putBackA_ok r o ?_
    by_cases hi : i < ae.length
    · obtain ⟨t, et, gs⟩ := g.get (List.getElem?_eq_getElem hi)
      have e1 : ae.getD i .emp = ae[i] := by rw [List.getD_eq_getElem?_getD, List.getElem?_eq_getElem hi]; rfl
      have e2 : env.getD i .emp = t := by rw [List.getD_eq_getElem?_getD, et]; rfl
      rw [e1, e2]
      exact g.set i (putBor_ok ok gs ga)
    · have h2 := g.len
      rw [List.set_eq_of_length_le (by omega), List.set_eq_of_length_le (by omega)]
      exact g
/-- calls as the handler tells -/
def HOk (N : Nm) (C : CallT) (hd : Hdl) : Prop := ∀ f as r outs, hd f as = some (r, outs) → ∀ ds, GL N as ds → ∃ rs os, C f ds = some (rs, os) ∧ GR N r rs ∧ GO (N := N) outs os
/-- expressions as ev tells -/
def EOk (N : Nm) (rf : Nat → List Bool) (C : CallT) (ev : Ex → Ae → Option (Ar × Ae)) : Prop := ∀ e ae o, ev e ae = some o → ∀ env, GE N ae env → ∃ r env', evalE rf C e env = some (r, env') ∧ GR N o.1 r ∧ GE N o.2 env'
theorem applyCA_ok {hd : Hdl} (hh : HOk N C hd) {f : Nat} {xs : List Aav} {ys : List Av1} {ae : Ae} {env : En} {o : Ar × Ae} (gv : GVs (N := N) xs ys) (g : GE N ae env) (h : applyCA rf hd f xs ae = some o) :
    ∃ r env', applyC rf C f ys env = some (r, env') ∧ GR N o.1 r ∧ GE N o.2 env' := by
  unfold applyCA at h
  split at h
  · rename_i hb
    cases e1 : looksA ae xs with
    | none => rw [e1] at h; cases h
    | some as =>
      rw [e1] at h
      simp only at h
      cases e2 : hd f as with
      | none => rw [e2] at h; cases h
      | some p =>
        obtain ⟨r, outs⟩ := p
        rw [e2] at h
        cases h
        obtain ⟨ds, e3, gl⟩ := looksA_ok g gv e1
        obtain ⟨rs, os, e4, gr, go⟩ := hh f as r outs e2 ds gl
        exact ⟨rs, putBack env ys os, by simp only [applyC, borOkA_ok g gv hb, if_true, e3, e4], gr, putBackA_ok ok gv go g⟩
  · cases h
theorem GVs.get {xs : List Aav} {ys : List Av1} (gv : GVs (N := N) xs ys) : ∀ {i : Nat} {x : Aav}, xs[i]? = some x → ∃ y, ys[i]? = some y ∧ GV (N := N) x y := by
  induction gv with
  | nil => intro i x h; simp at h
  | cons h t ih =>
    intro i x hx
    cases i with
    | zero => simp at hx; subst hx; exact ⟨_, rfl, h⟩
    | succ i => simp at hx ⊢; exact ih hx
theorem GVs.perm {xs : List Aav} {ys : List Av1} (gv : GVs (N := N) xs ys) : ∀ {pm : List Nat} {us : List Aav}, permL pm xs = some us → ∃ zs, permL pm ys = some zs ∧ GVs (N := N) us zs
  | [], us, h => by cases h; exact ⟨[], rfl, .nil⟩
  | i :: pr, us, h => by
    unfold permL at h
    cases h1 : xs[i]? with
    | none => rw [h1] at h; cases h
    | some x =>
      cases h2 : permL pr xs with
      | none => rw [h1, h2] at h; cases h
      | some y =>
        rw [h1, h2] at h
        cases h
        obtain ⟨zs, e, a⟩ := GVs.perm gv h2
        obtain ⟨u, hu, ru⟩ := GVs.get ok gv h1
        exact ⟨u :: zs, by unfold permL; rw [hu, e], .cons ru a⟩
theorem applyA_ok {hd : Hdl} (hh : HOk N C hd) {t : Tag} {xs : List Aav} {ys : List Av1} {ae : Ae} {env : En} {o : Ar × Ae} (gv : GVs (N := N) xs ys) (g : GE N ae env) (h : applyA N.view rf hd t xs ae = some o) :
    ∃ r env', applyT rf C t ys env = some (r, env') ∧ GR N o.1 r ∧ GE N o.2 env' := by
  by_cases hc : isCall t = true
  · cases t with
    | call f => exact applyCA_ok ok hh gv g h
    | callK f np ks pm =>
      simp only [applyA] at h
      cases e1 : permL pm xs with
      | none => rw [e1] at h; cases h
      | some us =>
        rw [e1] at h
        obtain ⟨zs, e2, gz⟩ := GVs.perm ok gv e1
        obtain ⟨r, env', e3, gr, ge⟩ := applyCA_ok ok hh gz g h
        exact ⟨r, env', by simp only [applyT, e2]; exact e3, gr, ge⟩
    | _ => cases hc
  · have h' : (match (if storing t then valsA xs else looksA ae xs) with
      | some as => (opA N.view t as).map fun r => (r, ae)
      | none => none) = some o := by
      cases t <;> first | exact h | exact absurd rfl hc
    have key : ∃ as ds, (if storing t then valsA xs else looksA ae xs) = some as ∧ (if storing t then valsOf ys else looks env ys) = some ds ∧ GL N as ds := by
      cases hs : storing t with
      | true =>
        rw [hs] at h'
        simp only [if_true] at h' ⊢
        cases e1 : valsA xs with
        | none => rw [e1] at h'; cases h'
        | some as => obtain ⟨ds, e3, gl⟩ := valsA_ok gv e1; exact ⟨as, ds, rfl, e3, gl⟩
      | false =>
        rw [hs] at h'
        simp only [Bool.false_eq_true, if_false] at h' ⊢
        cases e1 : looksA ae xs with
        | none => rw [e1] at h'; cases h'
        | some as => obtain ⟨ds, e3, gl⟩ := looksA_ok g gv e1; exact ⟨as, ds, rfl, e3, gl⟩
    obtain ⟨as, ds, e1, e2, gl⟩ := key
    rw [e1] at h'
    obtain ⟨x, hx, rfl⟩ := Option.map_eq_some_iff.mp h'
    obtain ⟨r, e3, gr⟩ := opA_ok ok gl hx
    refine ⟨r, env, ?_, gr, g⟩
    have : (match (if storing t then valsOf ys else looks env ys) with
      | some ds => (primD t ds).map fun r => (r, env)
      | none => none) = some (r, env) := by rw [e2]; simp only [e3, Option.map_some]
    cases t <;> first | exact this | exact absurd rfl hc
end
end Ofw
/-! Ofw A8: expressions on kinds -/
namespace Ofw
open PySem L2
/-- what is walked -/
inductive AIt where
  | ex (l : List Ak) | con (a : Ak) (lo hi : Nat)
def AIt.item : AIt → Nat → Ak
  | .ex l, i => l.getD i []
  | .con a _ _, _ => a
def AIt.lo : AIt → Nat
  | .ex l => l.length
  | .con _ lo _ => lo
def AIt.hi : AIt → Nat
  | .ex l => l.length
  | .con _ _ hi => hi
def AIt.cst : AIt → Bool
  | .ex _ => false
  | .con _ _ _ => true
def seqV (t : At) : Option (Ak × Nat × Nat) := match t with
  | .scr => some ([.big], 0, 63)
  | t => match tupV t with
    | some x => some x
    | none => lstV t
def seqsV : Ak → Option (Ak × Nat × Nat)
  | [] => none
  | t :: r => match r with
    | [] => seqV t
    | _ :: _ => match seqV t, seqsV r with
      | some (a, l, h), some (b, l', h') => some (joinA a b, min l l', max h h')
      | _, _ => none
def smallA (a b : Int) : Bool := decide (-(2 ^ 62) ≤ a) && decide (b < 2 ^ 62)
def itA (N : Vw) (k : ItK) (as : List Ak) : Option AIt := match k with
  | .seq => match as with
    | [a] => match expA N a with
      | [.lst l] => some (.ex l)
      | [.tup l] => some (.ex l)
      | ts => (seqsV ts).map fun x => .con x.1 x.2.1 x.2.2
    | _ => none
  | .rng1 => match as with
    | [[.int a b]] => if smallA a b then some (.con [.int 0 (b - 1)] a.toNat b.toNat) else none
    | _ => none
  | .rng2 => match as with
    | [[.int a b], [.int c d]] => if smallA a b && smallA c d then some (.con [.int a (d - 1)] (c - b).toNat (d - a).toNat) else none
    | _ => none
  | .enum => match as with
    | [a] => match expA N a with
      | [t] => (lstV t).map fun x => .con [.tup [[.int 0 (x.2.2 - 1)], x.1]] x.2.1 x.2.2
      | _ => none
    | _ => none
  | .zip2 => match as with
    | [a, b] => match expA N a, expA N b with
      | [s], [t] => match lstV s, lstV t with
        | some x, some y => some (.con [.tup [x.1, y.1]] (min x.2.1 y.2.1) (min x.2.2 y.2.2))
        | _, _ => match tupV s, tupV t with
          | some x, some y => some (.con [.tup [x.1, y.1]] (min x.2.1 y.2.1) (min x.2.2 y.2.2))
          | _, _ => none
      | _, _ => none
    | _ => none
  | .items => none
  | .rng3 => none
  | .keys => none
def freeS : As → Bool
  | .bor _ => false
  | _ => true
/-- the parts of tuples, all of one length -/
def compT (n : Nat) (t : At) : Option (List Ak) := match t with
  | .tup as => if as.length = n then some as else none
  | .tupN a lo hi => if lo = n ∧ hi = n then some (List.replicate n a) else none
  | _ => none
def compsA (n : Nat) : Ak → Option (List Ak)
  | [] => none
  | t :: r => match r with
    | [] => compT n t
    | _ :: _ => match compT n t, compsA n r with
      | some x, some y => some (List.zipWith joinA x y)
      | _, _ => none
def bindsA : List Nat → List Ak → Ae → Option Ae
  | [], [], ae => some ae
  | i :: is, a :: as, ae => match ae[i]? with
    | some s => if freeS s then bindsA is as (ae.set i (.val a)) else none
    | none => none
  | _, _, _ => none
def bindA (N : Vw) (tg : Tg) (a : Ak) (ae : Ae) : Option Ae := match tg with
  | .one i => match ae[i]? with
    | some s => if freeS s then some (ae.set i (.val a)) else none
    | none => none
  | .tup is => match compsA is.length (expA N a) with
    | some as => bindsA is as ae
    | none => none
def splitOne (N : Vw) (i : Nat) (ae : Ae) : List Ae := match ae[i]? with
  | some (.val (t :: u :: r)) => (t :: u :: r).map fun x => ae.set i (.val [x])
  | _ => [ae]
def splitA (N : Vw) : List Nat → Ae → List Ae
  | [], ae => [ae]
  | i :: is, ae => (splitOne N i ae).flatMap fun e => splitA N is e
def wipeA (ae : Ae) : List Nat → Ae
  | [] => ae
  | v :: vs => (wipeA ae vs).set v .emp
def backA (old : Ae) (ae : Ae) : List Nat → Ae
  | [] => ae
  | v :: vs => (backA old ae vs).set v (old.getD v .emp)
def plainsA (ae : Ae) (vs : List Nat) : Bool := vs.all fun i => match ae[i]? with
  | some s => plainA s
  | none => false
section
variable (N : Vw) (ev : Ex → Ae → Option (Ar × Ae))
def eltA (elt : Ex) (vs : List Nat) (ae : Ae) : Option (Option Ak × Ae) := match ev elt ae with
  | some (r, e) => if plainsA e vs then some (some r.2, wipeA e vs) else none
  | none => none
def turn1 (elt : Ex) (ifs : List Ex) (vs : List Nat) (ae : Ae) : Option (List (Option Ak × Ae)) := match ifs with
  | [] => (eltA ev elt vs ae).map fun x => [x]
  | c :: _ => match ev c ae with
    | some (r, e) => match truA N r.2 with
      | some bs => match (if bs.contains true then (eltA ev elt vs e).map fun x => [x] else some []) with
        | some l => if bs.contains false then (if plainsA e vs then some ((none, wipeA e vs) :: l) else none) else some l
        | none => none
      | none => none
    | none => none
def turnsA (elt : Ex) (ifs : List Ex) (vs : List Nat) : List Ae → Option (List (Option Ak × Ae))
  | [] => some []
  | e :: es => match turn1 N ev elt ifs vs e, turnsA elt ifs vs es with
    | some x, some y => some (x ++ y)
    | _, _ => none
def turnA (elt : Ex) (tg : Tg) (ifs : List Ex) (vs : List Nat) (a : Ak) (ae : Ae) : Option (List (Option Ak × Ae)) := match bindA N tg a ae with
  | some e => turnsA N ev elt ifs vs (splitA N (tgI tg) e)
  | none => none
end
def lcGo (N : Vw) (turn : Ak → Ae → Option (List (Option Ak × Ae))) (it : AIt) : Nat → Nat → Ae → Ak → Bool → Option (Ak × Bool × Ae)
  | 0, i, ae, acc, full => if it.hi ≤ i then some (acc, full, ae) else none
  | k + 1, i, ae, acc, full => if it.hi ≤ i then some (acc, full, ae) else match turn (it.item i) ae with
    | some outs => match joinEs (outs.map (·.2)) with
      | some ae' =>
        let acc' := joinAs (acc :: outs.filterMap (·.1))
        let full' := full && outs.all (·.1.isSome)
        if it.cst && subE N ae' ae then some (acc', full', ae) else match joinE ae ae' with
          | some e => lcGo N turn it k (i + 1) e acc' full'
          | none => none
      | none => none
    | none => none
def aE (N : Vw) (rf : Nat → List Bool) (hd : Hdl) : Nat → Ex → Ae → Option (Ar × Ae)
  | 0, _, _ => none
  | k + 1, e, ae =>
    let ev := aE N rf hd k
    match e with
    | .var i => match ae[i]? with
      | some (.val a) => some ((false, a), ae)
      | some (.own a) => some ((false, a), ae.set i (.val a))
      | some (.sh a) => some ((false, a), ae.set i (.val a))
      | _ => none
    | .peek _ => none
    | .lit c => (litA c).map fun a => ((false, a), ae)
    | .glob _ d => (cstA d).map fun a => ((false, a), ae)
    | .op t as => match asA ev as ae with
      | some (xs, ae1) => applyA N rf hd t xs ae1
      | none => none
    | .not a => match ev a ae with
      | some (r, ae1) => (truA N r.2).map fun bs => ((false, blsA (notL bs)), ae1)
      | none => none
    | .and as => andA N ev as ae
    | .or as => orA N ev as ae
    | .ife c a b => match ev c ae with
      | some (r, ae1) => match truA N r.2 with
        | some bs => if bs.contains true then (if bs.contains false then match ev a ae1, ev b ae1 with
              | some x, some y => joinR x y
              | _, _ => none
            else ev a ae1) else ev b ae1
        | none => none
      | none => none
    | .chain p q a b c => match ev a ae with
      | some (ra, ae1) => match ev b ae1 with
        | some (rb, ae2) => match opA N (.cmp p) [ra.2, rb.2] with
          | some x => match truA N x.2 with
            | some bs => if bs.contains true then (match ev c ae2 with
                | some (rc, ae3) => match opA N (.cmp q) [rb.2, rc.2] with
                  | some y => if bs.contains false then joinR ((false, [.fa]), ae2) ((false, y.2), ae3) else some ((false, y.2), ae3)
                  | none => none
                | none => none) else some ((false, [.fa]), ae2)
            | none => none
          | none => none
        | none => none
      | none => none
    | .chain3 _ _ _ _ _ _ _ => none
    | .popE _ => none
    | .lc elt tg kk src ifs vs => match asA ev src ae with
      | some (xs, ae1) => match valsA xs with
        | some as => match itA N kk as with
          | some it => if plainsA ae1 vs && decide (it.hi < sizeLine) then
              match lcGo N (turnA N ev elt tg ifs vs) it (min it.hi 400) 0 (wipeA ae1 vs) [] true with
              | some (a, full, ae2) => some ((true, [.lstN a (if full then it.lo else 0) it.hi]), backA ae1 ae2 vs)
              | none => none
            else none
          | none => none
        | none => none
      | none => none
section
variable {N : Nm} (ok : NmOk N) {rf : Nat → List Bool} {C : CallT}
include ok
omit ok in
theorem asA_ok {ev : Ex → Ae → Option (Ar × Ae)} (hev : EOk N rf C ev) : ∀ {as : List Ex} {ae ae' : Ae} {xs : List Aav} {env : En}, asA ev as ae = some (xs, ae') → GE N ae env → ∃ ys env', evalAs rf C as env = some (ys, env') ∧ GVs (N := N) xs ys ∧ GE N ae' env'
  | [], ae, ae', xs, env, h, g => by
    simp only [asA, Option.some.injEq, Prod.mk.injEq] at h
    obtain ⟨rfl, rfl⟩ := h
    exact ⟨[], env, aNil rf C env, .nil, g⟩
  | a :: as, ae, ae', xs, env, h, g => by
    by_cases hp : ∃ i, a = .peek i
    · obtain ⟨i, rfl⟩ := hp
      simp only [asA] at h
      cases es : ae[i]? with
      | none => rw [es] at h; cases h
      | some s =>
        rw [es] at h
        simp only at h
        split at h
        · rename_i hs
          cases e1 : asA ev as ae with
          | none => rw [e1] at h; cases h
          | some p =>
            obtain ⟨ys, ae2⟩ := p
            rw [e1] at h
            simp only [Option.some.injEq, Prod.mk.injEq] at h
            obtain ⟨rfl, rfl⟩ := h
            obtain ⟨zs, env', e2, gv, g2⟩ := asA_ok hev e1 g
            obtain ⟨t, et, gs⟩ := g.get es
            obtain ⟨a', ea⟩ := Option.isSome_iff_exists.mp hs
            obtain ⟨d, ed, _⟩ := slotA_ok gs ea
            refine ⟨.r i :: zs, env', ?_, .cons (.r i) gv, g2⟩
            rw [aPeek, et]
            cases t <;> first | (simp only [e2]; done) | cases ed
        · cases h
    · have hp' : ∀ i, a ≠ .peek i := fun i e => hp ⟨i, e⟩
      have h' : (match ev a ae with
        | some (r, ae1) => match asA ev as ae1 with
          | some (xs, ae2) => some (Aav.v r.2 :: xs, ae2)
          | none => none
        | none => none) = some (xs, ae') := by
        cases a <;> first | exact h | exact absurd rfl (hp' _)
      cases e1 : ev a ae with
      | none => rw [e1] at h'; cases h'
      | some p =>
        obtain ⟨r, ae1⟩ := p
        rw [e1] at h'
        simp only at h'
        cases e2 : asA ev as ae1 with
        | none => rw [e2] at h'; cases h'
        | some p =>
          obtain ⟨ys, ae2⟩ := p
          rw [e2] at h'
          simp only [Option.some.injEq, Prod.mk.injEq] at h'
          obtain ⟨rfl, rfl⟩ := h'
          obtain ⟨rs, env1, e3, gr, g1⟩ := hev a ae _ e1 env g
          obtain ⟨zs, env2, e4, gv, g2⟩ := asA_ok hev e2 g1
          refine ⟨.v rs.d :: zs, env2, ?_, .cons (.v gr.2) gv, g2⟩
          rw [evalAs_cons hp', e3]
          simp only [e4]
theorem joinR_ok {x y o : Ar × Ae} {r : Rs} {env : En} (h : joinR x y = some o) : (GR N x.1 r ∧ GE N x.2 env → GR N o.1 r ∧ GE N o.2 env) ∧ (GR N y.1 r ∧ GE N y.2 env → GR N o.1 r ∧ GE N o.2 env) := by
  unfold joinR at h
  split at h
  · rename_i hb
    have hb := eq_of_beq hb
    obtain ⟨e, he, rfl⟩ := Option.map_eq_some_iff.mp h
    exact ⟨fun g => ⟨g.1.up rfl fun d => (join_ok ok).1, (joinE_ok ok he).1 g.2⟩, fun g => ⟨g.1.up hb.symm fun d => (join_ok ok).2, (joinE_ok ok he).2 g.2⟩⟩
  · cases h
theorem can_ok {a : Ak} {d : D} {b : Bool} (g : GA N a d) (h : truD d = some b) : GA N (a.filter (canB b)) d := by
  cases g with
  | mk m g =>
    rename_i t
    refine .mk (List.mem_filter.mpr ⟨m, ?_⟩) g
    unfold canB
    split
    · rename_i bs e
      obtain ⟨b', e1, m1⟩ := truT_ok g e
      rw [h] at e1
      cases e1
      exact List.contains_iff_mem.mpr m1
    · rfl
theorem andA_ok {ev : Ex → Ae → Option (Ar × Ae)} (hev : EOk N rf C ev) : ∀ {as : List Ex} {ae : Ae} {o : Ar × Ae} {env : En}, andA N.view ev as ae = some o → GE N ae env → ∃ r env', evalAnd rf C as env = some (r, env') ∧ GR N o.1 r ∧ GE N o.2 env'
  | [], _, _, _, h, _ => by cases h
  | [a], ae, o, env, h, g => by
    obtain ⟨r, env', e, x⟩ := hev a ae o h env g
    exact ⟨r, env', by simp only [evalAnd]; exact e, x⟩
  | a :: b :: as, ae, o, env, h, g => by
    have h : (match ev a ae with
      | some (r, ae1) => match truA N.view r.2 with
        | some bs => if bs.contains true then (match andA N.view ev (b :: as) ae1 with
            | some o => if bs.contains false then joinR ((false, r.2.filter (canB false)), ae1) o else some o
            | none => none)
          else some ((false, r.2), ae1)
        | none => none
      | none => none) = some o := h
    cases e1 : ev a ae with
    | none => rw [e1] at h; cases h
    | some p =>
      obtain ⟨r, ae1⟩ := p
      rw [e1] at h
      simp only at h
      cases e2 : truA N.view r.2 with
      | none => rw [e2] at h; cases h
      | some bs =>
        rw [e2] at h
        simp only at h
        obtain ⟨rs, env1, e3, gr, g1⟩ := hev a ae _ e1 env g
        obtain ⟨t, e4, mt⟩ := truA_ok ok gr.2 e2
        have mt' := List.contains_iff_mem.mpr mt
        cases t with
        | true =>
          rw [if_pos mt'] at h
          cases e5 : andA N.view ev (b :: as) ae1 with
          | none => rw [e5] at h; cases h
          | some o' =>
            rw [e5] at h
            simp only at h
            obtain ⟨r2, env2, e6, g2⟩ := andA_ok hev e5 g1
            refine ⟨r2, env2, by simp only [evalAnd, e3, e4]; exact e6, ?_⟩
            split at h
            · exact (joinR_ok ok h).2 g2
            · cases h; exact g2
        | false =>
          refine ⟨.val rs.d, env1, by simp only [evalAnd, e3, e4], ?_⟩
          split at h
          · cases e5 : andA N.view ev (b :: as) ae1 with
            | none => rw [e5] at h; cases h
            | some o' =>
              rw [e5] at h
              simp only at h
              exact (joinR_ok ok h).1 ⟨.val (can_ok ok gr.2 e4), g1⟩
          · cases h; exact ⟨.val gr.2, g1⟩
theorem orA_ok {ev : Ex → Ae → Option (Ar × Ae)} (hev : EOk N rf C ev) : ∀ {as : List Ex} {ae : Ae} {o : Ar × Ae} {env : En}, orA N.view ev as ae = some o → GE N ae env → ∃ r env', evalOr rf C as env = some (r, env') ∧ GR N o.1 r ∧ GE N o.2 env'
  | [], _, _, _, h, _ => by cases h
  | [a], ae, o, env, h, g => by
    obtain ⟨r, env', e, x⟩ := hev a ae o h env g
    exact ⟨r, env', by simp only [evalOr]; exact e, x⟩
  | a :: b :: as, ae, o, env, h, g => by
    have h : (match ev a ae with
      | some (r, ae1) => match truA N.view r.2 with
        | some bs => if bs.contains false then (match orA N.view ev (b :: as) ae1 with
            | some o => if bs.contains true then joinR ((false, r.2.filter (canB true)), ae1) o else some o
            | none => none)
          else some ((false, r.2), ae1)
        | none => none
      | none => none) = some o := h
    cases e1 : ev a ae with
    | none => rw [e1] at h; cases h
    | some p =>
      obtain ⟨r, ae1⟩ := p
      rw [e1] at h
      simp only at h
      cases e2 : truA N.view r.2 with
      | none => rw [e2] at h; cases h
      | some bs =>
        rw [e2] at h
        simp only at h
        obtain ⟨rs, env1, e3, gr, g1⟩ := hev a ae _ e1 env g
        obtain ⟨t, e4, mt⟩ := truA_ok ok gr.2 e2
        have mt' := List.contains_iff_mem.mpr mt
        cases t with
        | false =>
          rw [if_pos mt'] at h
          cases e5 : orA N.view ev (b :: as) ae1 with
          | none => rw [e5] at h; cases h
          | some o' =>
            rw [e5] at h
            simp only at h
            obtain ⟨r2, env2, e6, g2⟩ := orA_ok hev e5 g1
            refine ⟨r2, env2, by simp only [evalOr, e3, e4]; exact e6, ?_⟩
            split at h
            · exact (joinR_ok ok h).2 g2
            · cases h; exact g2
        | true =>
          refine ⟨.val rs.d, env1, by simp only [evalOr, e3, e4], ?_⟩
          split at h
          · cases e5 : orA N.view ev (b :: as) ae1 with
            | none => rw [e5] at h; cases h
            | some o' =>
              rw [e5] at h
              simp only at h
              exact (joinR_ok ok h).1 ⟨.val (can_ok ok gr.2 e4), g1⟩
          · cases h; exact ⟨.val gr.2, g1⟩
end
end Ofw
/-! Ofw A9: expressions on kinds, shown -/
namespace Ofw
open PySem L2
section
variable {N : Nm} (ok : NmOk N) {rf : Nat → List Bool} {C : CallT}
include ok
theorem seqV_ok {t : At} {a : Ak} {l h : Nat} {d : D} (g : GT N t d) (e : seqV t = some (a, l, h)) : ∃ its, itSeq [d] = some its ∧ (∀ d, d ∈ its → GA N a d) ∧ l ≤ its.length ∧ its.length ≤ h := by
  unfold seqV at e
  split at e
  · cases e; cases g
    rename_i ns hn
    refine ⟨_, rfl, fun d hd => ?_, Nat.zero_le _, by simpa using hn⟩
    obtain ⟨z, _, rfl⟩ := List.mem_map.mp hd
    exact .one (.big z)
  · split at e
    · rename_i hx
      cases e
      obtain ⟨ds, rfl, m, h1, h2⟩ := tupV_ok ok g hx
      exact ⟨ds, rfl, m, h1, h2⟩
    · obtain ⟨ds, rfl, m, h1, h2⟩ := lstV_ok ok g e
      exact ⟨ds, rfl, m, h1, h2⟩
theorem seqsV_ok : ∀ {ts : Ak} {a : Ak} {l h : Nat} {d : D}, GA N ts d → seqsV ts = some (a, l, h) → ∃ its, itSeq [d] = some its ∧ (∀ d, d ∈ its → GA N a d) ∧ l ≤ its.length ∧ its.length ≤ h
  | [], _, _, _, _, _, e => by cases e
  | [t], _, _, _, _, g, e => seqV_ok ok g.of1 e
  | t :: u :: r, a, l, h, d, g, e => by
    have e : (match seqV t, seqsV (u :: r) with
      | some (a, l, h), some (b, l', h') => some (joinA a b, min l l', max h h')
      | _, _ => none) = some (a, l, h) := e
    cases e1 : seqV t with
    | none => rw [e1] at e; cases e
    | some x =>
      obtain ⟨a1, l1, h1⟩ := x
      cases e2 : seqsV (u :: r) with
      | none => rw [e1, e2] at e; cases e
      | some y =>
        obtain ⟨a2, l2, h2⟩ := y
        rw [e1, e2] at e
        cases e
        cases g with
        | mk m g =>
          rcases List.mem_cons.mp m with rfl | m
          · obtain ⟨its, e3, mm, q1, q2⟩ := seqV_ok ok g e1
            exact ⟨its, e3, fun d hd => (join_ok ok).1 (mm d hd), by omega, by omega⟩
          · obtain ⟨its, e3, mm, q1, q2⟩ := seqsV_ok (.mk m g) e2
            exact ⟨its, e3, fun d hd => (join_ok ok).2 (mm d hd), by omega, by omega⟩
/-- what an AIt tells of what is walked -/
def ItIs (N : Nm) (it : AIt) (its : List D) : Prop := it.lo ≤ its.length ∧ its.length ≤ it.hi ∧ ∀ i d, its[i]? = some d → GA N (it.item i) d
omit ok in
theorem itis_con {a : Ak} {l h : Nat} {its : List D} (m : ∀ d, d ∈ its → GA N a d) (h1 : l ≤ its.length) (h2 : its.length ≤ h) : ItIs N (.con a l h) its := ⟨h1, h2, fun i d e => m d (List.mem_of_getElem? e)⟩
omit ok in
theorem itis_ex {as : List Ak} {its : List D} (g : GL N as its) : ItIs N (.ex as) its := by
  have := g.len
  refine ⟨by show as.length ≤ _; omega, by show _ ≤ as.length; omega, fun i d e => ?_⟩
  have hi : i < as.length := by have := (List.getElem?_eq_some_iff.mp e).1; omega
  obtain ⟨d', e', ga⟩ := g.get (List.getElem?_eq_getElem hi)
  rw [e] at e'; cases e'
  show GA N (as.getD i []) d
  rw [List.getD_eq_getElem?_getD, List.getElem?_eq_getElem hi]
  exact ga
omit ok in
theorem GL.one {a : Ak} {ds : List D} (g : GL N [a] ds) : ∃ d, ds = [d] ∧ GA N a d := by
  cases g with
  | cons g r => cases r; exact ⟨_, rfl, g⟩
omit ok in
theorem GL.two {a b : Ak} {ds : List D} (g : GL N [a, b] ds) : ∃ d e, ds = [d, e] ∧ GA N a d ∧ GA N b e := by
  cases g with
  | cons g r => cases r with
    | cons g2 r => cases r; exact ⟨_, _, rfl, g, g2⟩
theorem itA_ok {k : ItK} {as : List Ak} {it : AIt} {ds : List D} (g : GL N as ds) (h : itA N.view k as = some it) : ∃ its, itemsD k ds = some its ∧ ItIs N it its := by
  unfold itA at h
  split at h
  · split at h
    · obtain ⟨d, rfl, ga⟩ := g.one
      have ge := expA_ok ok ga
      split at h
      · rename_i e
        cases h
        rw [e] at ge
        cases ge.of1
        exact ⟨_, rfl, itis_ex ‹_›⟩
      · rename_i e
        cases h
        rw [e] at ge
        cases ge.of1
        exact ⟨_, rfl, itis_ex ‹_›⟩
      · obtain ⟨x, hx, rfl⟩ := Option.map_eq_some_iff.mp h
        obtain ⟨a, l, hh⟩ := x
        obtain ⟨its, e, m, h1, h2⟩ := seqsV_ok ok ge hx
        exact ⟨its, e, itis_con m h1 h2⟩
    · cases h
  · split at h
    · split at h
      · rename_i hs
        cases h
        obtain ⟨d, rfl, ga⟩ := g.one
        cases ga.of1
        rename_i i h1 h2
        unfold smallA at hs
        simp only [Bool.and_eq_true, decide_eq_true_eq] at hs
        have hi : smallI i = true := by unfold smallI; simp only [Bool.and_eq_true, decide_eq_true_eq]; omega
        refine ⟨rngD 0 i, by show itRng1 [.int i] = _; simp only [itRng1, hi, if_true], itis_con (fun d hd => ?_) (by rw [rngD_len]; omega) (by rw [rngD_len]; omega)⟩
        obtain ⟨j, rfl, j0, j1⟩ := rngD_mem hd
        exact .one (.int (by omega) (by omega))
      · cases h
    · cases h
  · split at h
    · split at h
      · rename_i hs
        cases h
        obtain ⟨d, e, rfl, ga, gb⟩ := g.two
        cases ga.of1
        cases gb.of1
        rename_i i h1 h2 j h3 h4
        unfold smallA at hs
        simp only [Bool.and_eq_true, decide_eq_true_eq] at hs
        have hi : smallI i = true := by unfold smallI; simp only [Bool.and_eq_true, decide_eq_true_eq]; omega
        have hj : smallI j = true := by unfold smallI; simp only [Bool.and_eq_true, decide_eq_true_eq]; omega
        refine ⟨rngD i j, by show itRng2 [.int i, .int j] = _; simp only [itRng2], itis_con (fun d hd => ?_) (by rw [rngD_len]; omega) (by rw [rngD_len]; omega)⟩
        obtain ⟨q, rfl, j0, j1⟩ := rngD_mem hd
        exact .one (.int (by omega) (by omega))
      · cases h
    · cases h
  · split at h
    · obtain ⟨d, rfl, ga⟩ := g.one
      have ge := expA_ok ok ga
      split at h
      · rename_i t e
        rw [e] at ge
        obtain ⟨x, hx, rfl⟩ := Option.map_eq_some_iff.mp h
        obtain ⟨a, l, hh⟩ := x
        obtain ⟨ds, rfl, m, h1, h2⟩ := lstV_ok ok ge.of1 hx
        refine ⟨enumD ds, rfl, itis_con (fun d hd => ?_) (by rw [enumD_len]; exact h1) (by rw [enumD_len]; exact h2)⟩
        unfold enumD at hd
        obtain ⟨j, hj, rfl⟩ := List.mem_map.mp hd
        have hj := List.mem_range.mp hj
        refine .one (.tup (.cons (.one (.int (by omega) (by show (j : Int) ≤ (hh : Int) - 1; omega))) (.cons ?_ .nil)))
        rw [List.getD_eq_getElem?_getD, List.getElem?_eq_getElem hj]
        exact m _ (List.getElem_mem hj)
      · cases h
    · cases h
  · split at h
    · obtain ⟨d, e, rfl, ga, gb⟩ := g.two
      have g1 := expA_ok ok ga
      have g2 := expA_ok ok gb
      have zip : ∀ (a b : Ak) (l l' m m' : Nat) (xs ys : List D), (∀ d, d ∈ xs → GA N a d) → (∀ d, d ∈ ys → GA N b d) → l ≤ xs.length → xs.length ≤ m → l' ≤ ys.length → ys.length ≤ m' → ItIs N (.con [.tup [a, b]] (min l l') (min m m')) (zipD xs ys) := by
        intro a b l l' m m' xs ys hx hy h1 h2 h3 h4
        refine itis_con (fun d hd => ?_) (by rw [zipD_len]; omega) (by rw [zipD_len]; omega)
        unfold zipD at hd
        obtain ⟨j, hj, rfl⟩ := List.mem_map.mp hd
        have hj := List.mem_range.mp hj
        have j1 : j < xs.length := by omega
        have j2 : j < ys.length := by omega
        refine .one (.tup (.cons ?_ (.cons ?_ .nil)))
        · rw [List.getD_eq_getElem?_getD, List.getElem?_eq_getElem j1]; exact hx _ (List.getElem_mem j1)
        · rw [List.getD_eq_getElem?_getD, List.getElem?_eq_getElem j2]; exact hy _ (List.getElem_mem j2)
      split at h
      · rename_i e1 e2
        rw [e1] at g1
        rw [e2] at g2
        split at h
        · rename_i x y q1 q2
          cases h
          obtain ⟨xs, rfl, m1, a1, b1⟩ := lstV_ok ok g1.of1 q1
          obtain ⟨ys, rfl, m2, a2, b2⟩ := lstV_ok ok g2.of1 q2
          exact ⟨_, rfl, zip _ _ _ _ _ _ _ _ m1 m2 a1 b1 a2 b2⟩
        · split at h
          · rename_i x y q1 q2
            cases h
            obtain ⟨xs, rfl, m1, a1, b1⟩ := tupV_ok ok g1.of1 q1
            obtain ⟨ys, rfl, m2, a2, b2⟩ := tupV_ok ok g2.of1 q2
            exact ⟨_, rfl, zip _ _ _ _ _ _ _ _ m1 m2 a1 b1 a2 b2⟩
          · cases h
      · cases h
    · cases h
  · cases h
  · cases h
  · cases h
/-! ### targets -/
omit ok in
theorem free_ok {s : As} {t : Sl} (g : GS N s t) (h : freeS s = true) : ∀ d, t ≠ .bor d := by
  intro d e
  subst e
  cases g
  cases h
omit ok in
theorem compT_ok {n : Nat} {t : At} {as : List Ak} {d : D} (g : GT N t d) (h : compT n t = some as) : ∃ ds, d = .tup ds ∧ as.length = n ∧ GL N as ds := by
  cases g <;> simp only [compT, reduceCtorEq] at h
  · split at h
    · cases h; exact ⟨_, rfl, ‹_›, ‹_›⟩
    · cases h
  · rename_i ds m h1 h2
    split at h
    · rename_i hc
      cases h
      refine ⟨_, rfl, List.length_replicate, ?_⟩
      have key : ∀ (a : Ak) (n : Nat) (ds : List D), ds.length = n → (∀ d, d ∈ ds → GA N a d) → GL N (List.replicate n a) ds := by
        intro a n
        induction n with
        | zero => intro ds e _; cases ds with | nil => exact .nil | cons _ _ => cases e
        | succ n ih =>
          intro ds e m
          cases ds with
          | nil => cases e
          | cons d ds => exact .cons (m d List.mem_cons_self) (ih ds (by simpa using e) fun x hx => m x (List.mem_cons_of_mem _ hx))
      exact key _ _ ds (by omega) m
    · cases h
theorem compsA_ok {n : Nat} : ∀ {a : Ak} {as : List Ak} {d : D}, GA N a d → compsA n a = some as → ∃ ds, d = .tup ds ∧ as.length = n ∧ GL N as ds
  | [], _, _, _, h => by cases h
  | [t], _, _, g, h => compT_ok g.of1 h
  | t :: u :: r, as, d, g, h => by
    have h : (match compT n t, compsA n (u :: r) with
      | some x, some y => some (List.zipWith joinA x y)
      | _, _ => none) = some as := h
    have jw : ∀ (m : At → At → Option At), m = mrgT 16 → joinA = joinW m := fun m e => by subst e; rfl
    cases e1 : compT n t with
    | none => rw [e1] at h; cases h
    | some x =>
      cases e2 : compsA n (u :: r) with
      | none => rw [e1, e2] at h; cases h
      | some y =>
        rw [e1, e2] at h
        cases h
        have lx : x.length = n := by
          unfold compT at e1
          split at e1
          · split at e1
            · cases e1; assumption
            · cases e1
          · split at e1
            · cases e1; exact List.length_replicate
            · cases e1
          · cases e1
        have ly : y.length = n := by
          have : ∀ {a : Ak} {as : List Ak}, compsA n a = some as → as.length = n := by
            intro a
            induction a with
            | nil => intro as h; cases h
            | cons t r ih =>
              intro as h
              cases r with
              | nil =>
                have h : compT n t = some as := h
                unfold compT at h
                split at h
                · split at h
                  · cases h; assumption
                  · cases h
                · split at h
                  · cases h; exact List.length_replicate
                  · cases h
                · cases h
              | cons u r =>
                have h : (match compT n t, compsA n (u :: r) with
                  | some x, some y => some (List.zipWith joinA x y)
                  | _, _ => none) = some as := h
                cases q1 : compT n t with
                | none => rw [q1] at h; cases h
                | some x =>
                  cases q2 : compsA n (u :: r) with
                  | none => rw [q1, q2] at h; cases h
                  | some y =>
                    rw [q1, q2] at h
                    cases h
                    have l2 := ih q2
                    have l1 : x.length = n := by
                      unfold compT at q1
                      split at q1
                      · split at q1
                        · cases q1; assumption
                        · cases q1
                      · split at q1
                        · cases q1; exact List.length_replicate
                        · cases q1
                      · cases q1
                    rw [List.length_zipWith]; omega
          exact this e2
        have hz : x.length = y.length := by omega
        cases g with
        | mk m g =>
          rcases List.mem_cons.mp m with rfl | m
          · obtain ⟨ds, rfl, _, gl⟩ := compT_ok g e1
            exact ⟨ds, rfl, by rw [List.length_zipWith]; omega, (GL.zipL (mrgT_ok ok 16) hz).1 gl⟩
          · obtain ⟨ds, rfl, _, gl⟩ := compsA_ok (.mk m g) e2
            exact ⟨ds, rfl, by rw [List.length_zipWith]; omega, (GL.zipL (mrgT_ok ok 16) hz).2 gl⟩
omit ok in
theorem bindsA_ok : ∀ {is : List Nat} {as : List Ak} {ds : List D} {ae ae' : Ae} {env : En}, bindsA is as ae = some ae' → GL N as ds → GE N ae env → ∃ env', bindT.bindTs is ds env = some env' ∧ GE N ae' env'
  | [], _, _, _, _, env, h, .nil, g => by cases h; exact ⟨env, rfl, g⟩
  | i :: is, _, _, ae, ae', env, h, .cons ga gl, g => by
    simp only [bindsA] at h
    cases es : ae[i]? with
    | none => rw [es] at h; cases h
    | some s =>
      rw [es] at h
      simp only at h
      split at h
      · rename_i hf
        obtain ⟨t, et, gs⟩ := g.get es
        have nb := free_ok gs hf
        obtain ⟨env', e2, g2⟩ := bindsA_ok h gl (g.set i (.val ga))
        refine ⟨env', ?_, g2⟩
        simp only [bindT.bindTs, et]
        cases t <;> first | exact e2 | exact absurd rfl (nb _)
      · cases h
  | [], _, _, _, _, _, h, .cons _ _, _ => by cases h
  | _ :: _, _, _, _, _, _, h, .nil, _ => by cases h
theorem bindA_ok {tg : Tg} {a : Ak} {d : D} {ae ae' : Ae} {env : En} (h : bindA N.view tg a ae = some ae') (ga : GA N a d) (g : GE N ae env) : ∃ env', bindT tg d env = some env' ∧ GE N ae' env' := by
  unfold bindA at h
  split at h
  · rename_i i
    cases es : ae[i]? with
    | none => rw [es] at h; cases h
    | some s =>
      rw [es] at h
      simp only at h
      split at h
      · rename_i hf
        cases h
        obtain ⟨t, et, gs⟩ := g.get es
        have nb := free_ok gs hf
        refine ⟨env.set i (.val d), ?_, g.set i (.val ga)⟩
        cases t <;> first | (simp only [bindT, et]; done) | exact absurd rfl (nb _)
      · cases h
  · rename_i is
    cases ec : compsA is.length (expA N.view a) with
    | none => rw [ec] at h; cases h
    | some as =>
      rw [ec] at h
      obtain ⟨ds, rfl, hl, gl⟩ := compsA_ok ok (expA_ok ok ga) ec
      obtain ⟨env', e, g'⟩ := bindsA_ok h gl g
      have := gl.len
      exact ⟨env', by simp only [bindT]; rw [if_pos (by omega)]; exact e, g'⟩
omit ok in
theorem splitOne_ok {i : Nat} {ae : Ae} {env : En} (g : GE N ae env) : ∃ e, e ∈ splitOne N.view i ae ∧ GE N e env := by
  unfold splitOne
  split
  · rename_i t u r es
    obtain ⟨x, ex, gs⟩ := g.get es
    cases gs with
    | val ga =>
      rename_i d
      cases ga with
      | mk m gt =>
        rename_i y
        refine ⟨ae.set i (.val [y]), List.mem_map.mpr ⟨y, m, rfl⟩, ?_⟩
        have hi : i < env.length := (List.getElem?_eq_some_iff.mp ex).1
        have := g.set i (GS.val (GA.one gt))
        have e2 : env.set i (.val d) = env := by
          have := (List.getElem?_eq_some_iff.mp ex).2
          rw [← this]; exact List.set_getElem_self hi
        rwa [e2] at this
  · exact ⟨ae, List.mem_singleton.mpr rfl, g⟩
omit ok in
theorem splitA_ok : ∀ {is : List Nat} {ae : Ae} {env : En}, GE N ae env → ∃ e, e ∈ splitA N.view is ae ∧ GE N e env
  | [], ae, _, g => ⟨ae, List.mem_singleton.mpr rfl, g⟩
  | i :: is, ae, env, g => by
    obtain ⟨e, m, g1⟩ := splitOne_ok (i := i) g
    obtain ⟨f, m2, g2⟩ := splitA_ok (is := is) g1
    exact ⟨f, List.mem_flatMap.mpr ⟨e, m, m2⟩, g2⟩
omit ok in
theorem wipeA_ok {ae : Ae} {env : En} (g : GE N ae env) : ∀ vs : List Nat, GE N (wipeA ae vs) (wipeE env vs)
  | [] => g
  | v :: vs => (wipeA_ok g vs).set v .emp
omit ok in
theorem backA_ok {old ae : Ae} {eo env : En} (go : GE N old eo) (g : GE N ae env) : ∀ vs : List Nat, GE N (backA old ae vs) (backE eo env vs)
  | [] => g
  | v :: vs => by
    refine (backA_ok go g vs).set v ?_
    by_cases hv : v < old.length
    · obtain ⟨t, et, gs⟩ := go.get (List.getElem?_eq_getElem hv)
      rw [List.getD_eq_getElem?_getD, List.getD_eq_getElem?_getD, et, List.getElem?_eq_getElem hv]
      exact gs
    · have := go.len
      rw [List.getD_eq_getElem?_getD, List.getD_eq_getElem?_getD, List.getElem?_eq_none (by omega), List.getElem?_eq_none (by omega)]
      exact .emp
omit ok in
theorem plains_ok {ae : Ae} {env : En} (g : GE N ae env) {vs : List Nat} (h : plainsA ae vs = true) : plainSlots env vs = true := by
  unfold plainsA at h
  unfold plainSlots
  rw [List.all_eq_true] at h ⊢
  intro i hi
  have h := h i hi
  cases es : ae[i]? with
  | none => rw [es] at h; cases h
  | some s =>
    rw [es] at h
    obtain ⟨t, et, gs⟩ := g.get es
    rw [et]
    cases gs <;> first | rfl | cases h
end
end Ofw
/-! Ofw A10: comprehensions and expressions on kinds, shown -/
namespace Ofw
open PySem L2
/-- an item's outcome -/
def GOp (N : Nm) (p : Option Ak) (o : Option D) : Prop := match p, o with
  | some a, some d => GA N a d
  | none, none => True
  | _, _ => False
def TurnOk (N : Nm) (turn : Ak → Ae → Option (List (Option Ak × Ae))) (f : D → En → Option (Option D × En)) : Prop :=
  ∀ a ae outs, turn a ae = some outs → ∀ d env, GA N a d → GE N ae env → ∃ o env', f d env = some (o, env') ∧ ∃ p, p ∈ outs ∧ GOp N p.1 o ∧ GE N p.2 env'
section
variable {N : Nm} (ok : NmOk N) {rf : Nat → List Bool} {C : CallT}
include ok
theorem outs_in {outs : List (Option Ak × Ae)} {acc : Ak} {p : Option Ak × Ae} {o : Option D} (m : p ∈ outs) (g : GOp N p.1 o) : ∀ x, x ∈ o.toList → GA N (joinAs (acc :: outs.filterMap (·.1))) x := by
  intro x hx
  obtain ⟨q, e⟩ := p
  cases o with
  | none => cases hx
  | some d =>
    rw [Option.toList_some, List.mem_singleton] at hx
    subst hx
    cases q with
    | none => exact g.elim
    | some a => exact joins_ok ok (List.mem_cons_of_mem _ (List.mem_filterMap.mpr ⟨_, m, rfl⟩)) g
theorem lc_stable {turn : Ak → Ae → Option (List (Option Ak × Ae))} {f : D → En → Option (Option D × En)} (ht : TurnOk N turn f) {a : Ak} {ae ae' : Ae} {outs : List (Option Ak × Ae)} {acc : Ak} (h1 : turn a ae = some outs) (h2 : joinEs (outs.map (·.2)) = some ae') (h3 : subE N.view ae' ae = true) :
    ∀ (its : List D) (env : En), (∀ d, d ∈ its → GA N a d) → GE N ae env → ∃ out env', lcLoop f its env = some (out, env') ∧ (∀ x, x ∈ out → GA N (joinAs (acc :: outs.filterMap (·.1))) x) ∧ (outs.all (·.1.isSome) = true → out.length = its.length) ∧ out.length ≤ its.length ∧ GE N ae env'
  | [], env, _, g => ⟨[], env, rfl, (fun _ h => by cases h), fun _ => rfl, Nat.le_refl _, g⟩
  | d :: its, env, m, g => by
    obtain ⟨o, env1, e1, p, mp, go, g1⟩ := ht a ae outs h1 d env (m d List.mem_cons_self) g
    have g2 := subE_ok ok h3 (joinEs_ok ok h2 (List.mem_map.mpr ⟨p, mp, rfl⟩) g1)
    obtain ⟨out, env2, e2, hq, hf, hl, g3⟩ := lc_stable ht h1 h2 h3 its env1 (fun x hx => m x (List.mem_cons_of_mem _ hx)) g2
    refine ⟨o.toList ++ out, env2, by simp only [lcLoop, e1, e2], fun x hx => ?_, fun ha => ?_, ?_, g3⟩
    · rcases List.mem_append.mp hx with h | h
      · exact outs_in ok mp go x h
      · exact hq x h
    · have hp := List.all_eq_true.mp ha p mp
      obtain ⟨q, e⟩ := p
      cases q with
      | none => cases hp
      | some a' =>
        cases o with
        | none => exact go.elim
        | some d' => rw [List.length_append, hf ha, List.length_cons]; show 1 + its.length = its.length + 1; omega
    · rw [List.length_append, List.length_cons]
      have : o.toList.length ≤ 1 := by cases o <;> simp
      omega
theorem lcGo_ok {turn : Ak → Ae → Option (List (Option Ak × Ae))} {f : D → En → Option (Option D × En)} (ht : TurnOk N turn f) {it : AIt} : ∀ (k i : Nat) {ae E : Ae} {acc A : Ak} {full F : Bool} {env : En} (its : List D), lcGo N.view turn it k i ae acc full = some (A, F, E) → i + its.length ≤ it.hi →
    (∀ j d, its[j]? = some d → GA N (it.item (i + j)) d) → GE N ae env → (∃ out env', lcLoop f its env = some (out, env') ∧ (∀ x, x ∈ out → GA N A x) ∧ (F = true → out.length = its.length) ∧ out.length ≤ its.length ∧ GE N E env') ∧ (∀ x, GA N acc x → GA N A x) ∧ (F = true → full = true)
  | 0, i, ae, E, acc, A, full, F, env, its, h, hl, m, g => by
    simp only [lcGo] at h
    split at h
    · cases h
      have e0 : its = [] := List.length_eq_zero_iff.mp (by omega)
      subst e0
      exact ⟨⟨[], env, rfl, (fun _ h => by cases h), fun _ => rfl, Nat.le_refl _, g⟩, fun _ h => h, fun h => h⟩
    · cases h
  | k + 1, i, ae, E, acc, A, full, F, env, its, h, hl, m, g => by
    simp only [lcGo] at h
    split at h
    · cases h
      have e0 : its = [] := List.length_eq_zero_iff.mp (by omega)
      subst e0
      exact ⟨⟨[], env, rfl, (fun _ h => by cases h), fun _ => rfl, Nat.le_refl _, g⟩, fun _ h => h, fun h => h⟩
    · cases h1 : turn (it.item i) ae with
      | none => rw [h1] at h; cases h
      | some outs =>
        rw [h1] at h
        simp only at h
        cases h2 : joinEs (outs.map (·.2)) with
        | none => rw [h2] at h; cases h
        | some ae' =>
          rw [h2] at h
          simp only at h
          have up : ∀ x, GA N acc x → GA N (joinAs (acc :: outs.filterMap (·.1))) x := fun x hx => joins_ok ok List.mem_cons_self hx
          split at h
          · rename_i hc
            simp only [Bool.and_eq_true] at hc
            cases h
            have ci : ∀ j, it.item j = it.item i := fun j => by cases it with | ex _ => cases hc.1 | con _ _ _ => rfl
            obtain ⟨out, env', e, hq, hf, hlen, gE⟩ := lc_stable ok ht (acc := acc) h1 h2 hc.2 its env (fun d hd => by
              obtain ⟨j, hj⟩ := List.getElem?_of_mem hd
              have := m j d hj
              rwa [ci] at this) g
            refine ⟨⟨out, env', e, hq, fun hF => ?_, hlen, gE⟩, up, fun hF => ?_⟩
            · simp only [Bool.and_eq_true] at hF; exact hf hF.2
            · simp only [Bool.and_eq_true] at hF; exact hF.1
          · cases h3 : joinE ae ae' with
            | none => rw [h3] at h; cases h
            | some e =>
              rw [h3] at h
              simp only at h
              cases its with
              | nil =>
                obtain ⟨⟨out, env', e1, _, _, _, gE⟩, up2, fF⟩ := lcGo_ok ht k (i + 1) (env := env) (full := full && outs.all (·.1.isSome)) [] h (by simp; omega) (fun j d hj => by simp at hj) ((joinE_ok ok h3).1 g)
                cases e1
                refine ⟨⟨[], env, rfl, (fun _ h => by cases h), fun _ => rfl, Nat.le_refl _, gE⟩, fun x hx => up2 x (up x hx), fun hF => ?_⟩
                have := fF hF
                simp only [Bool.and_eq_true] at this
                exact this.1
              | cons d its =>
                obtain ⟨o, env1, e1, p, mp, go, g1⟩ := ht _ ae outs h1 d env (m 0 d rfl) g
                have g2 := (joinE_ok ok h3).2 (joinEs_ok ok h2 (List.mem_map.mpr ⟨p, mp, rfl⟩) g1)
                obtain ⟨⟨out, env', e2, hq, hf, hlen, gE⟩, up2, fF⟩ := lcGo_ok ht k (i + 1) (full := full && outs.all (·.1.isSome)) its h (by simp at hl; omega) (fun j x hj => by
                  have := m (j + 1) x (by simpa using hj)
                  rwa [show i + (j + 1) = i + 1 + j by omega] at this) g2
                refine ⟨⟨o.toList ++ out, env', by simp only [lcLoop, e1, e2], fun x hx => ?_, fun hF => ?_, ?_, gE⟩, fun x hx => up2 x (up x hx), fun hF => ?_⟩
                · rcases List.mem_append.mp hx with h | h
                  · exact up2 x (outs_in ok mp go x h)
                  · exact hq x h
                · have hA := fF hF
                  simp only [Bool.and_eq_true] at hA
                  have hp := List.all_eq_true.mp hA.2 p mp
                  obtain ⟨q, e⟩ := p
                  cases q with
                  | none => cases hp
                  | some a' =>
                    cases o with
                    | none => exact go.elim
                    | some d' => rw [List.length_append, hf hF, List.length_cons]; show 1 + its.length = its.length + 1; omega
                · rw [List.length_append, List.length_cons]
                  have : o.toList.length ≤ 1 := by cases o <;> simp
                  omega
                · have := fF hF
                  simp only [Bool.and_eq_true] at this
                  exact this.1
omit ok in
theorem eltA_ok {ev : Ex → Ae → Option (Ar × Ae)} (hev : EOk N rf C ev) {elt : Ex} {vs : List Nat} {ae : Ae} {p : Option Ak × Ae} {env : En} (h : eltA ev elt vs ae = some p) (g : GE N ae env) :
    ∃ r en3, evalE rf C elt env = some (r, en3) ∧ plainSlots en3 vs = true ∧ GOp N p.1 (some r.d) ∧ GE N p.2 (wipeE en3 vs) := by
  unfold eltA at h
  cases e1 : ev elt ae with
  | none => rw [e1] at h; cases h
  | some q =>
    obtain ⟨r, e⟩ := q
    rw [e1] at h
    simp only at h
    split at h
    · rename_i hp
      cases h
      obtain ⟨rs, en3, e2, gr, g3⟩ := hev elt ae _ e1 env g
      exact ⟨rs, en3, e2, plains_ok g3 hp, gr.2, wipeA_ok g3 vs⟩
    · cases h
theorem turn1_ok {ev : Ex → Ae → Option (Ar × Ae)} (hev : EOk N rf C ev) {elt : Ex} {ifs : List Ex} {vs : List Nat} {ae : Ae} {outs : List (Option Ak × Ae)} {env : En} (h : turn1 N.view ev elt ifs vs ae = some outs) (g : GE N ae env) :
    ∃ o env', (match evalIfs rf C ifs env with
      | some (true, en2) => match evalE rf C elt en2 with
        | some (r, en3) => if plainSlots en3 vs then some (some r.d, wipeE en3 vs) else none
        | none => none
      | some (false, en2) => if plainSlots en2 vs then some (none, wipeE en2 vs) else none
      | none => none) = some (o, env') ∧ ∃ p, p ∈ outs ∧ GOp N p.1 o ∧ GE N p.2 env' := by
  unfold turn1 at h
  split at h
  · obtain ⟨p, hp, rfl⟩ := Option.map_eq_some_iff.mp h
    obtain ⟨r, en3, e1, e2, go, g3⟩ := eltA_ok hev hp g
    exact ⟨some r.d, wipeE en3 vs, by simp only [evalIfs, e1, e2, if_true], p, List.mem_singleton.mpr rfl, go, g3⟩
  · rename_i c _
    cases e1 : ev c ae with
    | none => rw [e1] at h; cases h
    | some q =>
      obtain ⟨r, e⟩ := q
      rw [e1] at h
      simp only at h
      cases e2 : truA N.view r.2 with
      | none => rw [e2] at h; cases h
      | some bs =>
        rw [e2] at h
        simp only at h
        obtain ⟨rs, en2, e3, gr, g2⟩ := hev c ae _ e1 env g
        obtain ⟨t, e4, mt⟩ := truA_ok ok gr.2 e2
        have mt' := List.contains_iff_mem.mpr mt
        cases t with
        | true =>
          rw [if_pos mt'] at h
          cases e5 : eltA ev elt vs e with
          | none => rw [e5] at h; cases h
          | some p =>
            rw [e5] at h
            simp only [Option.map_some] at h
            obtain ⟨r', en3, q1, q2, go, g3⟩ := eltA_ok hev e5 g2
            refine ⟨some r'.d, wipeE en3 vs, by simp only [evalIfs, e3, e4, Option.map_some, q1, q2, if_true], p, ?_, go, g3⟩
            split at h
            · split at h
              · cases h; exact List.mem_cons_of_mem _ (List.mem_singleton.mpr rfl)
              · cases h
            · cases h; exact List.mem_singleton.mpr rfl
        | false =>
          cases e5 : (if bs.contains true = true then Option.map (fun x => [x]) (eltA ev elt vs e) else some []) with
          | none => rw [e5] at h; cases h
          | some l =>
            rw [e5] at h
            simp only at h
            rw [if_pos mt'] at h
            split at h
            · rename_i hp
              cases h
              exact ⟨none, wipeE en2 vs, by simp only [evalIfs, e3, e4, Option.map_some, plains_ok g2 hp, if_true], _, List.mem_cons_self, trivial, wipeA_ok g2 vs⟩
            · cases h
theorem turnsA_ok {ev : Ex → Ae → Option (Ar × Ae)} {elt : Ex} {ifs : List Ex} {vs : List Nat} : ∀ {es : List Ae} {outs : List (Option Ak × Ae)} {e : Ae}, turnsA N.view ev elt ifs vs es = some outs → e ∈ es → ∃ x, turn1 N.view ev elt ifs vs e = some x ∧ ∀ p, p ∈ x → p ∈ outs
  | [], _, _, _, m => nomatch m
  | f :: es, outs, e, h, m => by
    simp only [turnsA] at h
    cases e1 : turn1 N.view ev elt ifs vs f with
    | none => rw [e1] at h; cases h
    | some x =>
      cases e2 : turnsA N.view ev elt ifs vs es with
      | none => rw [e1, e2] at h; cases h
      | some y =>
        rw [e1, e2] at h
        cases h
        rcases List.mem_cons.mp m with rfl | m
        · exact ⟨x, e1, fun p hp => List.mem_append_left _ hp⟩
        · obtain ⟨z, e3, hz⟩ := turnsA_ok e2 m
          exact ⟨z, e3, fun p hp => List.mem_append_right _ (hz p hp)⟩
theorem turnA_ok {ev : Ex → Ae → Option (Ar × Ae)} (hev : EOk N rf C ev) {elt : Ex} {tg : Tg} {ifs : List Ex} {vs : List Nat} : TurnOk N (turnA N.view ev elt tg ifs vs) (lcTurn rf C elt tg ifs vs) := by
  intro a ae outs h d env ga g
  unfold turnA at h
  cases e1 : bindA N.view tg a ae with
  | none => rw [e1] at h; cases h
  | some e =>
    rw [e1] at h
    simp only at h
    obtain ⟨en1, eb, g1⟩ := bindA_ok ok e1 ga g
    obtain ⟨f, mf, g2⟩ := splitA_ok (is := tgI tg) g1
    obtain ⟨x, e2, hx⟩ := turnsA_ok ok h mf
    obtain ⟨o, env', e3, p, mp, go, g3⟩ := turn1_ok ok hev e2 g2
    refine ⟨o, env', ?_, p, hx p mp, go, g3⟩
    unfold lcTurn
    rw [eb]
    exact e3
/-- expressions are as aE tells -/
theorem aE_ok {hd : Hdl} (hh : HOk N C hd) : ∀ k : Nat, EOk N rf C (aE N.view rf hd k)
  | 0 => fun e ae o h => by cases h
  | k + 1 => by
    have hev := aE_ok hh k
    intro e ae o h env g
    simp only [aE] at h
    split at h
    · rename_i i
      rw [eVar]
      split at h
      · rename_i es
        cases h
        obtain ⟨t, et, gs⟩ := g.get es
        cases gs with
        | val ga => rw [et]; exact ⟨_, _, rfl, .val ga, g⟩
      · rename_i es
        cases h
        obtain ⟨t, et, gs⟩ := g.get es
        cases gs with
        | own ga => rw [et]; exact ⟨_, _, rfl, .val ga, g.set i (.val ga)⟩
      · rename_i es
        cases h
        obtain ⟨t, et, gs⟩ := g.get es
        cases gs with
        | shV ga =>
          rename_i d0
          rw [et]
          refine ⟨_, _, rfl, .val ga, ?_⟩
          have := g.set i (GS.val ga)
          have hi : i < env.length := (List.getElem?_eq_some_iff.mp et).1
          have e2 : env.set i (.val d0) = env := by
            have := (List.getElem?_eq_some_iff.mp et).2
            rw [← this]; exact List.set_getElem_self hi
          rwa [e2] at this
        | shO ga => rw [et]; exact ⟨_, _, rfl, .val ga, g.set i (.val ga)⟩
      · cases h
    · cases h
    · obtain ⟨a, ha, rfl⟩ := Option.map_eq_some_iff.mp h
      obtain ⟨d, ed, ga⟩ := litA_ok (N := N) ha
      exact ⟨.val d, env, by rw [eLit, ed]; rfl, .val ga, g⟩
    · obtain ⟨a, ha, rfl⟩ := Option.map_eq_some_iff.mp h
      exact ⟨_, env, eGlob rf C _ _ env, .val (cstA_ok ha), g⟩
    · rename_i t as
      cases e1 : asA (aE N.view rf hd k) as ae with
      | none => rw [e1] at h; cases h
      | some p =>
        obtain ⟨xs, ae1⟩ := p
        rw [e1] at h
        simp only at h
        obtain ⟨ys, env1, e2, gv, g1⟩ := asA_ok hev e1 g
        obtain ⟨r, env2, e3, gr, g2⟩ := applyA_ok ok hh gv g1 h
        exact ⟨r, env2, by rw [eOp, e2]; exact e3, gr, g2⟩
    · rename_i a
      cases e1 : aE N.view rf hd k a ae with
      | none => rw [e1] at h; cases h
      | some p =>
        obtain ⟨r, ae1⟩ := p
        rw [e1] at h
        simp only at h
        obtain ⟨bs, hb, rfl⟩ := Option.map_eq_some_iff.mp h
        obtain ⟨rs, env1, e2, gr, g1⟩ := hev a ae _ e1 env g
        obtain ⟨t, e4, mt⟩ := truA_ok ok gr.2 hb
        exact ⟨.val (.bl (!t)), env1, by rw [eNot, e2]; simp only [e4, Option.map_some], .val (blsA_ok (notL_mem ok mt)), g1⟩
    · obtain ⟨r, env', e1, x⟩ := andA_ok ok hev h g
      exact ⟨r, env', by rw [eAnd]; exact e1, x⟩
    · obtain ⟨r, env', e1, x⟩ := orA_ok ok hev h g
      exact ⟨r, env', by rw [eOr]; exact e1, x⟩
    · rename_i c a b
      cases e1 : aE N.view rf hd k c ae with
      | none => rw [e1] at h; cases h
      | some p =>
        obtain ⟨r, ae1⟩ := p
        rw [e1] at h
        simp only at h
        cases e2 : truA N.view r.2 with
        | none => rw [e2] at h; cases h
        | some bs =>
          rw [e2] at h
          simp only at h
          obtain ⟨rs, env1, e3, gr, g1⟩ := hev c ae _ e1 env g
          obtain ⟨t, e4, mt⟩ := truA_ok ok gr.2 e2
          have mt' := List.contains_iff_mem.mpr mt
          rw [eIfe, e3]
          simp only [e4]
          cases t with
          | true =>
            rw [if_pos mt'] at h
            simp only
            split at h
            · cases q1 : aE N.view rf hd k a ae1 with
              | none => rw [q1] at h; cases h
              | some x =>
                cases q2 : aE N.view rf hd k b ae1 with
                | none => rw [q1, q2] at h; cases h
                | some y =>
                  rw [q1, q2] at h
                  obtain ⟨r2, env2, e6, g2⟩ := hev a ae1 _ q1 env1 g1
                  exact ⟨r2, env2, e6, (joinR_ok ok h).1 g2⟩
            · exact hev a ae1 _ h env1 g1
          | false =>
            simp only
            split at h
            · cases q1 : aE N.view rf hd k a ae1 with
              | none => rw [q1] at h; cases h
              | some x =>
                cases q2 : aE N.view rf hd k b ae1 with
                | none => rw [q1, q2] at h; cases h
                | some y =>
                  rw [q1, q2] at h
                  obtain ⟨r2, env2, e6, g2⟩ := hev b ae1 _ q2 env1 g1
                  exact ⟨r2, env2, e6, (joinR_ok ok h).2 g2⟩
            · exact hev b ae1 _ h env1 g1
    · rename_i p q a b c
      have cmp : ∀ (op : CmpOp) (x y : Ak) (d e : D) (z : Ar), GA N x d → GA N y e → opA N.view (.cmp op) [x, y] = some z → ∃ t, cmpD op d e = some t ∧ GA N z.2 (.bl t) := by
        intro op x y d e z gx gy hz
        obtain ⟨r, hr, gr⟩ := opA_ok ok (.cons gx (.cons gy .nil)) hz
        have hr : prCmp op [d, e] = some r := hr
        simp only [prCmp] at hr
        cases hc : cmpD op d e with
        | none => rw [hc] at hr; cases hr
        | some t => rw [hc] at hr; cases hr; exact ⟨t, rfl, gr.2⟩
      cases e1 : aE N.view rf hd k a ae with
      | none => rw [e1] at h; cases h
      | some pa =>
        obtain ⟨ra, ae1⟩ := pa
        rw [e1] at h
        simp only at h
        cases e2 : aE N.view rf hd k b ae1 with
        | none => rw [e2] at h; cases h
        | some pb =>
          obtain ⟨rb, ae2⟩ := pb
          rw [e2] at h
          simp only at h
          cases e3 : opA N.view (.cmp p) [ra.2, rb.2] with
          | none => rw [e3] at h; cases h
          | some x =>
            rw [e3] at h
            simp only at h
            cases e4 : truA N.view x.2 with
            | none => rw [e4] at h; cases h
            | some bs =>
              rw [e4] at h
              simp only at h
              obtain ⟨rsa, env1, q1, gra, g1⟩ := hev a ae _ e1 env g
              obtain ⟨rsb, env2, q2, grb, g2⟩ := hev b ae1 _ e2 env1 g1
              obtain ⟨t, q3, gt⟩ := cmp p _ _ _ _ x gra.2 grb.2 e3
              obtain ⟨t', q4, mt⟩ := truA_ok ok gt e4
              have et : t' = t := by simp only [truD, Option.some.injEq] at q4; exact q4.symm
              subst et
              have mt' := List.contains_iff_mem.mpr mt
              rw [eChain, q1]
              simp only [q2, q3]
              cases t' with
              | true =>
                rw [if_pos mt'] at h
                simp only
                cases e5 : aE N.view rf hd k c ae2 with
                | none => rw [e5] at h; cases h
                | some pc =>
                  obtain ⟨rc, ae3⟩ := pc
                  rw [e5] at h
                  simp only at h
                  cases e6 : opA N.view (.cmp q) [rb.2, rc.2] with
                  | none => rw [e6] at h; cases h
                  | some y =>
                    rw [e6] at h
                    simp only at h
                    obtain ⟨rsc, env3, q5, grc, g3⟩ := hev c ae2 _ e5 env2 g2
                    obtain ⟨u, q6, gu⟩ := cmp q _ _ _ _ y grb.2 grc.2 e6
                    simp only [q5, q6, Option.map_some]
                    refine ⟨_, _, rfl, ?_⟩
                    split at h
                    · exact (joinR_ok ok h).2 ⟨.val gu, g3⟩
                    · cases h; exact ⟨.val gu, g3⟩
              | false =>
                simp only
                refine ⟨_, _, rfl, ?_⟩
                split at h
                · cases e5 : aE N.view rf hd k c ae2 with
                  | none => rw [e5] at h; cases h
                  | some pc =>
                    obtain ⟨rc, ae3⟩ := pc
                    rw [e5] at h
                    simp only at h
                    cases e6 : opA N.view (.cmp q) [rb.2, rc.2] with
                    | none => rw [e6] at h; cases h
                    | some y =>
                      rw [e6] at h
                      simp only at h
                      exact (joinR_ok ok h).1 ⟨.val (.one .fa), g2⟩
                · cases h; exact ⟨.val (.one .fa), g2⟩
    · cases h
    · cases h
    · rename_i elt tg kk src ifs vs
      cases e1 : asA (aE N.view rf hd k) src ae with
      | none => rw [e1] at h; cases h
      | some p =>
        obtain ⟨xs, ae1⟩ := p
        rw [e1] at h
        simp only at h
        cases e2 : valsA xs with
        | none => rw [e2] at h; cases h
        | some as =>
          rw [e2] at h
          simp only at h
          cases e3 : itA N.view kk as with
          | none => rw [e3] at h; cases h
          | some it =>
            rw [e3] at h
            simp only at h
            split at h
            · rename_i hc
              simp only [Bool.and_eq_true, decide_eq_true_eq] at hc
              cases e4 : lcGo N.view (turnA N.view (aE N.view rf hd k) elt tg ifs vs) it (min it.hi 400) 0 (wipeA ae1 vs) [] true with
              | none => rw [e4] at h; cases h
              | some q =>
                obtain ⟨a, full, ae2⟩ := q
                rw [e4] at h
                cases h
                obtain ⟨ys, env1, q1, gv, g1⟩ := asA_ok hev e1 g
                obtain ⟨ds, q2, gl⟩ := valsA_ok gv e2
                obtain ⟨its, q3, h1, h2, hm⟩ := itA_ok ok gl e3
                obtain ⟨⟨out, env2, q4, hq, hF, hl, g2⟩, _, _⟩ := lcGo_ok ok (turnA_ok ok hev) (min it.hi 400) 0 its e4 (by omega) (fun j d hj => by rw [Nat.zero_add]; exact hm j d hj) (wipeA_ok g1 vs)
                refine ⟨.fr (.lst out), backE env1 env2 vs, lc_eq q1 q2 q3 (plains_ok g1 hc.1) (by omega) q4, .fr (.one (.lstN hq ?_ (by omega))), backA_ok g1 g2 vs⟩
                cases full with
                | true => rw [if_pos rfl, hF rfl]; exact h1
                | false => exact Nat.zero_le _
            · cases h
end
end Ofw
/-! Ofw A11: statements and defs on kinds -/
namespace Ofw
open PySem L2
inductive AFl where
  | nx | bk | ct | rt (r : Ar)
abbrev Aos := List (AFl × Ae)
inductive GF (N : Nm) : AFl → Fl → Prop where
  | nx : GF N .nx .nx
  | bk : GF N .bk .bk
  | ct : GF N .ct .ct
  | rt {r : Ar} {s : Rs} : GR N r s → GF N (.rt r) (.rt s)
def toAs (r : Ar) : As := if r.1 then .own r.2 else .val r.2
def freeA (ae : Ae) (i : Nat) : Bool := match ae[i]? with
  | some s => freeS s
  | none => false
def ownK (ae : Ae) (i : Nat) : Option Ak := match ae[i]? with
  | some (.own a) => some a
  | some (.bor a) => some a
  | _ => none
def putSlotA (ae : Ae) (i : Nat) (a : Ak) : Ae := ae.set i (putBorA (ae.getD i .emp) a)
def isLstK : Option Ak → Bool
  | some [.lst _] => true
  | some [.lstN _ _ _] => true
  | _ => false
section
variable (ev : Ex → Ae → Option (Ar × Ae))
def rsA : List Ex → Ae → Option (List Ar × Ae)
  | [], ae => some ([], ae)
  | a :: as, ae => match ev a ae with
    | some (r, ae1) => match rsA as ae1 with
      | some (rs, ae2) => some (r :: rs, ae2)
      | none => none
    | none => none
end
def setsA : List Nat → List Ar → Ae → Option Ae
  | [], [], ae => some ae
  | i :: is, r :: rs, ae => if freeA ae i then setsA is rs (ae.set i (toAs r)) else none
  | _, _, _ => none
/-- a list's item put otherwise -/
def setK (a : Ak) (k x : Ak) : Option Ak := match a, k with
  | [.lst as], [.int lo hi] => if lo = hi ∧ 0 ≤ lo ∧ lo < as.length then some [.lst (as.set lo.toNat x)] else if 0 ≤ lo ∧ hi < as.length then some [.lst (as.map fun y => joinA y x)] else none
  | [.lstN a l h], [.int lo hi] => if 0 ≤ lo ∧ hi < l then some [.lstN (joinA a x) l h] else none
  | _, _ => none
def appK (a x : Ak) : Option Ak := match a with
  | [.lst as] => if as.length < 12 then some [.lst (as ++ [x])] else if as.length < sizeLine then some [.lstN (joinAs (x :: as)) (as.length + 1) (as.length + 1)] else none
  | [.lstN a l h] => if h < sizeLine then some [.lstN (joinA a x) (l + 1) (h + 1)] else none
  | _ => none
def extK (a b : Ak) : Option Ak := match a, b with
  | [s], [t] => match lstV s, lstV t with
    | some (x, l, h), some (y, l', h') => if h + h' ≤ sizeLine then some [.lstN (joinA x y) (l + l') (h + h')] else none
    | some (x, l, h), none => match tupV t with
      | some (y, l', h') => if h + h' ≤ sizeLine then some [.lstN (joinA x y) (l + l') (h + h')] else none
      | none => none
    | _, _ => none
  | _, _ => none
def augK (N : Vw) (op : Operator) (a b : Ak) : Option Ak := match op with
  | .Add => match (expA N a), (expA N b) with
    | [s], [t] => if isIntA s && isIntA t then (addA s t).map (·.2) else none
    | _, _ => none
  | .Sub => match (expA N a), (expA N b) with
    | [s], [t] => if isIntA s && isIntA t then (subI s t).map (·.2) else none
    | _, _ => none
  | _ => none
/-- a slot's int, where a comparison with a written number told b -/
def refI (op : CmpOp) (c : Int) (b : Bool) (lo hi : Int) : Int × Int := match op, b with
  | .Lt, true => (lo, min hi (c - 1)) | .Lt, false => (max lo c, hi)
  | .LtE, true => (lo, min hi c) | .LtE, false => (max lo (c + 1), hi)
  | .Gt, true => (max lo (c + 1), hi) | .Gt, false => (lo, min hi c)
  | .GtE, true => (max lo c, hi) | .GtE, false => (lo, min hi (c - 1))
  | .Eq, true => (max lo c, min hi c) | .NotEq, false => (max lo c, min hi c)
  | .Eq, false => (if lo = c then lo + 1 else lo, if hi = c then hi - 1 else hi)
  | .NotEq, true => (if lo = c then lo + 1 else lo, if hi = c then hi - 1 else hi)
  | _, _ => (lo, hi)
/-- so the list isn't empty -/
def refN (op : CmpOp) (b : Bool) : Bool := match op, b with
  | .NotEq, true => true
  | .Eq, false => true
  | _, _ => false
def refA (e : Ex) (b : Bool) (ae : Ae) : Ae := match e with
  | .op (.cmp op) [.peek i, .lit (.int c)] => match ae[i]? with
    | some (.val [.int lo hi]) => ae.set i (.val [.int (refI op c b lo hi).1 (refI op c b lo hi).2])
    | _ => ae
  | .op (.cmp op) [.peek i, .op .lst []] => if refN op b then match ae[i]? with
      | some (.val [.lstN a l h]) => ae.set i (.val [.lstN a (max l 1) h])
      | some (.own [.lstN a l h]) => ae.set i (.own [.lstN a (max l 1) h])
      | _ => ae
    else ae
  | _ => ae
/-- the slots that an expression looks at -/
def seesE : Nat → Ex → List Nat
  | 0, _ => []
  | k + 1, e => match e with
    | .var i => [i]
    | .peek i => [i]
    | .op _ as => as.flatMap (seesE k)
    | .not a => seesE k a
    | .and as => as.flatMap (seesE k)
    | .or as => as.flatMap (seesE k)
    | .ife c a b => seesE k c ++ seesE k a ++ seesE k b
    | .chain _ _ a b c => seesE k a ++ seesE k b ++ seesE k c
    | _ => []
def capE (l : List Ae) : List Ae := if l.length ≤ 8 then l else match joinEs l with
  | some e => [e]
  | none => l
def nxs (os : Aos) : List Ae := os.filterMap fun o => match o.1 with
  | .nx => some o.2
  | _ => none
def conts (os : Aos) : List Ae := os.filterMap fun o => match o.1 with
  | .nx => some o.2
  | .ct => some o.2
  | _ => none
def brks (os : Aos) : Aos := os.filterMap fun o => match o.1 with
  | .bk => some (.nx, o.2)
  | _ => none
def rets (os : Aos) : Aos := os.filterMap fun o => match o.1 with
  | .rt r => some (.rt r, o.2)
  | _ => none
def notNx (os : Aos) : Aos := os.filterMap fun o => match o.1 with
  | .nx => none
  | f => some (f, o.2)
/-- all of some, one behind the other -/
def eachA {α β : Type} (f : α → Option (List β)) : List α → Option (List β)
  | [] => some []
  | x :: r => match f x, eachA f r with
    | some y, some z => some (y ++ z)
    | _, _ => none
section
variable (st : Sx → Ae → Option Aos)
def blkA : List Sx → Ae → Option Aos
  | [], ae => some [(.nx, ae)]
  | s :: ss, ae => match st s ae with
    | some os => match eachA (blkA ss) (capE (nxs os)) with
      | some r => some (notNx os ++ r)
      | none => none
    | none => none
end
def forGo (N : Vw) (turn : Ak → Ae → Option Aos) (it : AIt) : Nat → Nat → Ae → Option Aos
  | 0, i, ae => if it.hi ≤ i then some [(.nx, ae)] else none
  | k + 1, i, ae => if it.hi ≤ i then some [(.nx, ae)] else match turn (it.item i) ae with
    | some os => match conts os with
      | [] => some ((if it.lo ≤ i then [(.nx, ae)] else []) ++ (brks os ++ rets os))
      | c :: cs => match joinEs (c :: cs) with
        | some ae' => if it.cst && subE N ae' ae then some ((.nx, if i < it.lo then ae' else ae) :: (brks os ++ rets os)) else
            match (if i < it.lo then some ae' else joinE ae ae') with
            | some e => match forGo N turn it k (i + 1) e with
              | some r => some ((brks os ++ rets os) ++ r)
              | none => none
            | none => none
        | none => none
    | none => none
def aS (N : Vw) (rf : Nat → List Bool) (hd : Hdl) : Nat → Sx → Ae → Option Aos
  | 0, _, _ => none
  | k + 1, s, ae =>
    let ev := aE N rf hd 40
    let st := aS N rf hd k
    match s with
    | .asg i e => match ev e ae with
      | some (r, ae1) => if freeA ae1 i then some [(.nx, ae1.set i (toAs r))] else none
      | none => none
    | .asgT is e => match ev e ae with
      | some (r, ae1) => (bindA N (.tup is) r.2 ae1).map fun ae2 => [(.nx, ae2)]
      | none => none
    | .par is es => match rsA ev es ae with
      | some (rs, ae1) => (setsA is rs ae1).map fun ae2 => [(.nx, ae2)]
      | none => none
    | .seti i k e => match ev e ae with
      | some (r, ae1) => match ev k ae1 with
        | some (rk, ae2) => match ownK ae2 i with
          | some a => match setK a rk.2 r.2 with
            | some b => if (ownK ae1 i).isSome then some [(.nx, putSlotA ae2 i b)] else none
            | none => none
          | none => none
        | none => none
      | none => none
    | .aug i op e => match ae[i]? with
      | some (.val a) => match ev e ae with
        | some (r, ae1) => match augK N op a r.2 with
          | some b => if freeA ae1 i then some [(.nx, ae1.set i (.val b))] else none
          | none => none
        | none => none
      | _ => none
    | .app i e => match ev e ae with
      | some (r, ae1) => match ownK ae1 i with
        | some a => match appK a r.2 with
          | some b => if isLstK (ownK ae i) then some [(.nx, putSlotA ae1 i b)] else none
          | none => none
        | none => none
      | none => none
    | .ext i e => match ev e ae with
      | some (r, ae1) => match ownK ae1 i with
        | some a => match extK a r.2 with
          | some b => if isLstK (ownK ae i) then some [(.nx, putSlotA ae1 i b)] else none
          | none => none
        | none => none
      | none => none
    | .drop e => (ev e ae).map fun p => [(.nx, p.2)]
    | .ret e => match e with
      | .var i => match ae[i]? with
        | some (.own a) => some [(.rt (true, a), ae.set i .emp)]
        | some (.val a) => some [(.rt (false, a), ae)]
        | _ => none
      | e => (ev e ae).map fun p => [(.rt p.1, p.2)]
    | .retN => some [(.rt (false, [.non]), ae)]
    | .ife c a b => eachA (fun e => match ev c e with
        | some (r, e1) => match truA N r.2 with
          | some bs => match (if bs.contains true then blkA st a (refA c true e1) else some []), (if bs.contains false then blkA st b (refA c false e1) else some []) with
            | some x, some y => some (x ++ y)
            | _, _ => none
          | none => none
        | none => none) (splitA N (seesE 20 c).eraseDups ae)
    | .for_ tg kk src body => match asA ev src ae with
      | some (xs, ae1) => match valsA xs with
        | some as => match itA N kk as with
          | some it => forGo N (fun a e => match bindA N tg a e with
              | some e1 => blkA st body e1
              | none => none) it (min it.hi 400) 0 ae1
          | none => none
        | none => none
      | none => none
    | .pass => some [(.nx, ae)]
    | .brk => some [(.bk, ae)]
    | .cont => some [(.ct, ae)]
    | _ => none
/-! ### shown -/
def SOk (N : Nm) (f : Ae → Option Aos) (g : En → Option (Fl × En)) : Prop := ∀ ae os, f ae = some os → ∀ env, GE N ae env → ∃ fl env', g env = some (fl, env') ∧ ∃ o, o ∈ os ∧ GF N o.1 fl ∧ GE N o.2 env'
section
variable {N : Nm} (ok : NmOk N) {rf : Nat → List Bool} {C : CallT}
include ok
theorem eachA_ok {α β : Type} {f : α → Option (List β)} : ∀ {l : List α} {r : List β} {x : α}, eachA f l = some r → x ∈ l → ∃ y, f x = some y ∧ ∀ z, z ∈ y → z ∈ r
  | [], _, _, _, m => nomatch m
  | a :: l, r, x, h, m => by
    simp only [eachA] at h
    cases e1 : f a with
    | none => rw [e1] at h; cases h
    | some y =>
      cases e2 : eachA f l with
      | none => rw [e1, e2] at h; cases h
      | some z =>
        rw [e1, e2] at h
        cases h
        rcases List.mem_cons.mp m with rfl | m
        · exact ⟨y, e1, fun q hq => List.mem_append_left _ hq⟩
        · obtain ⟨w, e3, hw⟩ := eachA_ok e2 m
          exact ⟨w, e3, fun q hq => List.mem_append_right _ (hw q hq)⟩
theorem capE_ok {l : List Ae} {e : Ae} {env : En} (m : e ∈ l) (g : GE N e env) : ∃ f, f ∈ capE l ∧ GE N f env := by
  unfold capE
  split
  · exact ⟨e, m, g⟩
  · split
    · rename_i q hq
      exact ⟨q, List.mem_singleton.mpr rfl, joinEs_ok ok hq m g⟩
    · exact ⟨e, m, g⟩
theorem blkA_ok {st : Sx → Ae → Option Aos} {wf : Nat} (hs : ∀ s, SOk N (st s) (execS rf C wf s)) : ∀ ss : List Sx, SOk N (blkA st ss) (execB rf C wf ss)
  | [] => fun ae os h env g => by
    simp only [blkA, Option.some.injEq] at h
    subst h
    exact ⟨.nx, env, bNil rf C wf env, _, List.mem_singleton.mpr rfl, .nx, g⟩
  | s :: ss => fun ae os h env g => by
    simp only [blkA] at h
    cases e1 : st s ae with
    | none => rw [e1] at h; cases h
    | some os1 =>
      rw [e1] at h
      simp only at h
      cases e2 : eachA (blkA st ss) (capE (nxs os1)) with
      | none => rw [e2] at h; cases h
      | some r =>
        rw [e2] at h
        cases h
        obtain ⟨fl, env1, q1, o, mo, gf, g1⟩ := hs s ae os1 e1 env g
        obtain ⟨af, ae1⟩ := o
        rw [bCons]
        unfold evSeq
        rw [q1]
        cases gf with
        | nx =>
          have mn : ae1 ∈ nxs os1 := List.mem_filterMap.mpr ⟨_, mo, rfl⟩
          obtain ⟨f, mf, gf2⟩ := capE_ok ok mn g1
          obtain ⟨y, e3, hy⟩ := eachA_ok ok e2 mf
          obtain ⟨fl2, env2, q2, o2, mo2, gf3, g3⟩ := blkA_ok hs ss f y e3 env1 gf2
          exact ⟨fl2, env2, q2, o2, List.mem_append_right _ (hy _ mo2), gf3, g3⟩
        | bk => exact ⟨.bk, env1, rfl, _, List.mem_append_left _ (List.mem_filterMap.mpr ⟨_, mo, rfl⟩), .bk, g1⟩
        | ct => exact ⟨.ct, env1, rfl, _, List.mem_append_left _ (List.mem_filterMap.mpr ⟨_, mo, rfl⟩), .ct, g1⟩
        | rt gr => exact ⟨.rt _, env1, rfl, _, List.mem_append_left _ (List.mem_filterMap.mpr ⟨_, mo, rfl⟩), .rt gr, g1⟩
def FTurn (N : Nm) (turn : Ak → Ae → Option Aos) (f : D → En → Option (Fl × En)) : Prop := ∀ a ae os, turn a ae = some os → ∀ d env, GA N a d → GE N ae env → ∃ fl env', f d env = some (fl, env') ∧ ∃ o, o ∈ os ∧ GF N o.1 fl ∧ GE N o.2 env'
theorem for_stable {turn : Ak → Ae → Option Aos} {f : D → En → Option (Fl × En)} (ht : FTurn N turn f) {a : Ak} {ae ae' : Ae} {os : Aos} (h1 : turn a ae = some os) (h2 : joinEs (conts os) = some ae') (h3 : subE N.view ae' ae = true) :
    ∀ (its : List D) (env : En), (∀ d, d ∈ its → GA N a d) → GE N ae env → ∃ fl env', forLoop f its env = some (fl, env') ∧ ((fl = .nx ∧ ((its = [] ∧ env' = env) ∨ GE N ae' env')) ∨ ∃ o, o ∈ brks os ++ rets os ∧ GF N o.1 fl ∧ GE N o.2 env')
  | [], env, _, g => ⟨.nx, env, rfl, .inl ⟨rfl, .inl ⟨rfl, rfl⟩⟩⟩
  | d :: its, env, m, g => by
    obtain ⟨fl, env1, e1, o, mo, gf, g1⟩ := ht a ae os h1 d env (m d List.mem_cons_self) g
    obtain ⟨af, ae1⟩ := o
    have go : ae1 ∈ conts os → ∃ fl env', forLoop f its env1 = some (fl, env') ∧ ((fl = .nx ∧ ((d :: its = [] ∧ env' = env) ∨ GE N ae' env')) ∨ ∃ o, o ∈ brks os ++ rets os ∧ GF N o.1 fl ∧ GE N o.2 env') := fun mc => by
      have g2 := joinEs_ok ok h2 mc g1
      obtain ⟨fl2, env2, e2, hc⟩ := for_stable ht h1 h2 h3 its env1 (fun x hx => m x (List.mem_cons_of_mem _ hx)) (subE_ok ok h3 g2)
      refine ⟨fl2, env2, e2, ?_⟩
      rcases hc with ⟨rfl, hc⟩ | hc
      · refine .inl ⟨rfl, .inr ?_⟩
        rcases hc with ⟨rfl, rfl⟩ | hc
        · exact g2
        · exact hc
      · exact .inr hc
    simp only [forLoop, e1]
    cases gf with
    | nx => exact go (List.mem_filterMap.mpr ⟨_, mo, rfl⟩)
    | ct => exact go (List.mem_filterMap.mpr ⟨_, mo, rfl⟩)
    | bk => exact ⟨.nx, env1, rfl, .inr ⟨_, List.mem_append_left _ (List.mem_filterMap.mpr ⟨_, mo, rfl⟩), .nx, g1⟩⟩
    | rt gr => exact ⟨.rt _, env1, rfl, .inr ⟨_, List.mem_append_right _ (List.mem_filterMap.mpr ⟨_, mo, rfl⟩), .rt gr, g1⟩⟩
theorem forGo_ok {turn : Ak → Ae → Option Aos} {f : D → En → Option (Fl × En)} (ht : FTurn N turn f) {it : AIt} : ∀ (k i : Nat) {ae : Ae} {os : Aos} {env : En} (its : List D), forGo N.view turn it k i ae = some os → i + its.length ≤ it.hi → it.lo ≤ i + its.length →
    (∀ j d, its[j]? = some d → GA N (it.item (i + j)) d) → GE N ae env → ∃ fl env', forLoop f its env = some (fl, env') ∧ ∃ o, o ∈ os ∧ GF N o.1 fl ∧ GE N o.2 env'
  | 0, i, ae, os, env, its, h, hl, hlo, m, g => by
    simp only [forGo] at h
    split at h
    · cases h
      have e0 : its = [] := List.length_eq_zero_iff.mp (by omega)
      subst e0
      exact ⟨.nx, env, rfl, _, List.mem_singleton.mpr rfl, .nx, g⟩
    · cases h
  | k + 1, i, ae, os, env, its, h, hl, hlo, m, g => by
    simp only [forGo] at h
    split at h
    · cases h
      have e0 : its = [] := List.length_eq_zero_iff.mp (by omega)
      subst e0
      exact ⟨.nx, env, rfl, _, List.mem_singleton.mpr rfl, .nx, g⟩
    · cases h1 : turn (it.item i) ae with
      | none => rw [h1] at h; cases h
      | some os1 =>
        rw [h1] at h
        simp only at h
        cases hc : conts os1 with
        | nil =>
          rw [hc] at h
          cases h
          cases its with
          | nil =>
            simp only [List.length_nil, Nat.add_zero] at hlo
            rw [if_pos hlo]
            exact ⟨.nx, env, rfl, _, List.mem_append_left _ (List.mem_singleton.mpr rfl), .nx, g⟩
          | cons d its =>
            obtain ⟨fl, env1, e1, o, mo, gf, g1⟩ := ht _ ae os1 h1 d env (m 0 d rfl) g
            obtain ⟨af, ae1⟩ := o
            simp only [forLoop, e1]
            cases gf with
            | nx =>
              have mc : ae1 ∈ conts os1 := List.mem_filterMap.mpr ⟨_, mo, rfl⟩
              rw [hc] at mc
              cases mc
            | ct =>
              have mc : ae1 ∈ conts os1 := List.mem_filterMap.mpr ⟨_, mo, rfl⟩
              rw [hc] at mc
              cases mc
            | bk => exact ⟨.nx, env1, rfl, _, List.mem_append_right _ (List.mem_append_left _ (List.mem_filterMap.mpr ⟨_, mo, rfl⟩)), .nx, g1⟩
            | rt gr => exact ⟨.rt _, env1, rfl, _, List.mem_append_right _ (List.mem_append_right _ (List.mem_filterMap.mpr ⟨_, mo, rfl⟩)), .rt gr, g1⟩
        | cons c cs =>
          rw [hc] at h
          simp only at h
          cases h2 : joinEs (c :: cs) with
          | none => rw [h2] at h; cases h
          | some ae' =>
            rw [h2] at h
            simp only at h
            split at h
            · rename_i hst
              simp only [Bool.and_eq_true] at hst
              cases h
              have ci : ∀ j, it.item j = it.item i := fun j => by cases it with | ex _ => cases hst.1 | con _ _ _ => rfl
              obtain ⟨fl, env', e, hcase⟩ := for_stable ok ht h1 (by rw [hc]; exact h2) hst.2 its env (fun d hd => by
                obtain ⟨j, hj⟩ := List.getElem?_of_mem hd
                have := m j d hj
                rwa [ci] at this) g
              refine ⟨fl, env', e, ?_⟩
              rcases hcase with ⟨rfl, hcase⟩ | ⟨o, mo, gf, go⟩
              · refine ⟨_, List.mem_cons_self, .nx, ?_⟩
                show GE N (if i < it.lo then ae' else ae) env'
                rcases hcase with ⟨rfl, rfl⟩ | hcase
                · simp only [List.length_nil, Nat.add_zero] at hlo
                  rw [if_neg (by omega)]
                  exact g
                · split
                  · exact hcase
                  · exact subE_ok ok hst.2 hcase
              · exact ⟨o, List.mem_cons_of_mem _ mo, gf, go⟩
            · cases h3 : (if i < it.lo then some ae' else joinE ae ae') with
              | none => rw [h3] at h; cases h
              | some e =>
                rw [h3] at h
                simp only at h
                cases h4 : forGo N.view turn it k (i + 1) e with
                | none => rw [h4] at h; cases h
                | some r =>
                  rw [h4] at h
                  cases h
                  have up : GE N ae' env → GE N e env := fun ge => by
                    split at h3
                    · cases h3; exact ge
                    · exact (joinE_ok ok h3).2 ge
                  cases its with
                  | nil =>
                    simp only [List.length_nil, Nat.add_zero] at hlo
                    rw [if_neg (by omega)] at h3
                    obtain ⟨fl, env', e1, o, mo, x⟩ := forGo_ok ht k (i + 1) (env := env) [] h4 (by simp; omega) (by simp; omega) (fun j d hj => by simp at hj) ((joinE_ok ok h3).1 g)
                    cases e1
                    exact ⟨.nx, env, rfl, o, List.mem_append_right _ mo, x⟩
                  | cons d its =>
                    obtain ⟨fl, env1, e1, o, mo, gf, g1⟩ := ht _ ae os1 h1 d env (m 0 d rfl) g
                    obtain ⟨af, ae1⟩ := o
                    have go : ae1 ∈ conts os1 → ∃ fl env', forLoop f its env1 = some (fl, env') ∧ ∃ o, o ∈ (brks os1 ++ rets os1) ++ r ∧ GF N o.1 fl ∧ GE N o.2 env' := fun mc => by
                      have g2 : GE N e env1 := by
                        have ga := joinEs_ok ok h2 (hc ▸ mc) g1
                        split at h3
                        · cases h3; exact ga
                        · exact (joinE_ok ok h3).2 ga
                      obtain ⟨fl2, env2, e2, o2, mo2, x⟩ := forGo_ok ht k (i + 1) its h4 (by simp at hl; omega) (by simp at hlo; omega) (fun j x hj => by
                        have := m (j + 1) x (by simpa using hj)
                        rwa [show i + (j + 1) = i + 1 + j by omega] at this) g2
                      exact ⟨fl2, env2, e2, o2, List.mem_append_right _ mo2, x⟩
                    simp only [forLoop, e1]
                    cases gf with
                    | nx => exact go (List.mem_filterMap.mpr ⟨_, mo, rfl⟩)
                    | ct => exact go (List.mem_filterMap.mpr ⟨_, mo, rfl⟩)
                    | bk => exact ⟨.nx, env1, rfl, _, List.mem_append_left _ (List.mem_append_left _ (List.mem_filterMap.mpr ⟨_, mo, rfl⟩)), .nx, g1⟩
                    | rt gr => exact ⟨.rt _, env1, rfl, _, List.mem_append_left _ (List.mem_append_right _ (List.mem_filterMap.mpr ⟨_, mo, rfl⟩)), .rt gr, g1⟩
end
end Ofw
/-! Ofw A12: statements and defs on kinds, shown -/
namespace Ofw
open PySem L2
section
variable {N : Nm} (ok : NmOk N) {rf : Nat → List Bool} {C : CallT}
include ok
omit ok in
theorem freeA_ok {ae : Ae} {env : En} {i : Nat} (g : GE N ae env) (h : freeA ae i = true) : slotFree env i = true := by
  unfold freeA at h
  unfold slotFree
  cases es : ae[i]? with
  | none => rw [es] at h; cases h
  | some s =>
    rw [es] at h
    obtain ⟨t, et, gs⟩ := g.get es
    have nb := free_ok gs h
    rw [et]
    cases t <;> first | rfl | exact absurd rfl (nb _)
omit ok in
theorem toAs_ok {r : Ar} {rs : Rs} (g : GR N r rs) : GS N (toAs r) (toSl rs) := by
  obtain ⟨f, a⟩ := r
  obtain ⟨h, ga⟩ := g
  rcases h with ⟨e1, e2⟩ | ⟨e1, e2⟩
  · have e2 : f = false := e2
    subst e2
    rw [e1]
    exact .val ga
  · have e2 : f = true := e2
    subst e2
    rw [e1]
    exact .own ga
omit ok in
theorem ownK_ok {ae : Ae} {env : En} {i : Nat} {a : Ak} (g : GE N ae env) (h : ownK ae i = some a) : ∃ d, ownD env i = some d ∧ GA N a d := by
  unfold ownK at h
  unfold ownD
  split at h
  · rename_i es
    cases h
    obtain ⟨t, et, gs⟩ := g.get es
    cases gs with
    | own ga => rw [et]; exact ⟨_, rfl, ga⟩
  · rename_i es
    cases h
    obtain ⟨t, et, gs⟩ := g.get es
    cases gs with
    | bor ga => rw [et]; exact ⟨_, rfl, ga⟩
  · cases h
theorem putSlotA_ok {ae : Ae} {env : En} {i : Nat} {a : Ak} {d : D} (g : GE N ae env) (ga : GA N a d) : GE N (putSlotA ae i a) (putSlot env i d) := by
  unfold putSlotA putSlot
  by_cases hi : i < ae.length
  · obtain ⟨t, et, gs⟩ := g.get (List.getElem?_eq_getElem hi)
    have e1 : ae.getD i .emp = ae[i] := by rw [List.getD_eq_getElem?_getD, List.getElem?_eq_getElem hi]; rfl
    have e2 : env.getD i .emp = t := by rw [List.getD_eq_getElem?_getD, et]; rfl
    rw [e1, e2]
    exact g.set i (putBor_ok ok gs ga)
  · have h2 := g.len
    rw [List.set_eq_of_length_le (by omega), List.set_eq_of_length_le (by omega)]
    exact g
omit ok in
theorem isLstK_ok {ae : Ae} {env : En} {i : Nat} (g : GE N ae env) (h : isLstK (ownK ae i) = true) : isLst (ownD env i) = true := by
  cases e : ownK ae i with
  | none => rw [e] at h; cases h
  | some a =>
    obtain ⟨d, ed, ga⟩ := ownK_ok g e
    rw [e] at h
    unfold isLstK at h
    split at h
    · rename_i heq; cases heq; cases ga.of1; rw [ed]; rfl
    · rename_i heq; cases heq; cases ga.of1; rw [ed]; rfl
    · cases h
omit ok in
theorem rsA_ok {ev : Ex → Ae → Option (Ar × Ae)} (hev : EOk N rf C ev) : ∀ {as : List Ex} {ae ae' : Ae} {rs : List Ar} {env : En}, rsA ev as ae = some (rs, ae') → GE N ae env → ∃ ss env', evalRs rf C as env = some (ss, env') ∧ ss.length = rs.length ∧ (∀ (i : Nat) (r : Ar) (s : Rs), rs[i]? = some r → ss[i]? = some s → GR N r s) ∧ GE N ae' env'
  | [], ae, ae', rs, env, h, g => by
    simp only [rsA, Option.some.injEq, Prod.mk.injEq] at h
    obtain ⟨rfl, rfl⟩ := h
    exact ⟨[], env, rfl, rfl, fun i r s h => by simp at h, g⟩
  | a :: as, ae, ae', rs, env, h, g => by
    simp only [rsA] at h
    cases e1 : ev a ae with
    | none => rw [e1] at h; cases h
    | some p =>
      obtain ⟨r, ae1⟩ := p
      rw [e1] at h
      simp only at h
      cases e2 : rsA ev as ae1 with
      | none => rw [e2] at h; cases h
      | some p =>
        obtain ⟨rs', ae2⟩ := p
        rw [e2] at h
        cases h
        obtain ⟨s, env1, q1, gr, g1⟩ := hev a ae _ e1 env g
        obtain ⟨ss, env2, q2, hl, hr, g2⟩ := rsA_ok hev e2 g1
        refine ⟨s :: ss, env2, by simp only [evalRs, q1, q2], by simp [hl], fun i r' s' h1 h2 => ?_, g2⟩
        cases i with
        | zero => simp at h1 h2; subst h1; subst h2; exact gr
        | succ i => exact hr i r' s' (by simpa using h1) (by simpa using h2)
omit ok in
theorem setsA_ok : ∀ {is : List Nat} {rs : List Ar} {ss : List Rs} {ae ae' : Ae} {env : En}, setsA is rs ae = some ae' → ss.length = rs.length → (∀ (i : Nat) (r : Ar) (s : Rs), rs[i]? = some r → ss[i]? = some s → GR N r s) → GE N ae env → ∃ env', setAll is ss env = some env' ∧ GE N ae' env'
  | [], [], ss, ae, ae', env, h, hl, _, g => by
    cases h
    have : ss = [] := List.length_eq_zero_iff.mp hl
    subst this
    exact ⟨env, rfl, g⟩
  | i :: is, r :: rs, ss, ae, ae', env, h, hl, hr, g => by
    simp only [setsA] at h
    split at h
    · rename_i hf
      cases ss with
      | nil => cases hl
      | cons s ss =>
        obtain ⟨env', e, g'⟩ := setsA_ok h (by simpa using hl) (fun j r s h1 h2 => hr (j + 1) r s (by simpa using h1) (by simpa using h2)) (g.set i (toAs_ok (hr 0 r s rfl rfl)))
        exact ⟨env', by simp only [setAll, freeA_ok g hf, if_true]; exact e, g'⟩
    · cases h
  | [], _ :: _, _, _, _, _, h, _, _, _ => by cases h
  | _ :: _, [], _, _, _, _, h, _, _, _ => by cases h
theorem setK_ok {a k x b : Ak} {d e f : D} (ga : GA N a d) (gk : GA N k e) (gx : GA N x f) (h : setK a k x = some b) : ∃ d', putD d e f = some d' ∧ GA N b d' := by
  unfold setK at h
  split at h
  · rename_i as lo hi
    cases ga.of1
    cases gk.of1
    rename_i ds gl i h1 h2
    have hl := gl.len
    split at h
    · rename_i hc
      cases h
      have ei : i = lo := by omega
      refine ⟨.lst (ds.set i.toNat f), ?_, .one (.lst ?_)⟩
      · simp only [putD]
        unfold L2.ixN
        rw [if_pos (by omega), if_pos (by omega)]
        rfl
      · rw [ei]; exact gl.set _ gx
    · split at h
      · rename_i hc
        cases h
        refine ⟨.lst (ds.set i.toNat f), ?_, .one (.lst ?_)⟩
        · simp only [putD]
          unfold L2.ixN
          rw [if_pos (by omega), if_pos (by omega)]
          rfl
        · have key : ∀ (as : List Ak) (ds : List D) (n : Nat), GL N as ds → GL N (as.map fun y => joinA y x) (ds.set n f) := by
            intro as
            induction as with
            | nil => intro ds n g; cases g; exact .nil
            | cons a as ih =>
              intro ds n g
              cases g with
              | cons g1 g2 =>
                cases n with
                | zero =>
                  refine .cons ((join_ok ok).2 gx) ?_
                  have : ∀ (as : List Ak) (ds : List D), GL N as ds → GL N (as.map fun y => joinA y x) ds := by
                    intro as
                    induction as with
                    | nil => intro ds g; cases g; exact .nil
                    | cons a as ih2 => intro ds g; cases g with | cons g1 g2 => exact .cons ((join_ok ok).1 g1) (ih2 _ g2)
                  exact this as _ g2
                | succ n => exact .cons ((join_ok ok).1 g1) (ih _ n g2)
          exact key as ds _ gl
      · cases h
  · rename_i a l hh lo hi
    cases ga.of1
    cases gk.of1
    rename_i ds m h3 h4 i h1 h2
    split at h
    · rename_i hc
      cases h
      refine ⟨.lst (ds.set i.toNat f), ?_, .one (.lstN (fun y hy => ?_) (by simpa using h3) (by simpa using h4))⟩
      · simp only [putD]
        unfold L2.ixN
        rw [if_pos (by omega), if_pos (by omega)]
        rfl
      · rcases List.mem_or_eq_of_mem_set hy with hy | rfl
        · exact (join_ok ok).1 (m y hy)
        · exact (join_ok ok).2 gx
    · cases h
  · cases h
theorem appK_ok {a x b : Ak} {d f : D} (ga : GA N a d) (gx : GA N x f) (h : appK a x = some b) : ∃ ds, d = .lst ds ∧ ds.length < sizeLine ∧ GA N b (.lst (ds ++ [f])) := by
  have s12 : 12 < sizeLine := by decide
  unfold appK at h
  split at h
  · cases ga.of1
    rename_i as ds gl
    have hl := gl.len
    split at h
    · cases h
      exact ⟨ds, rfl, by omega, .one (.lst (gl.app (.cons gx .nil)))⟩
    · split at h
      · cases h
        refine ⟨ds, rfl, by omega, .one (.lstN (fun y hy => ?_) (by simp; omega) (by simp; omega))⟩
        rcases List.mem_append.mp hy with hy | hy
        · obtain ⟨q, mq, gq⟩ := gl.mem hy
          exact joins_ok ok (List.mem_cons_of_mem _ mq) gq
        · rw [List.mem_singleton.mp hy]; exact joins_ok ok List.mem_cons_self gx
      · cases h
  · cases ga.of1
    rename_i a l hh ds m h1 h2
    split at h
    · cases h
      refine ⟨ds, rfl, by omega, .one (.lstN (fun y hy => ?_) (by simp; omega) (by simp; omega))⟩
      rcases List.mem_append.mp hy with hy | hy
      · exact (join_ok ok).1 (m y hy)
      · rw [List.mem_singleton.mp hy]; exact (join_ok ok).2 gx
    · cases h
  · cases h
theorem extK_ok {a x b : Ak} {d f : D} (ga : GA N a d) (gx : GA N x f) (h : extK a x = some b) : ∃ ds es, d = .lst ds ∧ (f = .lst es ∨ f = .tup es) ∧ ds.length + es.length ≤ sizeLine ∧ GA N b (.lst (ds ++ es)) := by
  unfold extK at h
  split at h
  · split at h
    · rename_i e1 e2
      split at h
      · cases h
        obtain ⟨ds, rfl, m1, a1, b1⟩ := lstV_ok ok ga.of1 e1
        obtain ⟨es, rfl, m2, a2, b2⟩ := lstV_ok ok gx.of1 e2
        exact ⟨ds, es, rfl, .inl rfl, by omega, .one (.lstN (app_mem ok m1 m2) (by simp; omega) (by simp; omega))⟩
      · cases h
    · rename_i e1 e2
      split at h
      · rename_i e3
        split at h
        · cases h
          obtain ⟨ds, rfl, m1, a1, b1⟩ := lstV_ok ok ga.of1 e1
          obtain ⟨es, rfl, m2, a2, b2⟩ := tupV_ok ok gx.of1 e3
          exact ⟨ds, es, rfl, .inr rfl, by omega, .one (.lstN (app_mem ok m1 m2) (by simp; omega) (by simp; omega))⟩
        · cases h
      · cases h
    · cases h
  · cases h
theorem augK_ok {op : Operator} {a x b : Ak} {d f : D} (ga : GA N a d) (gx : GA N x f) (h : augK N.view op a x = some b) : ∃ d', augD op d f = some d' ∧ GA N b d' := by
  have ga := expA_ok ok ga
  have gx := expA_ok ok gx
  unfold augK at h
  split at h
  · split at h
    · rename_i e1 e2
      rw [e1] at ga
      rw [e2] at gx
      split at h
      · rename_i hc
        simp only [Bool.and_eq_true] at hc
        obtain ⟨y, hy, rfl⟩ := Option.map_eq_some_iff.mp h
        obtain ⟨i, rfl⟩ := isInt_ok hc.1 ga.of1
        obtain ⟨j, rfl⟩ := isInt_ok hc.2 gx.of1
        obtain ⟨r, er, gr⟩ := add_ok ok ga.of1 gx.of1 hy
        cases er
        exact ⟨_, rfl, gr.2⟩
      · cases h
    · cases h
  · split at h
    · rename_i e1 e2
      rw [e1] at ga
      rw [e2] at gx
      split at h
      · rename_i hc
        simp only [Bool.and_eq_true] at hc
        obtain ⟨y, hy, rfl⟩ := Option.map_eq_some_iff.mp h
        obtain ⟨i, rfl⟩ := isInt_ok hc.1 ga.of1
        obtain ⟨j, rfl⟩ := isInt_ok hc.2 gx.of1
        obtain ⟨r, er, gr⟩ := sub_ok ga.of1 gx.of1 hy
        cases er
        exact ⟨_, rfl, gr.2⟩
      · cases h
    · cases h
  · cases h
omit ok in
theorem refI_ok {op : CmpOp} {c i lo hi : Int} {b : Bool} (h1 : lo ≤ i) (h2 : i ≤ hi) (h : cmpD op (.int i) (.int c) = some b) : (refI op c b lo hi).1 ≤ i ∧ i ≤ (refI op c b lo hi).2 := by
  have eqq : eqD (.int i) (.int c) = some (i == c) := by simp [eqD, scalD, eqv]
  cases op <;> simp only [cmpD, Option.some.injEq, reduceCtorEq, eqq, Option.map_some] at h <;> subst h
  · by_cases e : i = c
    · subst e; simp [refI]; omega
    · simp only [beq_eq_false_iff_ne.mpr e, refI]; constructor <;> split <;> omega
  · by_cases e : i = c
    · subst e; simp [refI]; omega
    · simp only [beq_eq_false_iff_ne.mpr e, Bool.not_false, refI]; constructor <;> split <;> omega
  · by_cases e : i < c <;> simp only [e, decide_true, decide_false, refI] <;> omega
  · by_cases e : i ≤ c <;> simp only [e, decide_true, decide_false, refI] <;> omega
  · by_cases e : c < i <;> simp only [e, decide_true, decide_false, refI] <;> omega
  · by_cases e : c ≤ i <;> simp only [e, decide_true, decide_false, refI] <;> omega
theorem cmp_peek {op : CmpOp} {i : Nat} {e2 : Ex} {q : D} {b : Bool} {env env' : En} {r : Rs} (h : evalE rf C (.op (.cmp op) [.peek i, e2]) env = some (r, env')) (h2 : evalAs rf C [e2] env = some ([.v q], env)) (ht : truD r.d = some b) : env' = env ∧ ∃ d, (env[i]?).bind slotD = some d ∧ cmpD op d q = some b := by
  rw [eOp, aPeek] at h
  cases e1 : env[i]? with
  | none => rw [e1] at h; cases h
  | some s =>
    rw [e1] at h
    have h' : (match (match evalAs rf C [e2] env with
        | some (xs, env2) => some (Av1.r i :: xs, env2)
        | none => none) with
      | some (xs, env1) => applyT rf C (.cmp op) xs env1
      | none => none) = some (r, env') := by
      cases s <;> first | exact h | cases h
    rw [h2] at h'
    simp only [applyT, storing, Bool.false_eq_true, if_false, looks, look, e1, Option.bind_some] at h'
    cases e2 : slotD s with
    | none => rw [e2] at h'; cases h'
    | some d =>
      rw [e2] at h'
      simp only at h'
      cases e3 : primD (.cmp op) [d, q] with
      | none => rw [e3] at h'; cases h'
      | some q' =>
        rw [e3] at h'
        cases h'
        have e3 : prCmp op [d, q] = some r := e3
        simp only [prCmp] at e3
        cases e4 : cmpD op d q with
        | none => rw [e4] at e3; cases e3
        | some t' =>
          rw [e4] at e3
          cases e3
          simp only [Rs.d, truD, Option.some.injEq] at ht
          exact ⟨rfl, d, e2, by rw [← ht]; exact e4⟩
theorem refN_ok {op : CmpOp} {b : Bool} {ds : List D} (hn : refN op b = true) (h : cmpD op (.lst ds) (.lst []) = some b) : 1 ≤ ds.length := by
  cases ds with
  | cons d r => simp
  | nil =>
    have e : eqD (.lst []) (.lst []) = some true := rfl
    unfold refN at hn
    split at hn
    · simp only [cmpD, e] at h; cases h
    · simp only [cmpD, e] at h; cases h
    · cases hn
theorem set_self {env : En} {i : Nat} {s : Sl} (et : env[i]? = some s) : env.set i s = env := by
  have hi : i < env.length := (List.getElem?_eq_some_iff.mp et).1
  have := (List.getElem?_eq_some_iff.mp et).2
  rw [← this]; exact List.set_getElem_self hi
theorem refA_ok {e : Ex} {b : Bool} {ae : Ae} {env env' : En} {r : Rs} (g : GE N ae env') (h : evalE rf C e env = some (r, env')) (ht : truD r.d = some b) : GE N (refA e b ae) env' := by
  unfold refA
  split
  · rename_i op i c
    split
    · rename_i lo hi es
      obtain ⟨t, et, gs⟩ := g.get es
      have hp : env' = env ∧ ∃ d, (env[i]?).bind slotD = some d ∧ cmpD op d (.int c) = some b := by
        rw [eOp, aPeek] at h
        cases e1 : env[i]? with
        | none => rw [e1] at h; cases h
        | some s =>
          rw [e1] at h
          have h' : (match (match evalAs rf C [Ex.lit (Const.int c)] env with
              | some (xs, env2) => some (Av1.r i :: xs, env2)
              | none => none) with
            | some (xs, env1) => applyT rf C (.cmp op) xs env1
            | none => none) = some (r, env') := by
            cases s <;> first | exact h | cases h
          rw [aLit, eLit] at h'
          simp only [litD, Option.map_some, aNil] at h'
          simp only [applyT, storing, Bool.false_eq_true, if_false, looks, look, e1, Option.bind_some, Rs.d] at h'
          cases e2 : slotD s with
          | none => rw [e2] at h'; cases h'
          | some d =>
            rw [e2] at h'
            simp only at h'
            cases e3 : primD (.cmp op) [d, .int c] with
            | none => rw [e3] at h'; cases h'
            | some q =>
              rw [e3] at h'
              cases h'
              have e3 : prCmp op [d, .int c] = some r := e3
              simp only [prCmp] at e3
              cases e4 : cmpD op d (.int c) with
              | none => rw [e4] at e3; cases e3
              | some t' =>
                rw [e4] at e3
                cases e3
                simp only [Rs.d, truD, Option.some.injEq] at ht
                exact ⟨rfl, d, e2, by rw [← ht]; exact e4⟩
      obtain ⟨rfl, d, ed, hc⟩ := hp
      cases gs with
      | val ga =>
        rename_i d'
        rw [et] at ed
        cases ed
        cases ga.of1
        rename_i v h1 h2
        obtain ⟨q1, q2⟩ := refI_ok h1 h2 hc
        have := g.set i (GS.val (GA.one (GT.int q1 q2)))
        have hi : i < env'.length := (List.getElem?_eq_some_iff.mp et).1
        have e2 : env'.set i (.val (.int v)) = env' := by
          have := (List.getElem?_eq_some_iff.mp et).2
          rw [← this]; exact List.set_getElem_self hi
        rwa [e2] at this
    · exact g
  · rename_i op i
    split
    · rename_i hn
      have lt0 : evalAs rf C [.op .lst []] env = some ([.v (.lst [])], env) := by
        rw [aOp, eOp, aNil]
        simp [applyT, storing, valsOf, primD, prLst, aNil, Rs.d]
      obtain ⟨rfl, d, ed, hc⟩ := cmp_peek ok h lt0 ht
      split
      · rename_i a l h es
        obtain ⟨t, et, gs⟩ := g.get es
        cases gs with
        | val ga =>
          rw [et] at ed
          cases ed
          cases ga.of1
          rename_i ds m1 m2 m3
          have := g.set i (GS.val (GA.one (GT.lstN m1 (Nat.max_le.mpr ⟨m2, refN_ok ok hn hc⟩) m3)))
          rwa [set_self ok et] at this
      · rename_i a l h es
        obtain ⟨t, et, gs⟩ := g.get es
        cases gs with
        | own ga =>
          rw [et] at ed
          cases ed
          cases ga.of1
          rename_i ds m1 m2 m3
          have := g.set i (GS.own (GA.one (GT.lstN m1 (Nat.max_le.mpr ⟨m2, refN_ok ok hn hc⟩) m3)))
          rwa [set_self ok et] at this
      · exact g
    · exact g
  · exact g
/-- statements are as aS tells -/
theorem aS_ok {hd : Hdl} (hh : HOk N C hd) {wf : Nat} : ∀ (k : Nat) (s : Sx), SOk N (aS N.view rf hd k s) (execS rf C wf s)
  | 0, s => fun ae os h => by cases h
  | k + 1, s => by
    have hev := aE_ok (rf := rf) ok hh 40
    have hst := aS_ok hh (wf := wf) k
    have hblk := blkA_ok ok (rf := rf) (C := C) (wf := wf) hst
    intro ae os h env g
    have one : ∀ {f : AFl} {e : Ae}, (f, e) ∈ [(f, e)] := List.mem_singleton.mpr rfl
    simp only [aS] at h
    split at h
    · rename_i i e
      rw [sAsg]
      unfold evAsg
      cases e1 : aE N.view rf hd 40 e ae with
      | none => rw [e1] at h; cases h
      | some p =>
        obtain ⟨r, ae1⟩ := p
        rw [e1] at h
        simp only at h
        split at h
        · rename_i hf
          cases h
          obtain ⟨rs, env1, q1, gr, g1⟩ := hev e ae _ e1 env g
          rw [q1]
          simp only [freeA_ok g1 hf, if_true]
          exact ⟨_, _, rfl, _, one, .nx, g1.set i (toAs_ok gr)⟩
        · cases h
    · rename_i is e
      rw [sAsgT]
      unfold evAsgT
      cases e1 : aE N.view rf hd 40 e ae with
      | none => rw [e1] at h; cases h
      | some p =>
        obtain ⟨r, ae1⟩ := p
        rw [e1] at h
        simp only at h
        obtain ⟨ae2, h2, rfl⟩ := Option.map_eq_some_iff.mp h
        obtain ⟨rs, env1, q1, gr, g1⟩ := hev e ae _ e1 env g
        obtain ⟨env2, q2, g2⟩ := bindA_ok ok h2 gr.2 g1
        rw [q1]
        simp only [q2, Option.map_some]
        exact ⟨_, _, rfl, _, one, .nx, g2⟩
    · rename_i is es
      rw [sPar]
      unfold evPar
      cases e1 : rsA (aE N.view rf hd 40) es ae with
      | none => rw [e1] at h; cases h
      | some p =>
        obtain ⟨rs, ae1⟩ := p
        rw [e1] at h
        simp only at h
        obtain ⟨ae2, h2, rfl⟩ := Option.map_eq_some_iff.mp h
        obtain ⟨ss, env1, q1, hl, hr, g1⟩ := rsA_ok hev e1 g
        obtain ⟨env2, q2, g2⟩ := setsA_ok h2 hl hr g1
        rw [q1]
        simp only [q2, Option.map_some]
        exact ⟨_, _, rfl, _, one, .nx, g2⟩
    · rename_i i kk e
      rw [sSeti]
      unfold evSeti
      cases e1 : aE N.view rf hd 40 e ae with
      | none => rw [e1] at h; cases h
      | some p =>
        obtain ⟨r, ae1⟩ := p
        rw [e1] at h
        simp only at h
        cases e2 : aE N.view rf hd 40 kk ae1 with
        | none => rw [e2] at h; cases h
        | some p2 =>
          obtain ⟨rk, ae2⟩ := p2
          rw [e2] at h
          simp only at h
          cases e3 : ownK ae2 i with
          | none => rw [e3] at h; cases h
          | some a =>
            rw [e3] at h
            simp only at h
            cases e4 : setK a rk.2 r.2 with
            | none => rw [e4] at h; cases h
            | some b =>
              rw [e4] at h
              simp only at h
              split at h
              · rename_i hs
                cases h
                obtain ⟨rs, env1, q1, gr, g1⟩ := hev e ae _ e1 env g
                obtain ⟨rsk, env2, q2, grk, g2⟩ := hev kk ae1 _ e2 env1 g1
                obtain ⟨d, q3, gd⟩ := ownK_ok g2 e3
                obtain ⟨d', q4, gd'⟩ := setK_ok ok gd grk.2 gr.2 e4
                obtain ⟨a1, ea1⟩ := Option.isSome_iff_exists.mp hs
                obtain ⟨d1, q5, _⟩ := ownK_ok g1 ea1
                rw [q1]
                simp only [q2, q3, q4, q5, Option.isSome_some, if_true]
                exact ⟨_, _, rfl, _, one, .nx, putSlotA_ok ok g2 gd'⟩
              · cases h
    · rename_i i op e
      rw [sAug]
      unfold evAug
      split at h
      · rename_i a es
        cases e1 : aE N.view rf hd 40 e ae with
        | none => rw [e1] at h; cases h
        | some p =>
          obtain ⟨r, ae1⟩ := p
          rw [e1] at h
          simp only at h
          cases e2 : augK N.view op a r.2 with
          | none => rw [e2] at h; cases h
          | some b =>
            rw [e2] at h
            simp only at h
            split at h
            · rename_i hf
              cases h
              obtain ⟨t, et, gs⟩ := g.get es
              cases gs with
              | val ga =>
                obtain ⟨rs, env1, q1, gr, g1⟩ := hev e ae _ e1 env g
                obtain ⟨d', q2, gd⟩ := augK_ok ok ga gr.2 e2
                rw [et]
                simp only [q1, q2, freeA_ok g1 hf, if_true]
                exact ⟨_, _, rfl, _, one, .nx, g1.set i (.val gd)⟩
            · cases h
      · cases h
    · rename_i i e
      rw [sApp]
      unfold evApp
      cases e1 : aE N.view rf hd 40 e ae with
      | none => rw [e1] at h; cases h
      | some p =>
        obtain ⟨r, ae1⟩ := p
        rw [e1] at h
        simp only at h
        cases e2 : ownK ae1 i with
        | none => rw [e2] at h; cases h
        | some a =>
          rw [e2] at h
          simp only at h
          cases e3 : appK a r.2 with
          | none => rw [e3] at h; cases h
          | some b =>
            rw [e3] at h
            simp only at h
            split at h
            · rename_i hl
              cases h
              obtain ⟨rs, env1, q1, gr, g1⟩ := hev e ae _ e1 env g
              obtain ⟨d, q2, gd⟩ := ownK_ok g1 e2
              obtain ⟨ds, rfl, hz, gb⟩ := appK_ok ok gd gr.2 e3
              rw [q1]
              simp only [q2]
              rw [if_pos ⟨hz, isLstK_ok g hl⟩]
              exact ⟨_, _, rfl, _, one, .nx, putSlotA_ok ok g1 gb⟩
            · cases h
    · rename_i i e
      rw [sExt]
      unfold evExt
      cases e1 : aE N.view rf hd 40 e ae with
      | none => rw [e1] at h; cases h
      | some p =>
        obtain ⟨r, ae1⟩ := p
        rw [e1] at h
        simp only at h
        cases e2 : ownK ae1 i with
        | none => rw [e2] at h; cases h
        | some a =>
          rw [e2] at h
          simp only at h
          cases e3 : extK a r.2 with
          | none => rw [e3] at h; cases h
          | some b =>
            rw [e3] at h
            simp only at h
            split at h
            · rename_i hl
              cases h
              obtain ⟨rs, env1, q1, gr, g1⟩ := hev e ae _ e1 env g
              obtain ⟨d, q2, gd⟩ := ownK_ok g1 e2
              obtain ⟨ds, es, rfl, hes, hz, gb⟩ := extK_ok ok gd gr.2 e3
              rw [q1]
              rcases hes with hes | hes
              · simp only [q2, hes]
                rw [if_pos ⟨hz, isLstK_ok g hl⟩]
                exact ⟨_, _, rfl, _, one, .nx, putSlotA_ok ok g1 gb⟩
              · simp only [q2, hes]
                rw [if_pos ⟨hz, isLstK_ok g hl⟩]
                exact ⟨_, _, rfl, _, one, .nx, putSlotA_ok ok g1 gb⟩
            · cases h
    · rename_i e
      rw [sDrop]
      unfold evDrop
      obtain ⟨p, hp, rfl⟩ := Option.map_eq_some_iff.mp h
      obtain ⟨rs, env1, q1, gr, g1⟩ := hev e ae p hp env g
      rw [q1]
      exact ⟨_, _, rfl, _, one, .nx, g1⟩
    · rename_i e
      rw [sRet]
      unfold evRet
      split at h
      · rename_i i
        rw [tVar', eVar]
        split at h
        · rename_i es
          cases h
          obtain ⟨t, et, gs⟩ := g.get es
          cases gs with
          | own ga => rw [et]; exact ⟨_, _, rfl, _, one, .rt (.fr ga), g.set i .emp⟩
        · rename_i es
          cases h
          obtain ⟨t, et, gs⟩ := g.get es
          cases gs with
          | val ga => rw [et]; exact ⟨_, _, rfl, _, one, .rt (.val ga), g⟩
        · cases h
      · rename_i hv
        obtain ⟨p, hp, rfl⟩ := Option.map_eq_some_iff.mp h
        obtain ⟨rs, env1, q1, gr, g1⟩ := hev e ae p hp env g
        have : evalRet rf C e env = evalE rf C e env := by
          unfold evalRet
          split
          · exact absurd rfl (hv _)
          · rfl
        rw [this, q1]
        exact ⟨_, _, rfl, _, one, .rt gr, g1⟩
    · cases h
      rw [sRetN]
      exact ⟨_, _, rfl, _, one, .rt (.val (.one .non)), g⟩
    · rename_i c a b
      rw [sIfe]
      unfold evIfS
      obtain ⟨e0, m0, g0⟩ := splitA_ok (is := (seesE 20 c).eraseDups) g
      obtain ⟨y, hy, hin⟩ := eachA_ok ok h m0
      cases e1 : aE N.view rf hd 40 c e0 with
      | none => rw [e1] at hy; cases hy
      | some p =>
        obtain ⟨r, ae1⟩ := p
        rw [e1] at hy
        simp only at hy
        cases e2 : truA N.view r.2 with
        | none => rw [e2] at hy; cases hy
        | some bs =>
          rw [e2] at hy
          simp only at hy
          obtain ⟨rs, env1, q1, gr, g1⟩ := hev c e0 _ e1 env g0
          obtain ⟨t, q2, mt⟩ := truA_ok ok gr.2 e2
          have mt' := List.contains_iff_mem.mpr mt
          rw [q1]
          simp only [q2]
          cases e3 : (if bs.contains true = true then blkA (aS N.view rf hd k) a (refA c true ae1) else some []) with
          | none => rw [e3] at hy; cases hy
          | some x =>
            cases e4 : (if bs.contains false = true then blkA (aS N.view rf hd k) b (refA c false ae1) else some []) with
            | none => rw [e3, e4] at hy; cases hy
            | some z =>
              rw [e3, e4] at hy
              cases hy
              cases t with
              | true =>
                rw [if_pos mt'] at e3
                obtain ⟨fl, env2, q3, o, mo, gf, g2⟩ := hblk a _ _ e3 env1 (refA_ok ok g1 q1 q2)
                exact ⟨fl, env2, q3, o, hin o (List.mem_append_left _ mo), gf, g2⟩
              | false =>
                rw [if_pos mt'] at e4
                obtain ⟨fl, env2, q3, o, mo, gf, g2⟩ := hblk b _ _ e4 env1 (refA_ok ok g1 q1 q2)
                exact ⟨fl, env2, q3, o, hin o (List.mem_append_right _ mo), gf, g2⟩
    · rename_i tg kk src body
      cases e1 : asA (aE N.view rf hd 40) src ae with
      | none => rw [e1] at h; cases h
      | some p =>
        obtain ⟨xs, ae1⟩ := p
        rw [e1] at h
        simp only at h
        cases e2 : valsA xs with
        | none => rw [e2] at h; cases h
        | some as =>
          rw [e2] at h
          simp only at h
          cases e3 : itA N.view kk as with
          | none => rw [e3] at h; cases h
          | some it =>
            rw [e3] at h
            simp only at h
            obtain ⟨ys, env1, q1, gv, g1⟩ := asA_ok hev e1 g
            obtain ⟨ds, q2, gl⟩ := valsA_ok gv e2
            obtain ⟨its, q3, h1, h2, hm⟩ := itA_ok ok gl e3
            have ft : FTurn N (fun a e => match bindA N.view tg a e with
                | some e1 => blkA (aS N.view rf hd k) body e1
                | none => none) (fun d en => (bindT tg d en).bind (execB rf C wf body)) := by
              intro a e os hx d en ga ge
              simp only at hx
              cases e4 : bindA N.view tg a e with
              | none => rw [e4] at hx; cases hx
              | some e5 =>
                rw [e4] at hx
                obtain ⟨en1, q4, g4⟩ := bindA_ok ok e4 ga ge
                obtain ⟨fl, en2, q5, x⟩ := hblk body e5 os hx en1 g4
                exact ⟨fl, en2, by simp only [q4, Option.bind_some]; exact q5, x⟩
            obtain ⟨fl, env2, q4, x⟩ := forGo_ok ok ft (min it.hi 400) 0 its h (by omega) (by omega) (fun j d hj => by rw [Nat.zero_add]; exact hm j d hj) g1
            exact ⟨fl, env2, by rw [for_eq q1 q2 q3]; exact q4, x⟩
    · cases h; rw [sPass]; exact ⟨_, _, rfl, _, one, .nx, g⟩
    · cases h; rw [sBrk]; exact ⟨_, _, rfl, _, one, .bk, g⟩
    · cases h; rw [sCont]; exact ⟨_, _, rfl, _, one, .ct, g⟩
    · cases h
end
end Ofw
/-! Ofw A13: defs on kinds -/
namespace Ofw
open PySem L2
abbrev Afo := Ar × List (Option Ak)
def startA (rf : List Bool) (as : List Ak) (ns : Nat) : Ae := List.zipWith (fun b a => if b then As.bor a else As.val a) rf as ++ List.replicate (ns - rf.length) .emp
def outsA (rf : List Bool) (ae : Ae) : Option (List (Option Ak)) := (List.range rf.length).foldr (fun j acc => match acc with
  | some l => if rf[j]? = some true then (match ae[j]? with | some (As.bor a) => some (some a :: l) | _ => none) else some (none :: l)
  | none => none) (some [])
def joinOs : List (Option Ak) → List (Option Ak) → Option (List (Option Ak))
  | [], [] => some []
  | none :: a, none :: b => (joinOs a b).map (none :: ·)
  | some x :: a, some y :: b => (joinOs a b).map (some (joinA x y) :: ·)
  | _, _ => none
def joinF (x y : Afo) : Option Afo := if x.1.1 == y.1.1 then (joinOs x.2 y.2).map fun o => ((x.1.1, joinA x.1.2 y.1.2), o) else none
def finO (rf : List Bool) (o : AFl × Ae) : Option Afo := match o.1 with
  | .rt r => (outsA rf o.2).map fun l => (r, l)
  | .nx => (outsA rf o.2).map fun l => ((false, [.non]), l)
  | _ => none
def finA (rf : List Bool) : Aos → Option Afo
  | [] => none
  | o :: r => match r with
    | [] => finO rf o
    | _ :: _ => match finO rf o, finA rf r with
      | some x, some y => joinF x y
      | _, _ => none
def aFn (N : Vw) (ps : List FnD) (hd : Hdl) (fd : FnD) (as : List Ak) : Option Afo := if as.length = fd.rf.length then match blkA (aS N (rfOf ps) hd 40) fd.body (startA fd.rf as fd.ns) with
    | some os => finA fd.rf os
    | none => none
  else none
/-- calls: by hand, else by the body -/
def aRun (N : Vw) (ps : List FnD) (man : Hdl) : Nat → Hdl
  | 0 => man
  | m + 1 => fun f as => match man f as with
    | some r => some r
    | none => match ps[f]? with
      | some fd => aFn N ps (aRun N ps man m) fd as
      | none => none
section
variable {N : Nm} (ok : NmOk N)
include ok
omit ok in
theorem startA_ok {ns : Nat} : ∀ {rf : List Bool} {as : List Ak} {ds : List D}, GL N as ds → GE N (startA rf as ns) (startE rf ds ns) := by
  have emp : ∀ n : Nat, GE N (List.replicate n As.emp) (List.replicate n Sl.emp) := by
    intro n
    induction n with
    | zero => exact .nil
    | succ n ih => exact .cons .emp ih
  have app : ∀ {a b : Ae} {x y : En}, GE N a x → GE N b y → GE N (a ++ b) (x ++ y) := by
    intro a b x y g h
    induction g with
    | nil => exact h
    | cons g _ ih => exact .cons g ih
  intro rf as ds g
  unfold startA startE
  refine app ?_ (emp _)
  induction rf generalizing as ds with
  | nil => exact .nil
  | cons b rf ih =>
    cases g with
    | nil => exact .nil
    | cons g1 g2 =>
      refine .cons ?_ (ih g2)
      cases b
      · exact .val g1
      · exact .bor g1
omit ok in
theorem outsA_ok {rf : List Bool} {ae : Ae} {env : En} {l : List (Option Ak)} (g : GE N ae env) (h : outsA rf ae = some l) : GO (N := N) l (outsOf rf env) := by
  unfold outsA at h
  unfold outsOf
  generalize List.range rf.length = js at h
  induction js generalizing l with
  | nil => cases h; exact .nil
  | cons j js ih =>
    rw [List.foldr_cons] at h
    cases e : List.foldr (fun j acc => match acc with
      | some l => if rf[j]? = some true then (match ae[j]? with | some (As.bor a) => some (some a :: l) | _ => none) else some (none :: l)
      | none => none) (some []) js with
    | none => rw [e] at h; cases h
    | some l1 =>
      rw [e] at h
      have ih := ih e
      simp only at h
      rw [List.map_cons]
      by_cases hr : rf[j]? = some true
      · rw [if_pos hr] at h ⊢
        split at h
        · rename_i es
          cases h
          obtain ⟨t, et, gs⟩ := g.get es
          cases gs with
          | bor ga => rw [et]; exact .one ga ih
        · cases h
      · rw [if_neg hr] at h ⊢
        cases h
        exact .non ih
theorem joinOs_ok : ∀ {a b c : List (Option Ak)} {d : List (Option D)}, joinOs a b = some c → (GO (N := N) a d → GO (N := N) c d) ∧ (GO (N := N) b d → GO (N := N) c d)
  | [], [], _, _, h => by cases h; exact ⟨id, id⟩
  | none :: a, none :: b, c, d, h => by
    simp only [joinOs] at h
    obtain ⟨q, hq, rfl⟩ := Option.map_eq_some_iff.mp h
    refine ⟨fun g => ?_, fun g => ?_⟩ <;> cases g with
    | non g => first | exact .non ((joinOs_ok hq).1 g) | exact .non ((joinOs_ok hq).2 g)
  | some x :: a, some y :: b, c, d, h => by
    simp only [joinOs] at h
    obtain ⟨q, hq, rfl⟩ := Option.map_eq_some_iff.mp h
    refine ⟨fun g => ?_, fun g => ?_⟩
    · cases g with
      | one ga g => exact .one ((join_ok ok).1 ga) ((joinOs_ok hq).1 g)
    · cases g with
      | one ga g => exact .one ((join_ok ok).2 ga) ((joinOs_ok hq).2 g)
  | [], _ :: _, _, _, h => by cases h
  | none :: _, [], _, _, h => by cases h
  | some _ :: _, [], _, _, h => by cases h
  | none :: _, some _ :: _, _, _, h => by cases h
  | some _ :: _, none :: _, _, _, h => by cases h
/-- what a def gives -/
def GFo (N : Nm) (x : Afo) (r : Rs) (os : List (Option D)) : Prop := GR N x.1 r ∧ GO (N := N) x.2 os
theorem joinF_ok {x y z : Afo} {r : Rs} {os : List (Option D)} (h : joinF x y = some z) : (GFo N x r os → GFo N z r os) ∧ (GFo N y r os → GFo N z r os) := by
  unfold joinF at h
  split at h
  · rename_i hb
    have hb := eq_of_beq hb
    obtain ⟨o, ho, rfl⟩ := Option.map_eq_some_iff.mp h
    exact ⟨fun g => ⟨g.1.up rfl fun d => (join_ok ok).1, (joinOs_ok ok ho).1 g.2⟩, fun g => ⟨g.1.up hb.symm fun d => (join_ok ok).2, (joinOs_ok ok ho).2 g.2⟩⟩
  · cases h
omit ok in
theorem finO_ok {rf : List Bool} {o : AFl × Ae} {x : Afo} {fl : Fl} {env : En} (h : finO rf o = some x) (gf : GF N o.1 fl) (g : GE N o.2 env) : ∃ r os, fin rf (some (fl, env)) = some (r, os) ∧ GFo N x r os := by
  obtain ⟨af, ae⟩ := o
  cases gf with
  | nx =>
    simp only [finO] at h
    obtain ⟨l, hl, rfl⟩ := Option.map_eq_some_iff.mp h
    exact ⟨_, _, rfl, .val (.one .non), outsA_ok g hl⟩
  | bk => cases h
  | ct => cases h
  | rt gr =>
    simp only [finO] at h
    obtain ⟨l, hl, rfl⟩ := Option.map_eq_some_iff.mp h
    exact ⟨_, _, rfl, gr, outsA_ok g hl⟩
theorem finA_ok {rf : List Bool} : ∀ {os : Aos} {x : Afo} {o : AFl × Ae} {fl : Fl} {env : En}, finA rf os = some x → o ∈ os → GF N o.1 fl → GE N o.2 env → ∃ r l, fin rf (some (fl, env)) = some (r, l) ∧ GFo N x r l
  | [], _, _, _, _, h, _, _, _ => by cases h
  | [p], _, o, _, _, h, m, gf, g => by rw [List.mem_singleton.mp m] at gf g; exact finO_ok h gf g
  | p :: q :: r, x, o, fl, env, h, m, gf, g => by
    have h9 : (match finO rf p, finA rf (q :: r) with
      | some x, some y => joinF x y
      | _, _ => none) = some x := h
    clear h
    cases e1 : finO rf p with
    | none => rw [e1] at h9; cases h9
    | some y =>
      cases e2 : finA rf (q :: r) with
      | none => rw [e1, e2] at h9; cases h9
      | some z =>
        rw [e1, e2] at h9
        rcases List.mem_cons.mp m with rfl | m
        · obtain ⟨r1, l1, e3, g3⟩ := finO_ok e1 gf g
          exact ⟨r1, l1, e3, (joinF_ok ok h9).1 g3⟩
        · obtain ⟨r1, l1, e3, g3⟩ := finA_ok e2 m gf g
          exact ⟨r1, l1, e3, (joinF_ok ok h9).2 g3⟩
/-- calls are as aRun tells, where there is depth enough -/
theorem aRun_ok {ps : List FnD} {wf K0 : Nat} {man : Hdl} (hm : ∀ n, K0 ≤ n → HOk N (runF ps wf n) man) : ∀ (m n : Nat), K0 + m ≤ n → HOk N (runF ps wf n) (aRun N.view ps man m)
  | 0, n, hn => hm n hn
  | m + 1, n, hn => by
    intro f as r outs h ds gl
    simp only [aRun] at h
    cases e0 : man f as with
    | some p =>
      rw [e0] at h
      cases h
      exact hm n (by omega) f as r outs e0 ds gl
    | none =>
      rw [e0] at h
      simp only at h
      obtain ⟨n', rfl⟩ : ∃ n', n = n' + 1 := ⟨n - 1, by omega⟩
      cases e1 : ps[f]? with
      | none => rw [e1] at h; cases h
      | some fd =>
        rw [e1] at h
        simp only [aFn] at h
        split at h
        · rename_i hl
          cases e2 : blkA (aS N.view (rfOf ps) (aRun N.view ps man m) 40) fd.body (startA fd.rf as fd.ns) with
          | none => rw [e2] at h; cases h
          | some os =>
            rw [e2] at h
            simp only at h
            have ih := aRun_ok hm m n' (by omega)
            obtain ⟨fl, env', q1, o, mo, gf, g⟩ := blkA_ok ok (rf := rfOf ps) (C := runF ps wf n') (wf := wf) (aS_ok ok ih 40) fd.body _ _ e2 _ (startA_ok (rf := fd.rf) (ns := fd.ns) gl)
            obtain ⟨rs, l, q2, gfo⟩ := finA_ok ok h mo gf g
            refine ⟨rs, l, ?_, gfo.1, gfo.2⟩
            rw [run_fn e1 (by rw [← gl.len]; exact hl), q1]
            exact q2
        · cases h
/-- what is told of a call, in fewer words -/
def tells1 (N : Vw) (o : Option Afo) (fr : Bool) (a : Ak) (outs : List (Option Ak)) : Bool := match o with
  | some x => (x.1.1 == fr) && subA N 24 x.1.2 a && decide (x.2.length = outs.length) && (x.2.zip outs).all fun p => match p.1, p.2 with
    | some u, some v => subA N 24 u v
    | none, none => true
    | _, _ => false
  | none => false
theorem tells1_ok {hd : Hdl} {C : CallT} (hh : HOk N C hd) {f : Nat} {as : List Ak} {fr : Bool} {a : Ak} {outs : List (Option Ak)} (h : tells1 N.view (hd f as) fr a outs = true) {ds : List D} (g : GL N as ds) : ∃ rs os, C f ds = some (rs, os) ∧ GR N (fr, a) rs ∧ GO (N := N) outs os := by
  unfold tells1 at h
  cases e : hd f as with
  | none => rw [e] at h; cases h
  | some x =>
    obtain ⟨r, l⟩ := x
    rw [e] at h
    simp only [Bool.and_eq_true, decide_eq_true_eq] at h
    obtain ⟨⟨⟨h1, h2⟩, h3⟩, h4⟩ := h
    obtain ⟨rs, os, e1, gr, go⟩ := hh f as r l e ds g
    refine ⟨rs, os, e1, gr.up (eq_of_beq h1) fun d => subA_ok ok h2, ?_⟩
    clear e e1 gr
    induction go generalizing outs with
    | nil =>
      cases outs with
      | nil => exact .nil
      | cons _ _ => cases h3
    | non _ ih =>
      cases outs with
      | nil => cases h3
      | cons y outs =>
        rw [List.zip_cons_cons, List.all_cons, Bool.and_eq_true] at h4
        cases y with
        | some _ => cases h4.1
        | none => exact .non (ih h4.2 (by simpa using h3))
    | one ga _ ih =>
      cases outs with
      | nil => cases h3
      | cons y outs =>
        rw [List.zip_cons_cons, List.all_cons, Bool.and_eq_true] at h4
        cases y with
        | none => cases h4.1
        | some v => exact .one (subA_ok ok h4.1 ga) (ih h4.2 (by simpa using h3))
end
end Ofw
/-! Ofw A14: repr on kinds -/
namespace Ofw
open PySem L2
/-- a bound for what repr writes -/
def repA (V : Vw) : Nat → At → Option Nat
  | 0, _ => none
  | k + 1, t =>
    let reps : Ak → Option Nat := fun a => a.foldl (fun acc t => match acc, repA V k t with | some m, some n => some (max m n) | _, _ => none) (some 0)
    match t with
    | .non => some 4
    | .tr => some 5 | .fa => some 5
    | .int lo hi => if (max lo.natAbs hi.natAbs).log2 < 1900 then some ((max lo.natAbs hi.natAbs).log2 + 2) else none
    | .str n => some (10 * n + 2)
    | .txt x => if PyData.strOk x then some (10 * x.length + 2) else none
    | .tup as => (as.foldl (fun acc a => match acc, reps a with | some m, some n => some (m + n + 2) | _, _ => none) (some 3))
    | .lst as => (as.foldl (fun acc a => match acc, reps a with | some m, some n => some (m + n + 2) | _, _ => none) (some 3))
    | .tupN a _ h => (reps a).map fun n => (n + 2) * h + 3
    | .lstN a _ h => (reps a).map fun n => (n + 2) * h + 3
    | .nam i c => reps (V i c)
    | _ => none
def reprK (V : Vw) (a : Ak) : Bool := a.all fun t => match repA V 24 t, depA V 24 t with
  | some n, some m => decide (n ≤ sizeLine) && decide (m ≤ 60)
  | _, _ => false
mutual
theorem okR_of : ∀ d : D, okD d = true → okR d = true
  | .non, _ => by simp [okR]
  | .bl _, _ => by simp [okR]
  | .int _, _ => by simp [okR]
  | .str _, h => by simpa [okR, okD] using h
  | .tup ds, h => by simp only [okR]; exact okRs_of ds (by simpa [okD] using h)
  | .lst ds, h => by simp only [okR]; exact okRs_of ds (by simpa [okD] using h)
  | .dic _, h => by simp [okD] at h
  | .scr _, h => by simp [okD] at h
theorem okRs_of : ∀ ds : List D, okDs ds = true → okRs ds = true
  | [], _ => by simp [okRs]
  | d :: ds, h => by
    simp only [okDs, Bool.and_eq_true] at h
    simp only [okRs, okR_of d h.1, okRs_of ds h.2, Bool.and_self]
end
theorem tupleText_le (ts : List Str) : (tupleText ts).length ≤ (ts.map (·.length)).sum + 2 * ts.length + 3 := by
  unfold tupleText
  rw [strLen_append, strLen_append]
  have e1 : ((("(" : String) : Str)).length = 1 := rfl
  have e3 : (((if ts.length == 1 then ",)" else ")" : String) : Str)).length ≤ 2 := by split <;> decide
  rw [e1]
  have e4 : piled ts = (ts.map (·.length)).sum + 2 * ts.length := by
    induction ts with
    | nil => rfl
    | cons t r ih => rw [piled_cons, List.map_cons, List.sum_cons, List.length_cons, ih (by split <;> decide)]; omega
  by_cases h : ts = []
  · subst h
    have : (Str.join ", " ([] : List Str)).length = 0 := rfl
    rw [this]
    omega
  · have := join_length_add ts h
    omega
theorem shown_int {i : Int} {m : Nat} (h : i.natAbs ≤ m) (hm : m.log2 < 1900) : (PyData.int i).showable = true ∧ (PyData.int i).shown.length ≤ m.log2 + 2 := by
  have hl : i.natAbs.log2 ≤ m.log2 := by
    rcases Nat.eq_zero_or_pos i.natAbs with e | e
    · rw [e]; exact Nat.zero_le _
    · have hm0 : m ≠ 0 := by omega
      exact Nat.lt_succ_iff.mp ((Nat.log2_lt (by omega)).mpr (Nat.lt_of_le_of_lt h ((Nat.log2_lt hm0).mp (Nat.lt_succ_self _))))
  refine ⟨by simp only [PyData.showable]; exact decide_eq_true (by omega), ?_⟩
  simp only [PyData.shown]
  show (Str.ofString (toString i)).length ≤ _
  rw [ofString_length]
  exact int_text_length_le (by omega) (by omega)
theorem shown_str {x : Str} (h : PyData.strOk x = true) : (PyData.str x).showable = true ∧ (PyData.str x).shown.length ≤ 10 * x.length + 2 := by
  refine ⟨by simp only [PyData.showable], ?_⟩
  simp only [PyData.shown]
  refine StrLaws.reprText_len x fun c hc => ?_
  have := (tx_iff (k := x.length) (x := x)).mp ⟨Nat.le_refl _, h⟩
  have := this.2 c hc
  exact Nat.lt_trans this (by decide)
section
variable {N : Nm} (ok : NmOk N)
include ok
theorem repA_ok : ∀ (k : Nat) {t : At} {n : Nat} {d : D}, repA N.view k t = some n → GT N t d → (toP d).showable = true ∧ (toP d).shown.length ≤ n
  | 0, _, _, _, h, _ => by cases h
  | k + 1, t, n, d, h, g => by
    have ih := fun {t : At} {n : Nat} {d : D} => repA_ok k (t := t) (n := n) (d := d)
    have fold : ∀ (a : Ak) (m0 n : Nat), a.foldl (fun acc t => match acc, repA N.view k t with | some m, some n => some (max m n) | _, _ => none) (some m0) = some n → m0 ≤ n ∧ ∀ t, t ∈ a → ∃ q, repA N.view k t = some q ∧ q ≤ n := by
      intro a
      induction a with
      | nil => intro m0 n h; simp only [List.foldl_nil, Option.some.injEq] at h; exact ⟨by omega, fun t ht => nomatch ht⟩
      | cons t a iha =>
        intro m0 n h
        rw [List.foldl_cons] at h
        cases e : repA N.view k t with
        | none =>
          rw [e] at h
          have nn : ∀ b : Ak, b.foldl (fun acc t => match acc, repA N.view k t with | some m, some n => some (max m n) | _, _ => none) (none : Option Nat) = none := by
            intro b
            induction b with
            | nil => rfl
            | cons _ _ ih => rw [List.foldl_cons]; exact ih
          rw [show (match (some m0 : Option Nat), (none : Option Nat) with | some m, some n => some (max m n) | _, _ => none) = none from rfl, nn] at h
          cases h
        | some q =>
          rw [e] at h
          obtain ⟨h1, h2⟩ := iha (max m0 q) n h
          refine ⟨by omega, fun u hu => ?_⟩
          rcases List.mem_cons.mp hu with rfl | hu
          · exact ⟨q, e, by omega⟩
          · exact h2 u hu
    have one : ∀ (a : Ak) (n : Nat), a.foldl (fun acc t => match acc, repA N.view k t with | some m, some n => some (max m n) | _, _ => none) (some 0) = some n → ∀ d, GA N a d → (toP d).showable = true ∧ (toP d).shown.length ≤ n := by
      intro a n h d g
      cases g with
      | mk m g =>
        obtain ⟨q, e, l⟩ := (fold a 0 n h).2 _ m
        obtain ⟨h1, h2⟩ := ih e g
        exact ⟨h1, by omega⟩
    have many : ∀ (as : List Ak) (ds : List D) (m0 n : Nat), as.foldl (fun acc a => match acc, a.foldl (fun acc t => match acc, repA N.view k t with | some m, some n => some (max m n) | _, _ => none) (some 0) with | some m, some n => some (m + n + 2) | _, _ => none) (some m0) = some n → GL N as ds →
        PyData.showableAll (toPs ds) = true ∧ m0 + ((PyData.shownAll (toPs ds)).map (·.length)).sum + 2 * (PyData.shownAll (toPs ds)).length ≤ n := by
      intro as
      induction as with
      | nil =>
        intro ds m0 n h g
        cases g
        simp only [List.foldl_nil, Option.some.injEq] at h
        simp only [toPs, PyData.showableAll, PyData.shownAll, List.map_nil, List.sum_nil, List.length_nil]
        exact ⟨trivial, by omega⟩
      | cons a as iha =>
        intro ds m0 n h g
        cases g with
        | cons g1 g2 =>
          rw [List.foldl_cons] at h
          cases e : a.foldl (fun acc t => match acc, repA N.view k t with | some m, some n => some (max m n) | _, _ => none) (some 0) with
          | none =>
            rw [e] at h
            have nn : ∀ b : List Ak, b.foldl (fun acc a => match acc, a.foldl (fun acc t => match acc, repA N.view k t with | some m, some n => some (max m n) | _, _ => none) (some 0) with | some m, some n => some (m + n + 2) | _, _ => none) (none : Option Nat) = none := by
              intro b
              induction b with
              | nil => rfl
              | cons _ _ ih => rw [List.foldl_cons]; exact ih
            rw [show (match (some m0 : Option Nat), (none : Option Nat) with | some m, some n => some (m + n + 2) | _, _ => none) = none from rfl, nn] at h
            cases h
          | some q =>
            rw [e] at h
            obtain ⟨h1, h2⟩ := iha _ (m0 + q + 2) n h g2
            obtain ⟨q1, q2⟩ := one a q e _ g1
            simp only [toPs, PyData.showableAll, PyData.shownAll, List.map_cons, List.sum_cons, List.length_cons, q1, h1]
            exact ⟨rfl, by omega⟩
    have alln : ∀ (a : Ak) (n : Nat) (ds : List D), (∀ d, d ∈ ds → GA N a d) → a.foldl (fun acc t => match acc, repA N.view k t with | some m, some n => some (max m n) | _, _ => none) (some 0) = some n →
        PyData.showableAll (toPs ds) = true ∧ ((PyData.shownAll (toPs ds)).map (·.length)).sum + 2 * (PyData.shownAll (toPs ds)).length ≤ (n + 2) * ds.length := by
      intro a n ds m h
      induction ds with
      | nil => simp only [toPs, PyData.showableAll, PyData.shownAll, List.map_nil, List.sum_nil, List.length_nil]; exact ⟨trivial, by omega⟩
      | cons d ds ihd =>
        obtain ⟨h1, h2⟩ := ihd fun x hx => m x (List.mem_cons_of_mem _ hx)
        obtain ⟨q1, q2⟩ := one a n h d (m d List.mem_cons_self)
        simp only [toPs, PyData.showableAll, PyData.shownAll, List.map_cons, List.sum_cons, List.length_cons, q1, h1]
        refine ⟨rfl, ?_⟩
        have em : (n + 2) * (ds.length + 1) = (n + 2) * ds.length + (n + 2) := Nat.mul_succ _ _
        omega
    cases g with
    | non => simp only [repA, Option.some.injEq] at h; subst h; exact ⟨rfl, by decide⟩
    | tr => simp only [repA, Option.some.injEq] at h; subst h; exact ⟨rfl, by decide⟩
    | fa => simp only [repA, Option.some.injEq] at h; subst h; exact ⟨rfl, by decide⟩
    | big i => simp only [repA, reduceCtorEq] at h
    | int h1 h2 =>
      simp only [repA] at h
      split at h
      · cases h
        exact shown_int (by omega) ‹_›
      · cases h
    | str tx =>
      simp only [repA, Option.some.injEq] at h
      subst h
      obtain ⟨h1, h2⟩ := shown_str tx.2
      exact ⟨h1, by simp only [toP]; have := tx.1; omega⟩
    | txt =>
      simp only [repA] at h
      split at h
      · cases h
        exact shown_str ‹_›
      · cases h
    | tup gl =>
      simp only [repA] at h
      obtain ⟨h1, h2⟩ := many _ _ _ _ h gl
      refine ⟨by simp only [toP, PyData.showable]; exact h1, ?_⟩
      simp only [toP, PyData.shown]
      refine Nat.le_trans (tupleText_le _) ?_
      omega
    | lst gl =>
      simp only [repA] at h
      obtain ⟨h1, h2⟩ := many _ _ _ _ h gl
      refine ⟨by simp only [toP, PyData.showable]; exact h1, ?_⟩
      simp only [toP, PyData.shown]
      refine Nat.le_trans (listText_len_le _) ?_
      omega
    | tupN m h1 h2 =>
      simp only [repA] at h
      obtain ⟨q, hq, rfl⟩ := Option.map_eq_some_iff.mp h
      obtain ⟨h3, h4⟩ := alln _ _ _ m hq
      refine ⟨by simp only [toP, PyData.showable]; exact h3, ?_⟩
      simp only [toP, PyData.shown]
      refine Nat.le_trans (tupleText_le _) ?_
      have := Nat.mul_le_mul_left (q + 2) h2
      omega
    | lstN m h1 h2 =>
      simp only [repA] at h
      obtain ⟨q, hq, rfl⟩ := Option.map_eq_some_iff.mp h
      obtain ⟨h3, h4⟩ := alln _ _ _ m hq
      refine ⟨by simp only [toP, PyData.showable]; exact h3, ?_⟩
      simp only [toP, PyData.shown]
      refine Nat.le_trans (listText_len_le _) ?_
      have := Nat.mul_le_mul_left (q + 2) h2
      omega
    | dic => simp only [repA, reduceCtorEq] at h
    | scr _ => simp only [repA, reduceCtorEq] at h
    | nam g =>
      simp only [repA] at h
      exact one _ _ h _ (ok.view _ _ _ g)
/-- what repr tells of such things -/
theorem reprK_ok {a : Ak} {d : D} (h : reprK N.view a = true) (g : GA N a d) (hb : boxD d = true) : prRepr1 [d] = some (.val (.str (toP d).shown)) := by
  cases g with
  | mk m g =>
    have h := List.all_eq_true.mp h _ m
    split at h
    · rename_i n q e1 e2
      simp only [Bool.and_eq_true, decide_eq_true_eq] at h
      obtain ⟨h1, h2⟩ := repA_ok ok 24 e1 g
      obtain ⟨h3, h4⟩ := depA_ok ok 24 e2 g
      have hf : fitD d = true := by
        unfold fitD
        rw [h3, Bool.true_and]
        exact decide_eq_true (by omega)
      simp only [prRepr1]
      rw [if_pos ⟨by rw [okR_of d h3, h3]; rfl, h1, by omega, by omega⟩]
    · cases h
end
end Ofw
/-! Ofw A15: the kinds at work -/
namespace Ofw
open PySem L2
/-- a block, cut in two -/
theorem execB_cut {rf : Nat → List Bool} {C : CallT} {wf : Nat} : ∀ (k : Nat) {ss : List Sx} {env e1 : En} {r : Option (Fl × En)}, execB rf C wf (ss.take k) env = some (.nx, e1) → execB rf C wf (ss.drop k) e1 = r → execB rf C wf ss env = r
  | 0, ss, env, e1, r, h1, h2 => by
    rw [List.take_zero, bNil] at h1
    cases h1
    exact h2
  | k + 1, [], env, e1, r, h1, h2 => by
    rw [List.take_nil, bNil] at h1
    cases h1
    exact h2
  | k + 1, s :: ss, env, e1, r, h1, h2 => by
    rw [List.take_succ_cons, bCons] at h1
    rw [List.drop_succ_cons] at h2
    rw [bCons]
    unfold evSeq at h1 ⊢
    cases e : execS rf C wf s env with
    | none => rw [e] at h1; cases h1
    | some p =>
      obtain ⟨fl, e2⟩ := p
      rw [e] at h1
      cases fl with
      | nx => exact execB_cut k h1 h2
      | bk => cases h1
      | ct => cases h1
      | rt _ => cases h1
/-- a block goes on to such slots -/
def goesTo (V : Vw) (o : Option Aos) (ae : Ae) : Bool := match o with
  | some os => os.all fun p => match p.1 with
    | .nx => subE V p.2 ae
    | _ => false
  | none => false
/-- what is walked, or told, and the slots behind it -/
def srcTo (V : Vw) (o : Option (List Aav × Ae)) (a : Ak) (ae : Ae) : Bool := match o with
  | some ([.v b], e) => subA V 24 b a && subE V e ae
  | _ => false
def exTo (V : Vw) (o : Option (Ar × Ae)) (fr : Bool) (a : Ak) (ae : Ae) : Bool := match o with
  | some (r, e) => (r.1 == fr) && subA V 24 r.2 a && subE V e ae
  | none => false
/-- a def's body ends with such a thing -/
def retTo (V : Vw) (o : Option Aos) (fr : Bool) (a : Ak) (ae : Ae) : Bool := match o with
  | some os => os.all fun p => match p.1 with
    | .rt r => (r.1 == fr) && subA V 24 r.2 a && subE V p.2 ae
    | _ => false
  | none => false
section
variable {N : Nm} (ok : NmOk N) {rf : Nat → List Bool} {C : CallT} {hd : Hdl} {wf : Nat}
include ok
theorem blk_to (hh : HOk N C hd) {ss : List Sx} {ae ae' : Ae} {env : En} (h : goesTo N.view (blkA (aS N.view rf hd 40) ss ae) ae' = true) (g : GE N ae env) : ∃ env', execB rf C wf ss env = some (.nx, env') ∧ GE N ae' env' := by
  unfold goesTo at h
  cases e : blkA (aS N.view rf hd 40) ss ae with
  | none => rw [e] at h; cases h
  | some os =>
    rw [e] at h
    obtain ⟨fl, env', q, o, mo, gf, g'⟩ := blkA_ok ok (rf := rf) (C := C) (wf := wf) (aS_ok ok hh 40) ss ae os e env g
    have h := List.all_eq_true.mp h o mo
    obtain ⟨af, e'⟩ := o
    cases gf with
    | nx => exact ⟨env', q, subE_ok ok h g'⟩
    | bk => cases h
    | ct => cases h
    | rt _ => cases h
theorem ret_to (hh : HOk N C hd) {ss : List Sx} {ae ae' : Ae} {fr : Bool} {a : Ak} {env : En} (h : retTo N.view (blkA (aS N.view rf hd 40) ss ae) fr a ae' = true) (g : GE N ae env) : ∃ r env', execB rf C wf ss env = some (.rt r, env') ∧ GR N (fr, a) r ∧ GE N ae' env' := by
  unfold retTo at h
  cases e : blkA (aS N.view rf hd 40) ss ae with
  | none => rw [e] at h; cases h
  | some os =>
    rw [e] at h
    obtain ⟨fl, env', q, o, mo, gf, g'⟩ := blkA_ok ok (rf := rf) (C := C) (wf := wf) (aS_ok ok hh 40) ss ae os e env g
    have h := List.all_eq_true.mp h o mo
    obtain ⟨af, e'⟩ := o
    cases gf with
    | nx => cases h
    | bk => cases h
    | ct => cases h
    | rt gr =>
      simp only [Bool.and_eq_true] at h
      exact ⟨_, env', q, gr.up (eq_of_beq h.1.1) fun d => subA_ok ok h.1.2, subE_ok ok h.2 g'⟩
theorem src_to (hh : HOk N C hd) {as : List Ex} {ae ae' : Ae} {a : Ak} {env : En} (h : srcTo N.view (asA (aE N.view rf hd 40) as ae) a ae' = true) (g : GE N ae env) : ∃ d env', evalAs rf C as env = some ([.v d], env') ∧ GA N a d ∧ GE N ae' env' := by
  unfold srcTo at h
  split at h
  · rename_i b e heq
    simp only [Bool.and_eq_true] at h
    obtain ⟨ys, env', q, gv, g'⟩ := asA_ok (aE_ok ok hh 40) heq g
    cases gv with
    | cons g1 gr =>
      cases gr
      cases g1 with
      | v ga => exact ⟨_, env', q, subA_ok ok h.1 ga, subE_ok ok h.2 g'⟩
  · cases h
theorem ex_to (hh : HOk N C hd) {e : Ex} {ae ae' : Ae} {fr : Bool} {a : Ak} {env : En} (h : exTo N.view (aE N.view rf hd 40 e ae) fr a ae' = true) (g : GE N ae env) : ∃ r env', evalE rf C e env = some (r, env') ∧ GR N (fr, a) r ∧ GE N ae' env' := by
  unfold exTo at h
  split at h
  · rename_i r e' heq
    simp only [Bool.and_eq_true] at h
    obtain ⟨rs, env', q, gr, g'⟩ := aE_ok ok hh 40 e ae _ heq env g
    exact ⟨rs, env', q, gr.up (eq_of_beq h.1.1) fun d => subA_ok ok h.1.2, subE_ok ok h.2 g'⟩
  · cases h
end
section
variable {N : Nm} {a : Ak} {r : Rs}
theorem GR.ofF (h : GR N (true, a) r) : ∃ d, r = .fr d ∧ GA N a d := by
  obtain ⟨h1, h2⟩ := h
  rcases h1 with ⟨_, h1⟩ | ⟨h1, _⟩
  · cases h1
  · exact ⟨_, h1, h2⟩
theorem GR.ofV (h : GR N (false, a) r) : ∃ d, r = .val d ∧ GA N a d := by
  obtain ⟨h1, h2⟩ := h
  rcases h1 with ⟨h1, _⟩ | ⟨_, h1⟩
  · exact ⟨_, h1, h2⟩
  · cases h1
theorem GO.s {as : List (Option Ak)} {os : List (Option D)} (h : GO (N := N) (some a :: as) os) : ∃ d l, os = some d :: l ∧ GA N a d ∧ GO (N := N) as l := by
  cases h with
  | one g r => exact ⟨_, _, rfl, g, r⟩
theorem GO.n {as : List (Option Ak)} {os : List (Option D)} (h : GO (N := N) (none :: as) os) : ∃ l, os = none :: l ∧ GO (N := N) as l := by
  cases h with
  | non r => exact ⟨_, rfl, r⟩
theorem GO.e {os : List (Option D)} (h : GO (N := N) [] os) : os = [] := by
  cases h; rfl
/-- slots, taken apart -/
theorem GE.v {ae : Ae} {env : En} (h : GE N (.val a :: ae) env) : ∃ d e, env = .val d :: e ∧ GA N a d ∧ GE N ae e := by
  cases h with
  | cons g r => cases g with | val g => exact ⟨_, _, rfl, g, r⟩
theorem GE.o {ae : Ae} {env : En} (h : GE N (.own a :: ae) env) : ∃ d e, env = .own d :: e ∧ GA N a d ∧ GE N ae e := by
  cases h with
  | cons g r => cases g with | own g => exact ⟨_, _, rfl, g, r⟩
theorem GE.b {ae : Ae} {env : En} (h : GE N (.bor a :: ae) env) : ∃ d e, env = .bor d :: e ∧ GA N a d ∧ GE N ae e := by
  cases h with
  | cons g r => cases g with | bor g => exact ⟨_, _, rfl, g, r⟩
theorem GE.s {ae : Ae} {env : En} (h : GE N (.sh a :: ae) env) : ∃ s d e, env = s :: e ∧ (s = .val d ∨ s = .own d) ∧ GA N a d ∧ GE N ae e := by
  cases h with
  | cons g r => cases g with
    | shV g => exact ⟨_, _, _, rfl, .inl rfl, g, r⟩
    | shO g => exact ⟨_, _, _, rfl, .inr rfl, g, r⟩
theorem GE.f {ae : Ae} {env : En} (h : GE N (.fre :: ae) env) : ∃ s e, env = s :: e ∧ (s = .emp ∨ ∃ d, s = .val d) ∧ GE N ae e := by
  cases h with
  | cons g r => cases g with
    | freE => exact ⟨_, _, rfl, .inl rfl, r⟩
    | freV => exact ⟨_, _, rfl, .inr ⟨_, rfl⟩, r⟩
theorem GE.t {ae : Ae} {env : En} (h : GE N (.top :: ae) env) : ∃ s e, env = s :: e ∧ (s = .emp ∨ (∃ d, s = .val d) ∨ ∃ d, s = .own d) ∧ GE N ae e := by
  cases h with
  | cons g r => cases g with
    | topE => exact ⟨_, _, rfl, .inl rfl, r⟩
    | topV => exact ⟨_, _, rfl, .inr (.inl ⟨_, rfl⟩), r⟩
    | topO => exact ⟨_, _, rfl, .inr (.inr ⟨_, rfl⟩), r⟩
theorem GE.m {ae : Ae} {env : En} (h : GE N (.emp :: ae) env) : ∃ e, env = .emp :: e ∧ GE N ae e := by
  cases h with
  | cons g r => cases g with | emp => exact ⟨_, rfl, r⟩
theorem GE.n {env : En} (h : GE N [] env) : env = [] := by
  cases h; rfl
end
end Ofw
namespace Lk06
open PySem L2 Ofw
def top (i : Nat) : Stmt := PySem.Challenge.pw_officewords_k06_acting_reached.main.body.getD i (.Pass ⟨0, 0, 0, 0⟩)
/-- holders: 0 staff, 1 role, 2 day, 3 hand, 4 held, 5 low, 6 high -/
def f0L1 : Ex := .lc (.var 3) (.tup [3, 4, 5, 6]) .seq [.op .idx [.peek 0, .lit (.int 0)]] [.and [.op (.cmp .Eq) [.peek 4, .peek 1], .chain .LtE .Lt (.var 5) (.var 2) (.var 6)]] [3, 4, 5, 6]
theorem tf0L1 (rf : Nat → List Bool) (C : CallT) (env : En) : evalRet rf C f0L1 env = evalE rf C f0L1 env := rfl
theorem af0L1 (rf : Nat → List Bool) (C : CallT) (as : List Ex) (env : En) : evalAs rf C (f0L1 :: as) env = (match evalE rf C f0L1 env with
    | some (r, env1) => match evalAs rf C as env1 with
      | some (xs, env2) => some (.v r.d :: xs, env2)
      | none => none
    | none => none) := aCons rf C _ _ _ rfl
def f0 : FnD := ⟨[false, false, false], 7, [
    .ret (.op .sortedSet [f0L1])]⟩
/-- stand_ins: 0 staff, 1 hand, 2 day, 3 found, 4 one, 5 low, 6 high, 7 by -/
def f1L1 : Ex := .lc (.var 7) (.tup [4, 5, 6, 7]) .seq [.op .idx [.peek 0, .lit (.int 1)]] [.and [.op (.cmp .Eq) [.peek 4, .peek 1], .chain .LtE .Lt (.var 5) (.var 2) (.var 6)]] [4, 5, 6, 7]
theorem tf1L1 (rf : Nat → List Bool) (C : CallT) (env : En) : evalRet rf C f1L1 env = evalE rf C f1L1 env := rfl
theorem af1L1 (rf : Nat → List Bool) (C : CallT) (as : List Ex) (env : En) : evalAs rf C (f1L1 :: as) env = (match evalE rf C f1L1 env with
    | some (r, env1) => match evalAs rf C as env1 with
      | some (xs, env2) => some (.v r.d :: xs, env2)
      | none => none
    | none => none) := aCons rf C _ _ _ rfl
def f1L2 : Ex := .lc (.var 7) (.one 7) .seq [.var 3] [.op (.cmp .NotEq) [.peek 7, .lit (.str "")]] [7]
theorem tf1L2 (rf : Nat → List Bool) (C : CallT) (env : En) : evalRet rf C f1L2 env = evalE rf C f1L2 env := rfl
theorem af1L2 (rf : Nat → List Bool) (C : CallT) (as : List Ex) (env : En) : evalAs rf C (f1L2 :: as) env = (match evalE rf C f1L2 env with
    | some (r, env1) => match evalAs rf C as env1 with
      | some (xs, env2) => some (.v r.d :: xs, env2)
      | none => none
    | none => none) := aCons rf C _ _ _ rfl
def f1 : FnD := ⟨[false, false, false], 8, [
    .asg 3 (f1L1),
    .ife (.op (.cmp .Eq) [.peek 3, .op .lst []]) [.ret (.lit .none)] [],
    .ret (.op .sortedSet [f1L2])]⟩
/-- shortest_ways: 0 staff, 1 role, 2 day, 3 found, 4 row, 5 longer, 6 one, 7 hand, 8 by -/
def f2L1 : Ex := .lc (.op .tup [.var 7]) (.one 7) .seq [.op (.call 0) [.var 0, .var 1, .var 2]] [] [7]
theorem tf2L1 (rf : Nat → List Bool) (C : CallT) (env : En) : evalRet rf C f2L1 env = evalE rf C f2L1 env := rfl
theorem af2L1 (rf : Nat → List Bool) (C : CallT) (as : List Ex) (env : En) : evalAs rf C (f2L1 :: as) env = (match evalE rf C f2L1 env with
    | some (r, env1) => match evalAs rf C as env1 with
      | some (xs, env2) => some (.v r.d :: xs, env2)
      | none => none
    | none => none) := aCons rf C _ _ _ rfl
def f2L2 : Ex := .lc (.op (.bin .Add) [.peek 6, .op .tup [.var 8]]) (.one 8) .seq [.or [.op (.call 1) [.var 0, .op .idx [.peek 6, .op .neg [.lit (.int 1)]], .var 2], .op .lst []]] [] [8]
theorem tf2L2 (rf : Nat → List Bool) (C : CallT) (env : En) : evalRet rf C f2L2 env = evalE rf C f2L2 env := rfl
theorem af2L2 (rf : Nat → List Bool) (C : CallT) (as : List Ex) (env : En) : evalAs rf C (f2L2 :: as) env = (match evalE rf C f2L2 env with
    | some (r, env1) => match evalAs rf C as env1 with
      | some (xs, env2) => some (.v r.d :: xs, env2)
      | none => none
    | none => none) := aCons rf C _ _ _ rfl
def f2F1B : List Sx := [.ife (.op (.cmp .NotIn) [.op .idx [.peek 6, .op .neg [.lit (.int 1)]], .peek 3]) [.seti 3 (.op .idx [.peek 6, .op .neg [.lit (.int 1)]]) (.var 6), .ext 5 (f2L2)] []]
def f2F1 : Sx := .for_ (.one 6) .seq [.var 4] f2F1B
def f2W1B : List Sx := [.asg 5 (.op .lst []), f2F1, .asg 4 (.var 5)]
def f2W1 : Sx := .whl (.op (.cmp .NotEq) [.peek 4, .op .lst []]) f2W1B
def f2 : FnD := ⟨[false, false, false], 9, [
    .asg 3 (.op (.dic 0) []),
    .asg 4 (f2L1),
    f2W1,
    .ret (.var 3)]⟩
/-- acting: 0 staff, 1 role, 2 day, 3 found, 4 hand -/
def f3L1 : Ex := .lc (.var 4) (.one 4) .keys [.var 3] [.op (.cmp .Is) [.op (.call 1) [.var 0, .var 4, .var 2], .lit .none]] [4]
theorem tf3L1 (rf : Nat → List Bool) (C : CallT) (env : En) : evalRet rf C f3L1 env = evalE rf C f3L1 env := rfl
theorem af3L1 (rf : Nat → List Bool) (C : CallT) (as : List Ex) (env : En) : evalAs rf C (f3L1 :: as) env = (match evalE rf C f3L1 env with
    | some (r, env1) => match evalAs rf C as env1 with
      | some (xs, env2) => some (.v r.d :: xs, env2)
      | none => none
    | none => none) := aCons rf C _ _ _ rfl
def f3 : FnD := ⟨[false, false, false], 5, [
    .asg 3 (.op (.call 2) [.var 0, .var 1, .var 2]),
    .ret (.op .tuple1 [.op .sorted1 [f3L1]])]⟩
/-- _law_hand: 0 _law_script, 1 _law_k, 2 _law_cell, 3 _law_own -/
def f4 : FnD := ⟨[false, false], 4, [
    .asg 2 (.lit (.int 0)),
    .ife (.op (.cmp .Lt) [.peek 1, .op .len [.peek 0]]) [.asg 2 (.op .idx [.peek 0, .peek 1])] [],
    .asg 3 (.op (.bin .Mult) [.op (.bin .Mod) [.peek 2, .op (.bin .Mult) [.op (.bin .Mult) [.op (.bin .Pow) [.lit (.int 10), .lit (.int 60)], .op (.bin .Pow) [.lit (.int 10), .lit (.int 60)]], .op (.bin .Pow) [.lit (.int 10), .lit (.int 60)]]], .op .int1 [.op (.cmp .GtE) [.peek 2, .op (.bin .Pow) [.lit (.int 10), .lit (.int 18)]]]]),
    .ret (.op .lst [.var 3, .op (.bin .Add) [.op (.bin .Add) [.op (.bin .Mod) [.peek 2, .lit (.int 2305843009213693951)], .op (.bin .Mult) [.lit (.int 7919), .peek 1]], .lit (.int 3)], .lit (.int 0)])]⟩
/-- _law_take: 0 _law_hand_here, 1 _law_many, 2 _law_mixed, 3 _law_digit -/
def f5 : FnD := ⟨[true, false], 4, [
    .ife (.op (.cmp .Gt) [.op .idx [.peek 0, .lit (.int 0)], .lit (.int 0)]) [.asg 3 (.op (.bin .Mod) [.op .idx [.peek 0, .lit (.int 0)], .peek 1]), .seti 0 (.lit (.int 0)) (.op (.bin .FloorDiv) [.op .idx [.peek 0, .lit (.int 0)], .peek 1]), .ret (.var 3)] [],
    .seti 0 (.lit (.int 2)) (.op (.bin .Add) [.op .idx [.peek 0, .lit (.int 2)], .lit (.int 1)]),
    .asg 2 (.op (.bin .Mod) [.op (.bin .Pow) [.op (.bin .Add) [.op .idx [.peek 0, .lit (.int 1)], .op (.bin .Mult) [.lit (.int 982451653), .op .idx [.peek 0, .lit (.int 2)]]], .lit (.int 3)], .lit (.int 2305843009213693951)]),
    .asg 2 (.op (.bin .Mod) [.op (.bin .Mult) [.peek 2, .op (.bin .Add) [.op (.bin .Mod) [.peek 2, .lit (.int 1000003)], .op (.bin .Mult) [.lit (.int 65537), .op .idx [.peek 0, .lit (.int 2)]]]], .lit (.int 2305843009213693921)]),
    .ret (.op (.bin .Mod) [.op (.bin .FloorDiv) [.peek 2, .lit (.int 9973)], .peek 1])]⟩
/-- _law_of: 0 _law_hand_here, 1 _law_some -/
def f6 : FnD := ⟨[true, false], 2, [
    .ret (.op .idx [.peek 1, .op (.call 5) [.peek 0, .op .len [.peek 1]]])]⟩
/-- _law_names: 0 _law_hand_here, 1 _law_many, 2 _law_k, 3 _law_found, 4 _law_turn, 5 _law_name, 6 _law_letter -/
def f7F1B : List Sx := [.asg 5 (.op (.bin .Add) [.peek 5, .op .idx [.lit (.str "abcdefghijklmnopqrstuvwxyz"), .op (.call 5) [.peek 0, .lit (.int 26)]]])]
def f7F1 : Sx := .for_ (.one 6) .rng1 [.op (.call 5) [.peek 0, .lit (.int 7)]] f7F1B
def f7F2B : List Sx := [.asg 5 (.lit (.str "")), f7F1, .asg 5 (.op (.bin .Add) [.peek 5, .op .idx [.lit (.str "abcdefghijklmnopqrstuvwxyz"), .op (.bin .Mod) [.op (.bin .Add) [.peek 4, .op (.bin .Mult) [.lit (.int 7), .peek 2]], .lit (.int 26)]]]), .ife (.op (.cmp .In) [.peek 5, .op .tup [.lit (.str "at"), .lit (.str "give"), .lit (.str "last"), .lit (.str "late"), .lit (.str "no"), .lit (.str "undone"), .lit (.str "yes")]]) [.asg 5 (.op (.bin .Add) [.lit (.str "z"), .peek 5])] [], .app 3 (.var 5)]
def f7F2 : Sx := .for_ (.one 2) .rng1 [.var 1] f7F2B
def f7 : FnD := ⟨[true, false], 7, [
    .par [3, 4] [.op .lst [], .op (.call 5) [.peek 0, .lit (.int 26)]],
    f7F2,
    .ret (.var 3)]⟩
/-- _law_span: 0 _law_hand_here, 1 _law_near, 2 _law_low, 3 _law_high -/
def f8 : FnD := ⟨[true, false], 4, [
    .asg 2 (.op (.bin .Sub) [.op (.bin .Add) [.peek 1, .op (.call 5) [.peek 0, .lit (.int 21)]], .lit (.int 12)]),
    .asg 3 (.op (.bin .Add) [.op (.bin .Add) [.peek 2, .lit (.int 1)], .op (.call 6) [.peek 0, .op .lst [.lit (.int 0), .op (.call 5) [.peek 0, .lit (.int 4)], .op (.call 5) [.peek 0, .lit (.int 25)], .op (.bin .Add) [.op (.bin .Pow) [.lit (.int 10), .lit (.int 40)], .op (.call 5) [.peek 0, .lit (.int 9)]]]]]),
    .ret (.op .tup [.op (.bin .Sub) [.peek 2, .op (.call 6) [.peek 0, .op .lst [.lit (.int 0), .lit (.int 0), .lit (.int 0), .op (.bin .Pow) [.lit (.int 10), .lit (.int 30)]]]], .var 3])]⟩
/-- _law_staff: 0 _law_hand_here, 1 _law_names_here, 2 _law_roles, 3 _law_near, 4 _law_sizes, 5 _law_k, 6 _law_helds, 7 _law_aways, 8 _law_low, 9 _law_high -/
def f9F1B : List Sx := [.asgT [8, 9] (.op (.call 8) [.peek 0, .var 3]), .app 6 (.op .tup [.op (.call 6) [.peek 0, .var 1], .op (.call 6) [.peek 0, .var 2], .var 8, .var 9])]
def f9F1 : Sx := .for_ (.one 5) .rng1 [.op .idx [.peek 4, .lit (.int 0)]] f9F1B
def f9F2B : List Sx := [.asgT [8, 9] (.op (.call 8) [.peek 0, .var 3]), .app 7 (.op .tup [.op (.call 6) [.peek 0, .var 1], .var 8, .var 9, .op (.call 6) [.peek 0, .op (.bin .Add) [.op (.bin .Add) [.peek 1, .peek 1], .op .lst [.lit (.str "")]]]])]
def f9F2 : Sx := .for_ (.one 5) .rng1 [.op .idx [.peek 4, .lit (.int 1)]] f9F2B
def f9 : FnD := ⟨[true, false, false, false, false], 10, [
    .par [6, 7] [.op .lst [], .op .lst []],
    f9F1,
    f9F2,
    .ret (.op .tup [.op .tuple1 [.peek 6], .op .tuple1 [.peek 7]])]⟩
/-- _law_bys: 0 _law_folk, 1 _law_hand_here, 2 _law_date, 3 _law_one, 4 _law_low, 5 _law_high, 6 _law_by -/
def f10L1 : Ex := .lc (.var 6) (.tup [3, 4, 5, 6]) .seq [.op .idx [.peek 0, .lit (.int 1)]] [.and [.op (.cmp .Eq) [.peek 3, .peek 1], .chain .LtE .Lt (.var 4) (.var 2) (.var 5)]] [3, 4, 5, 6]
theorem tf10L1 (rf : Nat → List Bool) (C : CallT) (env : En) : evalRet rf C f10L1 env = evalE rf C f10L1 env := rfl
theorem af10L1 (rf : Nat → List Bool) (C : CallT) (as : List Ex) (env : En) : evalAs rf C (f10L1 :: as) env = (match evalE rf C f10L1 env with
    | some (r, env1) => match evalAs rf C as env1 with
      | some (xs, env2) => some (.v r.d :: xs, env2)
      | none => none
    | none => none) := aCons rf C _ _ _ rfl
def f10 : FnD := ⟨[false, false, false], 7, [
    .ret (f10L1)]⟩
/-- _law_reached: 0 _law_folk, 1 _law_duty, 2 _law_date, 3 _law_found, 4 _law_many, 5 _law_hand_here, 6 _law_held, 7 _law_low, 8 _law_high, 9 _law_by -/
def f11F1B : List Sx := [.ife (.and [.op (.cmp .Eq) [.peek 6, .peek 1], .chain .LtE .Lt (.var 7) (.var 2) (.var 8)]) [.seti 3 (.var 5) (.lit (.bool true))] []]
def f11F1 : Sx := .for_ (.tup [5, 6, 7, 8]) .seq [.op .idx [.peek 0, .lit (.int 0)]] f11F1B
def f11L1 : Ex := .lc (.op .tup [.var 9, .lit (.bool true)]) (.one 9) .seq [.op (.call 10) [.var 0, .var 5, .var 2]] [.op (.cmp .NotEq) [.peek 9, .lit (.str "")]] [9]
theorem tf11L1 (rf : Nat → List Bool) (C : CallT) (env : En) : evalRet rf C f11L1 env = evalE rf C f11L1 env := rfl
theorem af11L1 (rf : Nat → List Bool) (C : CallT) (as : List Ex) (env : En) : evalAs rf C (f11L1 :: as) env = (match evalE rf C f11L1 env with
    | some (r, env1) => match evalAs rf C as env1 with
      | some (xs, env2) => some (.v r.d :: xs, env2)
      | none => none
    | none => none) := aCons rf C _ _ _ rfl
def f11F2B : List Sx := [.upd 3 (.op .dict1 [f11L1])]
def f11F2 : Sx := .for_ (.one 5) .seq [.op .list1 [.peek 3]] f11F2B
def f11W1B : List Sx := [.asg 4 (.op .len [.peek 3]), f11F2]
def f11W1 : Sx := .whl (.op (.cmp .Lt) [.peek 4, .op .len [.peek 3]]) f11W1B
def f11 : FnD := ⟨[false, false, false], 10, [
    .asg 3 (.op (.dic 0) []),
    f11F1,
    .asg 4 (.op .neg [.lit (.int 1)]),
    f11W1,
    .ret (.var 3)]⟩
/-- _law_acting: 0 _law_folk, 1 _law_duty, 2 _law_date, 3 _law_hand_here -/
def f12L1 : Ex := .lc (.var 3) (.one 3) .keys [.op (.call 11) [.var 0, .var 1, .var 2]] [.op (.cmp .Eq) [.op (.call 10) [.var 0, .var 3, .var 2], .op .lst []]] [3]
theorem tf12L1 (rf : Nat → List Bool) (C : CallT) (env : En) : evalRet rf C f12L1 env = evalE rf C f12L1 env := rfl
theorem af12L1 (rf : Nat → List Bool) (C : CallT) (as : List Ex) (env : En) : evalAs rf C (f12L1 :: as) env = (match evalE rf C f12L1 env with
    | some (r, env1) => match evalAs rf C as env1 with
      | some (xs, env2) => some (.v r.d :: xs, env2)
      | none => none
    | none => none) := aCons rf C _ _ _ rfl
def f12 : FnD := ⟨[false, false, false], 4, [
    .ret (.op .tuple1 [.op .sorted1 [f12L1]])]⟩
/-- _law_days: 0 _law_hand_here, 1 _law_folk, 2 _law_near, 3 _law_found, 4 _law_edges, 5 _law_row, 6 _law_turn -/
def f13F1B : List Sx := [.ext 4 (.op (.slc true false) [.peek 5, .lit (.int 2)])]
def f13F1 : Sx := .for_ (.one 5) .seq [.op .idx [.peek 1, .lit (.int 0)]] f13F1B
def f13F2B : List Sx := [.ext 4 (.op (.slc true true) [.peek 5, .lit (.int 1), .lit (.int 3)])]
def f13F2 : Sx := .for_ (.one 5) .seq [.op .idx [.peek 1, .lit (.int 1)]] f13F2B
def f13F3B : List Sx := [.app 3 (.op (.bin .Sub) [.op (.bin .Add) [.op (.call 6) [.peek 0, .var 4], .op (.call 5) [.peek 0, .lit (.int 3)]], .lit (.int 1)])]
def f13F3 : Sx := .for_ (.one 6) .rng1 [.lit (.int 6)] f13F3B
def f13 : FnD := ⟨[true, false, false], 7, [
    .asg 3 (.op .lst [.var 2, .op (.bin .Sub) [.op (.bin .Add) [.peek 2, .op (.call 5) [.peek 0, .lit (.int 40)]], .lit (.int 20)], .op (.call 6) [.peek 0, .op .lst [.op (.bin .Pow) [.lit (.int 10), .lit (.int 35)], .op .neg [.op (.bin .Pow) [.lit (.int 10), .lit (.int 29)]], .op (.bin .Add) [.op (.bin .Pow) [.lit (.int 10), .lit (.int 40)], .peek 2]]]]),
    .asg 4 (.op .lst []),
    f13F1,
    f13F2,
    .ife (.op (.cmp .NotEq) [.peek 4, .op .lst []]) [f13F3] [],
    .ret (.var 3)]⟩
/-- _law_same: 0 _law_found, 1 _law_due, 2 _law_one -/
def f14L1 : Ex := .lc (.op (.isi .str) [.peek 2]) (.one 2) .seq [.var 0] [] [2]
theorem tf14L1 (rf : Nat → List Bool) (C : CallT) (env : En) : evalRet rf C f14L1 env = evalE rf C f14L1 env := rfl
theorem af14L1 (rf : Nat → List Bool) (C : CallT) (as : List Ex) (env : En) : evalAs rf C (f14L1 :: as) env = (match evalE rf C f14L1 env with
    | some (r, env1) => match evalAs rf C as env1 with
      | some (xs, env2) => some (.v r.d :: xs, env2)
      | none => none
    | none => none) := aCons rf C _ _ _ rfl
def f14 : FnD := ⟨[false, false], 3, [
    .ret (.and [.op (.isi .tuple) [.peek 0], .op .all1 [f14L1], .op (.cmp .Eq) [.peek 0, .peek 1]])]⟩
/-- law: 0 _law_script, 1 _law_k, 2 _law_hand_here, 3 _law_near, 4 _law_sizes, 5 _law_folk, 6 _law_before, 7 _law_date, 8 _law_names_here, 9 _law_roles, 10 _law_duty, 11 _law_turn, 12 _law_due -/
def f15L1 : Ex := .lc (.op (.call 6) [.peek 2, .op .lst [.lit (.int 1), .lit (.int 3), .lit (.int 60), .op (.call 5) [.peek 2, .lit (.int 12)], .op (.call 5) [.peek 2, .lit (.int 61)]]]) (.one 11) .rng1 [.lit (.int 2)] [] [11]
theorem tf15L1 (rf : Nat → List Bool) (C : CallT) (env : En) : evalRet rf C f15L1 env = evalE rf C f15L1 env := rfl
theorem af15L1 (rf : Nat → List Bool) (C : CallT) (as : List Ex) (env : En) : evalAs rf C (f15L1 :: as) env = (match evalE rf C f15L1 env with
    | some (r, env1) => match evalAs rf C as env1 with
      | some (xs, env2) => some (.v r.d :: xs, env2)
      | none => none
    | none => none) := aCons rf C _ _ _ rfl
def f15F1B : List Sx := [.asg 12 (.op (.call 12) [.var 5, .var 10, .var 7]), .ife (.not (.op (.call 14) [.op (.call 3) [.var 5, .var 10, .var 7], .var 12])) [.ret (.lit (.bool false))] [], .ife (.not (.op (.call 14) [.op (.callK 3 0 ["day", "role", "staff"] [2, 1, 0]) [.var 7, .var 10, .var 5], .var 12])) [.ret (.lit (.bool false))] []]
def f15F1 : Sx := .for_ (.one 10) .seq [.op (.bin .Add) [.peek 9, .op .lst [.op (.bin .Add) [.lit (.str "nobody"), .op (.slc true false) [.op .idx [.peek 9, .lit (.int 0)], .op .neg [.lit (.int 1)]]]]]] f15F1B
def f15F2B : List Sx := [f15F1]
def f15F2 : Sx := .for_ (.one 7) .seq [.op (.call 13) [.peek 2, .var 5, .var 3]] f15F2B
def f15F3B : List Sx := [.asg 2 (.op (.call 4) [.var 0, .var 1]), .par [8, 9] [.op (.call 7) [.peek 2, .op (.bin .Add) [.lit (.int 1), .op (.call 5) [.peek 2, .lit (.int 12)]]], .op (.call 7) [.peek 2, .op (.bin .Add) [.lit (.int 1), .op (.call 5) [.peek 2, .lit (.int 3)]]]], .asg 3 (.op (.bin .Sub) [.op (.call 5) [.peek 2, .lit (.int 60)], .lit (.int 30)]), .asg 4 (f15L1), .asg 5 (.op (.call 9) [.peek 2, .var 8, .var 9, .var 3, .var 4]), .asg 6 (.op .repr1 [.peek 5]), f15F2, .ife (.op (.cmp .NotEq) [.op .repr1 [.peek 5], .peek 6]) [.ret (.lit (.bool false))] []]
def f15F3 : Sx := .for_ (.one 1) .rng1 [.op (.bin .Add) [.lit (.int 1), .op .min2 [.lit (.int 2), .op .len [.peek 0]]]] f15F3B
def f15 : FnD := ⟨[false], 13, [
    f15F3,
    .ret (.lit (.bool true))]⟩
def fns : List FnD := [f0, f1, f2, f3, f4, f5, f6, f7, f8, f9, f10, f11, f12, f13, f14, f15]
theorem rf0 : rfOf fns 0 = [false, false, false] := rfl
theorem rf1 : rfOf fns 1 = [false, false, false] := rfl
theorem rf2 : rfOf fns 2 = [false, false, false] := rfl
theorem rf3 : rfOf fns 3 = [false, false, false] := rfl
theorem rf4 : rfOf fns 4 = [false, false] := rfl
theorem rf5 : rfOf fns 5 = [true, false] := rfl
theorem rf6 : rfOf fns 6 = [true, false] := rfl
theorem rf7 : rfOf fns 7 = [true, false] := rfl
theorem rf8 : rfOf fns 8 = [true, false] := rfl
theorem rf9 : rfOf fns 9 = [true, false, false, false, false] := rfl
theorem rf10 : rfOf fns 10 = [false, false, false] := rfl
theorem rf11 : rfOf fns 11 = [false, false, false] := rfl
theorem rf12 : rfOf fns 12 = [false, false, false] := rfl
theorem rf13 : rfOf fns 13 = [true, false, false] := rfl
theorem rf14 : rfOf fns 14 = [false, false] := rfl
theorem rf15 : rfOf fns 15 = [false] := rfl
def tbl : List (Str × Nat) := [("holders", 0), ("stand_ins", 1), ("shortest_ways", 2), ("acting", 3), ("_law_hand", 4), ("_law_take", 5), ("_law_of", 6), ("_law_names", 7), ("_law_span", 8), ("_law_staff", 9), ("_law_bys", 10), ("_law_reached", 11), ("_law_acting", 12), ("_law_days", 13), ("_law_same", 14), ("law", 15)]
def blts : List Str := ["all", "dict", "int", "isinstance", "len", "list", "min", "range", "repr", "set", "sorted", "str", "tuple"]
def csts : List (Str × Const) := []
def kwl : Nat → List (Nat × List Str × List Nat)
  | 3 => [(0, ["day", "role", "staff"], [2, 1, 0])]
  | _ => []
def tab : Tab := ⟨fun x => tbl.lookup x, blts, fun x => csts.lookup x, kwl⟩
end Lk06
/-! what the mathematics of all laws uses -/
namespace Ofw
open PySem L2
theorem eqS (x y : Str) : eqD (.str x) (.str y) = some (x == y) := by simp [eqD, scalD, eqv]
theorem eqI (a b : Int) : eqD (.int a) (.int b) = some (a == b) := by simp [eqD, scalD, eqv]
theorem eqBl (a b : Bool) : eqD (.bl a) (.bl b) = some (a == b) := by simp [eqD, scalD, eqv]
theorem asg_v {rf : Nat → List Bool} {C : CallT} {wf i : Nat} {ex : Ex} {env env1 : En} {d : D} (e : evalE rf C ex env = some (.val d, env1)) (hf : slotFree env1 i = true) : execS rf C wf (.asg i ex) env = some (.nx, env1.set i (.val d)) := by
  rw [sAsg]
  unfold evAsg
  rw [e]
  simp only [hf, if_true]
  rfl
theorem asg_o {rf : Nat → List Bool} {C : CallT} {wf i : Nat} {ex : Ex} {env env1 : En} {d : D} (e : evalE rf C ex env = some (.fr d, env1)) (hf : slotFree env1 i = true) : execS rf C wf (.asg i ex) env = some (.nx, env1.set i (.own d)) := by
  rw [sAsg]
  unfold evAsg
  rw [e]
  simp only [hf, if_true]
  rfl
theorem ret_v {rf : Nat → List Bool} {C : CallT} {wf : Nat} {t : Tag} {as : List Ex} {env env1 : En} {r : Rs} (e : evalE rf C (.op t as) env = some (r, env1)) : execS rf C wf (.ret (.op t as)) env = some (.rt r, env1) := by
  rw [sRet]
  unfold evRet
  rw [tOp', e]
  rfl
theorem bStep {rf : Nat → List Bool} {C : CallT} {wf : Nat} {s : Sx} {ss : List Sx} {env env1 : En} {z : Option (Fl × En)} (h : execS rf C wf s env = some (.nx, env1)) (k : execB rf C wf ss env1 = z) : execB rf C wf (s :: ss) env = z := by
  rw [bCons]; unfold evSeq; rw [h]; exact k
theorem bEnd {rf : Nat → List Bool} {C : CallT} {wf : Nat} {s : Sx} {ss : List Sx} {env env1 : En} {r : Rs} (h : execS rf C wf s env = some (.rt r, env1)) : execB rf C wf (s :: ss) env = some (.rt r, env1) := by
  rw [bCons]; unfold evSeq; rw [h]
theorem looks_vals {env : En} : ∀ {xs : List Av1} {ds : List D}, valsOf xs = some ds → looks env xs = some ds
  | [], ds, h => by cases h; rfl
  | .v d :: r, ds, h => by
    unfold valsOf at h
    obtain ⟨es, he, rfl⟩ := Option.map_eq_some_iff.mp h
    simp only [looks, look, looks_vals he]
  | .r _ :: _, ds, h => by cases h
theorem ev_op {rf : Nat → List Bool} {C : CallT} {t : Tag} {as : List Ex} {env env1 : En} {xs : List Av1} {ds : List D} {r : Rs} (hc : isCall t = false) (h1 : evalAs rf C as env = some (xs, env1)) (h2 : valsOf xs = some ds) (h3 : primD t ds = some r) : evalE rf C (.op t as) env = some (r, env1) := by
  rw [eOp, h1]
  have h4 : looks env1 xs = some ds := looks_vals h2
  cases t <;> first | (cases hc; done) | (simp [applyT, storing, h2, h4, h3]; done)
/-- one argument: a comprehension, an operation, .. -/
theorem ev_op1 {rf : Nat → List Bool} {C : CallT} {t : Tag} {a : Ex} {env env1 : En} {q r : Rs} (hc : isCall t = false) (hp : notPeek a = true) (h1 : evalE rf C a env = some (q, env1)) (h3 : primD t [q.d] = some r) : evalE rf C (.op t [a]) env = some (r, env1) :=
  ev_op hc (xs := [.v q.d]) (by rw [aCons rf C _ _ _ hp, h1]; simp only [aNil]) rfl h3
theorem fin_ret {rf : Nat → List Bool} {C : CallT} {wf : Nat} {s : Sx} {ss : List Sx} {env env1 : En} {r : Rs} {q : List Bool} (h : execS rf C wf s env = some (.rt r, env1)) : fin q (execB rf C wf (s :: ss) env) = some (r, outsOf q env1) := by
  rw [bEnd h]; rfl
def Vs (s : Sl) : Prop := s = .emp ∨ ∃ d, s = .val d
def Us (s : Sl) : Prop := Vs s ∨ ∃ d, s = .own d
theorem Vs.e : Vs .emp := .inl rfl
theorem Vs.v (d : D) : Vs (.val d) := .inr ⟨d, rfl⟩
theorem Us.e : Us .emp := .inl .e
theorem Us.v (d : D) : Us (.val d) := .inl (.v d)
theorem Us.o (d : D) : Us (.own d) := .inr ⟨d, rfl⟩
theorem Vs.u {s : Sl} (h : Vs s) : Us s := .inl h
theorem while_or {c : En → Option (Rs × En)} {f : En → Option (Fl × En)} (P : Nat → En → Prop) (Q : En → Prop)
    (step : ∀ k en, P k en → (∃ r en1, c en = some (r, en1) ∧ truD r.d = some false ∧ Q en1) ∨ (∃ r en1 en2 j, c en = some (r, en1) ∧ truD r.d = some true ∧ f en1 = some (.nx, en2) ∧ j < k ∧ P j en2)) : ∀ (fuel k : Nat) (en : En), P k en → k < fuel → ∃ en', whileLoop c f fuel en = some (.nx, en') ∧ Q en'
  | 0, _, _, _, h => by omega
  | fuel + 1, k, en, hp, h => by
    rcases step k en hp with ⟨r, en1, e1, e2, q⟩ | ⟨r, en1, en2, j, e1, e2, e3, hj, hp2⟩
    · exact ⟨en1, by simp only [whileLoop, e1, e2], q⟩
    · obtain ⟨en', e4, q⟩ := while_or P Q step fuel j en2 hp2 (by omega)
      exact ⟨en', by simp only [whileLoop, e1, e2, e3]; exact e4, q⟩
theorem lcLoop_ix {f : D → En → Option (Option D × En)} (P : Nat → En → Prop) (Q : Nat → D → Prop) : ∀ (its : List D) (k : Nat) (env : En), (∀ i d en, its[i]? = some d → P (k + i) en → ∃ o en', f d en = some (some o, en') ∧ Q (k + i) o ∧ P (k + i + 1) en') → P k env →
    ∃ out env', lcLoop f its env = some (out, env') ∧ (∀ i x, out[i]? = some x → Q (k + i) x) ∧ out.length = its.length ∧ P (k + its.length) env'
  | [], k, env, _, h => ⟨[], env, rfl, by simp, rfl, h⟩
  | d :: ds, k, env, st, h => by
    obtain ⟨o, e1, h1, hq, h2⟩ := st 0 d env rfl h
    obtain ⟨out, e2, h3, hqs, hl, h4⟩ := lcLoop_ix P Q ds (k + 1) e1 (fun i d' en hi hp => by
      have := st (i + 1) d' en (by simpa using hi) (by rw [show k + (i + 1) = k + 1 + i by omega]; exact hp)
      rw [show k + (i + 1) = k + 1 + i by omega] at this
      exact this) h2
    refine ⟨o :: out, e2, by simp only [lcLoop, h1, h3]; rfl, fun i x hx => ?_, by simp [hl], by rw [List.length_cons, show k + (ds.length + 1) = k + 1 + ds.length by omega]; exact h4⟩
    cases i with
    | zero => simp at hx; subst hx; exact hq
    | succ i => have := hqs i x (by simpa using hx); rwa [show k + 1 + i = k + (i + 1) by omega] at this
theorem lc_ix {rf : Nat → List Bool} {C : CallT} {ex elt : Ex} {tg : Tg} {k : ItK} {src ifs : List Ex} {vs : List Nat} (hx : ex = .lc elt tg k src ifs vs) (env env1 : En) {xs : List Av1} {ds : List D} (its : List D) (P : Nat → En → Prop) (Q : Nat → D → Prop) (h1 : evalAs rf C src env = some (xs, env1)) (h2 : valsOf xs = some ds) (h3 : itemsD k ds = some its)
    (h4 : plainSlots env1 vs = true) (h5 : its.length < sizeLine) (h0 : P 0 (wipeE env1 vs)) (step : ∀ i d en, its[i]? = some d → P i en → ∃ o en', lcTurn rf C elt tg ifs vs d en = some (some o, en') ∧ Q i o ∧ P (i + 1) en') :
    ∃ out env2, evalE rf C ex env = some (.fr (.lst out), backE env1 env2 vs) ∧ (∀ i x, out[i]? = some x → Q i x) ∧ out.length = its.length ∧ P its.length env2 := by
  subst hx
  obtain ⟨out, en, e1, hq, hl, hp⟩ := lcLoop_ix (f := lcTurn rf C elt tg ifs vs) P Q its 0 (wipeE env1 vs) (fun i d en hi hp => by rw [Nat.zero_add] at hp ⊢; exact step i d en hi hp) h0
  rw [Nat.zero_add] at hp
  exact ⟨out, en, lc_eq h1 h2 h3 h4 h5 e1, fun i x hx => by have := hq i x hx; rwa [Nat.zero_add] at this, hl, hp⟩
/-- by a function of what the items tell -/
theorem lcLoop_X {α : Type} {f : D → En → Option (Option D × En)} (h : α → D) (g : α → Option D) (env : En) : ∀ (l : List α), (∀ a ∈ l, f (h a) env = some (g a, env)) → lcLoop f (l.map h) env = some (l.filterMap g, env)
  | [], _ => rfl
  | d :: ds, q => by
    have h1 := q d (List.mem_cons_self)
    have h2 := lcLoop_X h g env ds fun x hx => q x (List.mem_cons_of_mem _ hx)
    simp only [List.map_cons, lcLoop, h1, h2]
    cases e : g d <;> simp [List.filterMap_cons, e]
theorem lc_X {rf : Nat → List Bool} {C : CallT} {α : Type} {ex elt : Ex} {tg : Tg} {k : ItK} {src ifs : List Ex} {vs : List Nat} (hx : ex = .lc elt tg k src ifs vs) (env env1 : En) {xs : List Av1} {ds : List D} (l : List α) (f : α → D) (g : α → Option D) (h1 : evalAs rf C src env = some (xs, env1)) (h2 : valsOf xs = some ds) (h3 : itemsD k ds = some (l.map f))
    (h4 : plainSlots env1 vs = true) (h5 : l.length < sizeLine) (step : ∀ a ∈ l, lcTurn rf C elt tg ifs vs (f a) (wipeE env1 vs) = some (g a, wipeE env1 vs)) :
    evalE rf C ex env = some (.fr (.lst (l.filterMap g)), backE env1 (wipeE env1 vs) vs) := by
  subst hx
  exact lc_eq h1 h2 h3 h4 (by rw [List.length_map]; exact h5) (lcLoop_X f g _ l step)
theorem fm_some {α β γ : Type} (p : α → Bool) (f : α → β) (h : β → γ) (l : List α) : (l.filterMap fun x => if p x then some (h (f x)) else none) = (l.filterMap fun x => if p x then some (f x) else none).map h := by
  induction l with
  | nil => rfl
  | cons x r ih =>
    simp only [List.filterMap_cons]
    cases p x <;> simp [ih]
theorem fm_filter {α : Type} (p : α → Bool) (l : List α) : (l.filterMap fun x => if p x then some x else none) = l.filter p := by
  induction l with
  | nil => rfl
  | cons x r ih =>
    rw [List.filterMap_cons, List.filter_cons]
    cases p x <;> simp [ih]
/-- a loop over what items tell -/
theorem for_X {rf : Nat → List Bool} {C : CallT} {wf : Nat} {α : Type} {sx : Sx} {tg : Tg} {k : ItK} {src : List Ex} {body : List Sx} (hx : sx = .for_ tg k src body) (env env1 : En) {xs : List Av1} {ds : List D} (l : List α) (f : α → D) (P : List α → En → Prop) (h1 : evalAs rf C src env = some (xs, env1)) (h2 : valsOf xs = some ds) (h3 : itemsD k ds = some (l.map f))
    (h0 : P l env1) (step : ∀ a r en, P (a :: r) en → ∃ en', loTurn rf C wf tg body (f a) en = some (.nx, en') ∧ P r en') : ∃ env', execS rf C wf sx env = some (.nx, env') ∧ P [] env' := by
  subst hx
  have go : ∀ (l : List α) (en : En), P l en → ∃ env', forLoop (loTurn rf C wf tg body) (l.map f) en = some (.nx, env') ∧ P [] env' := fun l => by
    induction l with
    | nil => intro en h; exact ⟨en, rfl, h⟩
    | cons a r ih =>
      intro en h
      obtain ⟨en1, e1, h1⟩ := step a r en h
      obtain ⟨en2, e2, h2⟩ := ih en1 h1
      exact ⟨en2, by simp only [List.map_cons, forLoop, e1, e2], h2⟩
  obtain ⟨en, e1, hp⟩ := go l env1 h0
  exact ⟨en, (for_eq h1 h2 h3).trans e1, hp⟩
theorem slt {n : Nat} (h : n ≤ 100000) : n < sizeLine := Nat.lt_of_le_of_lt h (by decide)
theorem sle {n : Nat} (h : n ≤ 100000) : n ≤ sizeLine := Nat.le_of_lt (slt h)
theorem strsD_map : ∀ l : List Str, strsD (l.map .str) = some l
  | [] => rfl
  | x :: r => by simp [strsD, strsD_map r]
theorem intsD_map' : ∀ l : List Int, intsD (l.map .int) = some l
  | [] => rfl
  | x :: r => by simp [intsD, intsD_map' r]
theorem sdS {l : List Str} (h : l.length ≤ 1000) : primD .sortedSet [.lst (l.map .str)] = some (.fr (.lst ((sortS (dedS l)).map .str))) := by
  cases l with
  | nil => rfl
  | cons x r =>
    have hb : (x :: r).length + 1 < scanBound := Nat.lt_of_le_of_lt (Nat.succ_le_succ h) (by decide)
    have := strsD_map (x :: r)
    rw [List.map_cons] at this
    simp only [primD, prSortedSet, prSortedSetS, List.map_cons, intsD, this]
    simp only [Option.bind_none, Option.bind_some, if_pos hb]
theorem soS {l : List Str} (h : l.length < 64) : primD .sorted1 [.lst (l.map .str)] = some (.fr (.lst ((sortS l).map .str))) := by
  cases l with
  | nil => rfl
  | cons x r =>
    have := strsD_map (x :: r)
    rw [List.map_cons] at this
    simp only [primD, prSorted1, prSortedS, List.map_cons, intsD, this]
    simp only [Option.map_none, Option.bind_some, if_pos h]
theorem okDs_strs : ∀ {l : List Str}, (∀ x ∈ l, PyData.strOk x = true) → okDs (l.map .str) = true ∧ depDs (l.map .str) = 0
  | [], _ => ⟨rfl, rfl⟩
  | x :: r, h => by
    have h1 := okDs_strs (l := r) fun y hy => h y (List.mem_cons_of_mem _ hy)
    simp [okDs, okD, depDs, depD, h x List.mem_cons_self, h1]
theorem eqvs_strs : ∀ (a b : List Str), eqvs (a.map .str) (b.map .str) = (a == b)
  | [], [] => rfl
  | [], _ :: _ => rfl
  | _ :: _, [] => rfl
  | x :: a, y :: b => by
    simp only [List.map_cons, eqvs, eqv, eqvs_strs a b]
    rfl
theorem eq_ls {a b : List Str} (ha : ∀ x ∈ a, PyData.strOk x = true) (hb : ∀ x ∈ b, PyData.strOk x = true) : eqD (.lst (a.map .str)) (.lst (b.map .str)) = some (a == b) := by
  have h1 := okDs_strs ha
  have h2 := okDs_strs hb
  unfold eqD
  have f1 : fitD (.lst (a.map .str)) = true := by simp [fitD, okD, depD, h1]
  have f2 : fitD (.lst (b.map .str)) = true := by simp [fitD, okD, depD, h2]
  simp only [scalD, f1, f2, eqv, eqvs_strs]
  rfl
theorem eq_ts {a b : List Str} (ha : ∀ x ∈ a, PyData.strOk x = true) (hb : ∀ x ∈ b, PyData.strOk x = true) : eqD (.tup (a.map .str)) (.tup (b.map .str)) = some (a == b) := by
  have h1 := okDs_strs ha
  have h2 := okDs_strs hb
  unfold eqD
  have f1 : fitD (.tup (a.map .str)) = true := by simp [fitD, okD, depD, h1]
  have f2 : fitD (.tup (b.map .str)) = true := by simp [fitD, okD, depD, h2]
  simp only [scalD, f1, f2, eqv, eqvs_strs]
  rfl
theorem eq_nil {l : List Str} (h : ∀ x ∈ l, PyData.strOk x = true) : eqD (.lst (l.map .str)) (.lst []) = some l.isEmpty := by
  have := eq_ls (a := l) (b := []) h (by simp)
  rw [List.map_nil] at this
  rw [this]
  cases l <;> rfl
theorem eq_tnil {l : List Str} (h : ∀ x ∈ l, PyData.strOk x = true) : eqD (.tup (l.map .str)) (.tup []) = some l.isEmpty := by
  have := eq_ts (a := l) (b := []) h (by simp)
  rw [List.map_nil] at this
  rw [this]
  cases l <;> rfl
theorem inD_strs (x : Str) (l : List Str) : inD (.str x) (l.map .str) = l.contains x := by
  unfold inD
  induction l with
  | nil => rfl
  | cons y r ih =>
    simp only [List.map_cons, List.any_cons, ih, List.contains_cons, eqv]
    congr 1
    exact Bool.eq_iff_iff.mpr ⟨fun h => by rw [eq_of_beq h]; exact beq_self_eq_true _, fun h => by rw [eq_of_beq h]; exact beq_self_eq_true _⟩
theorem find_of {α β : Type} (q : α → Bool) (f : β → α) (l : List β) : (l.map f).find? q = (l.find? fun b => q (f b)).map f := List.find?_map ..
theorem flat_strs (l : List Str) : (l.map D.str).all flatD = true := by
  rw [List.all_map]; simp [flatD]
theorem choose_map {α : Type} {f : α → D} {P : α → Prop} : ∀ {ds : List D}, (∀ d ∈ ds, ∃ x, d = f x ∧ P x) → ∃ l : List α, ds = l.map f ∧ ∀ x ∈ l, P x
  | [], _ => ⟨[], rfl, by simp⟩
  | d :: ds, h => by
    obtain ⟨x, rfl, hx⟩ := h d List.mem_cons_self
    obtain ⟨l, rfl, hl⟩ := choose_map (f := f) (P := P) fun d hd => h d (List.mem_cons_of_mem _ hd)
    refine ⟨x :: l, rfl, fun y hy => ?_⟩
    rcases List.mem_cons.mp hy with rfl | hy
    · exact hx
    · exact hl y hy
theorem GL.three {N : Nm} {a b c : Ak} {ds : List D} (g : GL N [a, b, c] ds) : ∃ d e f, ds = [d, e, f] ∧ GA N a d ∧ GA N b e ∧ GA N c f := by
  cases g with
  | cons g r =>
    obtain ⟨e, f, rfl, g2, g3⟩ := r.two
    exact ⟨_, _, _, rfl, g, g2, g3⟩
theorem GL.four {N : Nm} {a b c d : Ak} {ds : List D} (g : GL N [a, b, c, d] ds) : ∃ x e f h, ds = [x, e, f, h] ∧ GA N a x ∧ GA N b e ∧ GA N c f ∧ GA N d h := by
  cases g with
  | cons g r =>
    obtain ⟨e, f, h, rfl, g2, g3, g4⟩ := GL.three r
    exact ⟨_, _, _, _, rfl, g, g2, g3, g4⟩
theorem big_of' {N : Nm} {d : D} (h : GA N [.big] d) : ∃ i, d = .int i := by
  cases h.of1 with
  | big i => exact ⟨i, rfl⟩
theorem int_of' {N : Nm} {lo hi : Int} {d : D} (h : GA N [.int lo hi] d) : ∃ i, d = .int i ∧ lo ≤ i ∧ i ≤ hi := by
  cases h.of1
  rename_i i h1 h2
  exact ⟨i, rfl, h1, h2⟩
theorem strs_lst {N : Nm} {k lo hi : Nat} {d : D} (g : GA N [.lstN [.str k] lo hi] d) : ∃ ys : List Str, d = .lst (ys.map .str) ∧ lo ≤ ys.length ∧ ys.length ≤ hi ∧ ∀ y ∈ ys, Tx k y := by
  cases g.of1 with
  | lstN m l h =>
    obtain ⟨ys, rfl, _, hy⟩ := strs_of (k := k) fun d hd => by
      cases (m d hd).of1 with
      | str t => exact ⟨_, rfl, t⟩
    rw [List.length_map] at l h
    exact ⟨ys, rfl, l, h, hy⟩
theorem ints_lst {N : Nm} {lo hi : Nat} {d : D} (g : GA N [.lstN [.big] lo hi] d) : ∃ ys : List Int, d = .lst (ys.map .int) ∧ lo ≤ ys.length ∧ ys.length ≤ hi := by
  cases g.of1 with
  | lstN m l h =>
    obtain ⟨ys, rfl, _⟩ := choose_map (f := D.int) (P := fun _ => True) fun d hd => by
      obtain ⟨i, rfl⟩ := big_of' (m d hd)
      exact ⟨i, rfl, trivial⟩
    rw [List.length_map] at l h
    exact ⟨ys, rfl, l, h⟩
end Ofw
/-! staff: plain mathematics of who is come to, and by which ways -/
namespace Stf
open PySem L2 Ofw
structure Hl where
  (h r : Str) (lo hi : Int)
structure Aw where
  (h : Str) (lo hi : Int) (b : Str)
structure Sf where
  hs : List Hl
  as : List Aw
def Hl.d (x : Hl) : D := .tup [.str x.h, .str x.r, .int x.lo, .int x.hi]
def Aw.d (x : Aw) : D := .tup [.str x.h, .int x.lo, .int x.hi, .str x.b]
def Sf.d (s : Sf) : D := .tup [.tup (s.hs.map Hl.d), .tup (s.as.map Aw.d)]
def e0 : Str := ""
/-- the names within are of X, or nobody's -/
structure SOk (X : List Str) (s : Sf) : Prop where
  nm : ∀ x ∈ X, Tx 8 x
  few : X.length ≤ 12
  h60 : s.hs.length ≤ 61
  a60 : s.as.length ≤ 61
  hh : ∀ x ∈ s.hs, x.h ∈ X
  hr : ∀ x ∈ s.hs, Tx 8 x.r
  ah : ∀ x ∈ s.as, x.h ∈ X
  ab : ∀ x ∈ s.as, x.b ∈ X ∨ x.b = e0
def holdB (role : Str) (day : Int) (x : Hl) : Bool := x.r == role && (decide (x.lo ≤ day) && decide (day < x.hi))
def bysB (h : Str) (day : Int) (x : Aw) : Bool := x.h == h && (decide (x.lo ≤ day) && decide (day < x.hi))
def holdL (s : Sf) (role : Str) (day : Int) : List Str := s.hs.filterMap fun x => if holdB role day x then some x.h else none
def bysL (s : Sf) (h : Str) (day : Int) : List Str := s.as.filterMap fun x => if bysB h day x then some x.b else none
def holdS (s : Sf) (role : Str) (day : Int) : List Str := sortS (dedS (holdL s role day))
def stIn (s : Sf) (day : Int) (h : Str) : List Str := sortS (dedS ((bysL s h day).filter (· != e0)))
theorem mem_sd {x : Str} {l : List Str} : x ∈ sortS (dedS l) ↔ x ∈ l := by
  rw [(sortS_perm _).mem_iff, dedS_mem]
theorem len_sd (l : List Str) : (sortS (dedS l)).length ≤ l.length := by
  rw [(sortS_perm _).length_eq]
  induction l with
  | nil => exact Nat.le_refl _
  | cons x r ih =>
    unfold dedS
    split
    · exact Nat.le_succ_of_le ih
    · simp only [List.length_cons]; omega
theorem nodup_sd (l : List Str) : (sortS (dedS l)).Nodup := (sortS_perm _).symm.nodup (dedS_nodup l)
section
variable {X : List Str} {s : Sf} {role : Str} {day : Int}
theorem mem_hold {x : Str} : x ∈ holdL s role day ↔ ∃ y ∈ s.hs, holdB role day y = true ∧ y.h = x := by
  unfold holdL
  rw [List.mem_filterMap]
  constructor
  · rintro ⟨y, hy, h⟩
    split at h
    · exact ⟨y, hy, ‹_›, by simpa using h⟩
    · cases h
  · rintro ⟨y, hy, h1, h2⟩
    exact ⟨y, hy, by rw [if_pos h1, h2]⟩
theorem mem_bys {h x : Str} : x ∈ bysL s h day ↔ ∃ y ∈ s.as, bysB h day y = true ∧ y.b = x := by
  unfold bysL
  rw [List.mem_filterMap]
  constructor
  · rintro ⟨y, hy, h⟩
    split at h
    · exact ⟨y, hy, ‹_›, by simpa using h⟩
    · cases h
  · rintro ⟨y, hy, h1, h2⟩
    exact ⟨y, hy, by rw [if_pos h1, h2]⟩
theorem mem_stIn {h x : Str} : x ∈ stIn s day h ↔ x ∈ bysL s h day ∧ x ≠ e0 := by
  unfold stIn
  rw [mem_sd, List.mem_filter]
  simp
theorem hold_in (ok : SOk X s) {x : Str} (h : x ∈ holdL s role day) : x ∈ X := by
  obtain ⟨y, hy, _, rfl⟩ := mem_hold.mp h
  exact ok.hh y hy
theorem stIn_in (ok : SOk X s) {h x : Str} (hx : x ∈ stIn s day h) : x ∈ X := by
  obtain ⟨h1, h2⟩ := mem_stIn.mp hx
  obtain ⟨y, hy, _, rfl⟩ := mem_bys.mp h1
  exact (ok.ab y hy).resolve_right h2
theorem holdL_len : (holdL s role day).length ≤ s.hs.length := List.length_filterMap_le _ _
theorem bysL_len {h : Str} : (bysL s h day).length ≤ s.as.length := List.length_filterMap_le _ _
theorem stIn_len {h : Str} : (stIn s day h).length ≤ s.as.length := Nat.le_trans (len_sd _) (Nat.le_trans (List.length_filter_le _ _) bysL_len)
/-- come to -/
inductive Reach (s : Sf) (role : Str) (day : Int) : Str → Prop where
  | hold {x : Str} : x ∈ holdL s role day → Reach s role day x
  | step {x y : Str} : Reach s role day x → y ∈ stIn s day x → Reach s role day y
theorem Reach.mem (ok : SOk X s) {x : Str} (h : Reach s role day x) : x ∈ X := by
  cases h with
  | hold h => exact hold_in ok h
  | step _ h => exact stIn_in ok h
/-- those who are come to and are not away, in order -/
def Acts (s : Sf) (role : Str) (day : Int) (l : List Str) : Prop := l.Pairwise (fun a b => leS a b = true) ∧ l.Nodup ∧ ∀ x, x ∈ l ↔ Reach s role day x ∧ bysL s x day = []
theorem Acts.unique {a b : List Str} (ha : Acts s role day a) (hb : Acts s role day b) : a = b :=
  sortedS_unique ((List.perm_ext_iff_of_nodup ha.2.1 hb.2.1).mpr fun k => by rw [ha.2.2 k, hb.2.2 k]) ha.1 hb.1
theorem acts_sort {l : List Str} (nd : l.Nodup) (h : ∀ x, x ∈ l ↔ Reach s role day x ∧ bysL s x day = []) : Acts s role day (sortS l) :=
  ⟨sortS_sorted _, (sortS_perm _).symm.nodup nd, fun x => by rw [(sortS_perm _).mem_iff, h x]⟩
end
/-! ### layer by layer -/
/-- a way's last one -/
def lst (w : List Str) : Str := w.getLastD e0
abbrev Fd := List (Str × List Str)
def keysF (f : Fd) : List Str := f.map (·.1)
def lay1 (st : Str → List Str) : List (List Str) → Fd × List (List Str) → Fd × List (List Str)
  | [], a => a
  | w :: r, (f, l) => if lst w ∈ keysF f then lay1 st r (f, l) else lay1 st r (f ++ [(lst w, w)], l ++ (st (lst w)).map fun y => w ++ [y])
def bfs (st : Str → List Str) : Nat → List (List Str) → Fd → Fd
  | 0, _, f => f
  | _ + 1, [], f => f
  | n + 1, w :: r, f => bfs st n (lay1 st (w :: r) (f, [])).2 (lay1 st (w :: r) (f, [])).1
def ways (s : Sf) (role : Str) (day : Int) : Fd := bfs (stIn s day) 20 ((holdS s role day).map fun h => [h]) []
theorem lst_app (w : List Str) (y : Str) : lst (w ++ [y]) = y := by simp [lst]
theorem lst_one (y : Str) : lst [y] = y := rfl
theorem lst_mem {w : List Str} (h : w ≠ []) : lst w ∈ w := by
  unfold lst
  rw [List.getLastD_eq_getLast?, List.getLast?_eq_some_getLast h]
  exact List.getLast_mem h
section
variable {st : Str → List Str}
theorem keysF_app (f g : Fd) : keysF (f ++ g) = keysF f ++ keysF g := List.map_append
/-- what stays so through a layer -/
theorem lay1_inv (P : List (List Str) → Fd → List (List Str) → Prop) (skip : ∀ w r f l, lst w ∈ keysF f → P (w :: r) f l → P r f l)
    (go : ∀ w r f l, lst w ∉ keysF f → P (w :: r) f l → P r (f ++ [(lst w, w)]) (l ++ (st (lst w)).map fun y => w ++ [y])) : ∀ (r : List (List Str)) (f : Fd) (l : List (List Str)), P r f l → P [] (lay1 st r (f, l)).1 (lay1 st r (f, l)).2
  | [], _, _, h => h
  | w :: r, f, l, h => by
    unfold lay1
    split
    · exact lay1_inv P skip go r _ _ (skip w r f l ‹_› h)
    · exact lay1_inv P skip go r _ _ (go w r f l ‹_› h)
theorem lay1_len (r : List (List Str)) (f : Fd) (l : List (List Str)) : f.length ≤ (lay1 st r (f, l)).1.length ∧ ((lay1 st r (f, l)).1.length = f.length → (lay1 st r (f, l)).2 = l) := by
  have := lay1_inv (st := st) (fun _ f' l' => f.length ≤ f'.length ∧ (f'.length = f.length → l' = l)) (fun w r f l _ h => h) (fun w r f' l' _ h => by
    simp only [List.length_append, List.length_cons, List.length_nil]
    exact ⟨by omega, fun e => by omega⟩) r f l ⟨Nat.le_refl _, fun _ => rfl⟩
  exact this
end
theorem nodup_le : ∀ {a b : List Str}, a.Nodup → (∀ x ∈ a, x ∈ b) → a.length ≤ b.length
  | [], b, _, _ => Nat.zero_le _
  | x :: a, b, nd, h => by
    rw [List.nodup_cons] at nd
    have hx := h x List.mem_cons_self
    have := nodup_le (a := a) (b := b.erase x) nd.2 fun y hy => (List.mem_erase_of_ne (fun e : y = x => nd.1 (e ▸ hy))).mpr (h y (List.mem_cons_of_mem _ hy))
    rw [List.length_erase_of_mem hx] at this
    have := List.length_pos_of_mem hx
    simp only [List.length_cons]
    omega
/-- what is told of found, row, longer -/
structure Lay (st : Str → List Str) (X : List Str) (Rc : Str → Prop) (H : List Str) (r : List (List Str)) (f : Fd) (l : List (List Str)) : Prop where
  nd : (keysF f).Nodup
  fx : ∀ x ∈ keysF f, x ∈ X ∧ Rc x
  rx : ∀ w ∈ r, lst w ∈ X ∧ Rc (lst w)
  lx : ∀ w ∈ l, lst w ∈ X ∧ Rc (lst w)
  hs : ∀ x ∈ H, x ∈ keysF f ∨ (∃ w ∈ r, lst w = x) ∨ ∃ w ∈ l, lst w = x
  cl : ∀ x ∈ keysF f, ∀ y ∈ st x, y ∈ keysF f ∨ (∃ w ∈ r, lst w = y) ∨ ∃ w ∈ l, lst w = y
  fk : ∀ p ∈ f, lst p.2 = p.1
section
variable {st : Str → List Str} {X : List Str} {Rc : Str → Prop} {H : List Str}
theorem Lay.skip {w : List Str} {r : List (List Str)} {f : Fd} {l : List (List Str)} (hk : lst w ∈ keysF f) (h : Lay st X Rc H (w :: r) f l) : Lay st X Rc H r f l := by
  refine ⟨h.nd, h.fx, fun v hv => h.rx v (List.mem_cons_of_mem _ hv), h.lx, fun x hx => ?_, fun x hx y hy => ?_, h.fk⟩
  · rcases h.hs x hx with q | ⟨v, hv, e⟩ | q
    · exact .inl q
    · rcases List.mem_cons.mp hv with rfl | hv
      · exact .inl (e ▸ hk)
      · exact .inr (.inl ⟨v, hv, e⟩)
    · exact .inr (.inr q)
  · rcases h.cl x hx y hy with q | ⟨v, hv, e⟩ | q
    · exact .inl q
    · rcases List.mem_cons.mp hv with rfl | hv
      · exact .inl (e ▸ hk)
      · exact .inr (.inl ⟨v, hv, e⟩)
    · exact .inr (.inr q)
theorem Lay.go (hst : ∀ x, Rc x → ∀ y ∈ st x, y ∈ X ∧ Rc y) {w : List Str} {r : List (List Str)} {f : Fd} {l : List (List Str)} (hk : lst w ∉ keysF f) (h : Lay st X Rc H (w :: r) f l) : Lay st X Rc H r (f ++ [(lst w, w)]) (l ++ (st (lst w)).map fun y => w ++ [y]) := by
  have hw := h.rx w List.mem_cons_self
  have kf : ∀ x, x ∈ keysF (f ++ [(lst w, w)]) ↔ x ∈ keysF f ∨ x = lst w := fun x => by
    rw [keysF_app, List.mem_append]; simp [keysF]
  have ml : ∀ v, v ∈ l ++ (st (lst w)).map (fun y => w ++ [y]) ↔ v ∈ l ∨ ∃ y ∈ st (lst w), v = w ++ [y] := fun v => by
    rw [List.mem_append, List.mem_map]
    simp [eq_comm]
  refine ⟨?_, fun x hx => ?_, fun v hv => h.rx v (List.mem_cons_of_mem _ hv), fun v hv => ?_, fun x hx => ?_, fun x hx y hy => ?_, fun p hp => ?_⟩
  · rw [keysF_app, List.nodup_append]
    refine ⟨h.nd, by simp [keysF], fun a ha b hb e => ?_⟩
    simp [keysF] at hb
    exact hk (by rw [← hb, ← e]; exact ha)
  · rcases (kf x).mp hx with q | rfl
    · exact h.fx x q
    · exact hw
  · rcases (ml v).mp hv with q | ⟨y, hy, rfl⟩
    · exact h.lx v q
    · rw [lst_app]; exact hst _ hw.2 y hy
  · rcases h.hs x hx with q | ⟨v, hv, e⟩ | ⟨v, hv, e⟩
    · exact .inl ((kf x).mpr (.inl q))
    · rcases List.mem_cons.mp hv with rfl | hv
      · exact .inl ((kf x).mpr (.inr e.symm))
      · exact .inr (.inl ⟨v, hv, e⟩)
    · exact .inr (.inr ⟨v, (ml v).mpr (.inl hv), e⟩)
  · rcases (kf x).mp hx with hx | rfl
    · rcases h.cl x hx y hy with q | ⟨v, hv, e⟩ | ⟨v, hv, e⟩
      · exact .inl ((kf y).mpr (.inl q))
      · rcases List.mem_cons.mp hv with rfl | hv
        · exact .inl ((kf y).mpr (.inr e.symm))
        · exact .inr (.inl ⟨v, hv, e⟩)
      · exact .inr (.inr ⟨v, (ml v).mpr (.inl hv), e⟩)
    · exact .inr (.inr ⟨w ++ [y], (ml _).mpr (.inr ⟨y, hy, rfl⟩), lst_app w y⟩)
  · rcases List.mem_append.mp hp with q | q
    · exact h.fk p q
    · simp at q; subst q; rfl
theorem Lay.turn {r : List (List Str)} {f : Fd} {l : List (List Str)} (h : Lay st X Rc H [] f l) : Lay st X Rc H l f [] := by
  refine ⟨h.nd, h.fx, h.lx, fun w hw => (nomatch hw), fun x hx => ?_, fun x hx y hy => ?_, h.fk⟩
  · rcases h.hs x hx with q | ⟨v, hv, _⟩ | q
    · exact .inl q
    · cases hv
    · exact .inr (.inl q)
  · rcases h.cl x hx y hy with q | ⟨v, hv, _⟩ | q
    · exact .inl q
    · cases hv
    · exact .inr (.inl q)
theorem lay_one (hst : ∀ x, Rc x → ∀ y ∈ st x, y ∈ X ∧ Rc y) {r : List (List Str)} {f : Fd} (h : Lay st X Rc H r f []) : Lay st X Rc H (lay1 st r (f, [])).2 (lay1 st r (f, [])).1 [] :=
  (lay1_inv (st := st) (Lay st X Rc H) (fun w r f l hk h => h.skip hk) (fun w r f l hk h => h.go hst hk) r f [] h).turn (r := [])
/-- the rounds end; what is found then -/
theorem bfs_end (hst : ∀ x, Rc x → ∀ y ∈ st x, y ∈ X ∧ Rc y) : ∀ (n : Nat) (r : List (List Str)) (f : Fd), Lay st X Rc H r f [] → (r = [] ∨ X.length + 2 ≤ n + f.length) → Lay st X Rc H [] (bfs st n r f) []
  | 0, r, f, h, hn => by
    rcases hn with rfl | hn
    · exact h
    · have := nodup_le h.nd fun x hx => (h.fx x hx).1
      simp only [keysF, List.length_map] at this
      omega
  | n + 1, [], f, h, _ => h
  | n + 1, w :: r, f, h, hn => by
    have hn : X.length + 2 ≤ n + 1 + f.length := hn.resolve_left (by simp)
    have h1 := lay_one hst h
    have h2 := lay1_len (st := st) (w :: r) f []
    unfold bfs
    refine bfs_end hst n _ _ h1 ?_
    rcases Nat.lt_or_ge f.length (lay1 st (w :: r) (f, [])).1.length with q | q
    · exact .inr (by omega)
    · exact .inl (h2.2 (by omega))
end
section
variable {X : List Str} {s : Sf} {role : Str} {day : Int}
theorem lay_start (ok : SOk X s) : Lay (stIn s day) X (Reach s role day) (holdL s role day) ((holdS s role day).map fun h => [h]) [] [] := by
  have hm : ∀ x, x ∈ holdS s role day ↔ x ∈ holdL s role day := fun x => mem_sd
  refine ⟨.nil, fun x hx => (nomatch hx), fun w hw => ?_, fun w hw => (nomatch hw), fun x hx => ?_, fun x hx => (nomatch hx), fun p hp => (nomatch hp)⟩
  · obtain ⟨h, hh, rfl⟩ := List.mem_map.mp hw
    rw [lst_one]
    exact ⟨hold_in ok ((hm h).mp hh), .hold ((hm h).mp hh)⟩
  · exact .inr (.inl ⟨[x], List.mem_map.mpr ⟨x, (hm x).mpr hx, rfl⟩, rfl⟩)
theorem reach_st (ok : SOk X s) : ∀ x, Reach s role day x → ∀ y ∈ stIn s day x, y ∈ X ∧ Reach s role day y := fun x hx y hy => ⟨stIn_in ok hy, .step hx hy⟩
theorem ways_lay (ok : SOk X s) : Lay (stIn s day) X (Reach s role day) (holdL s role day) [] (ways s role day) [] :=
  bfs_end (reach_st ok) 20 _ _ (lay_start ok) (.inr (by have := ok.few; simp; omega))
theorem closed_reach {st : Str → List Str} {X H : List Str} {f : Fd} (h : Lay st X (Reach s role day) H [] f []) (hH : H = holdL s role day) (hs : st = stIn s day) : ∀ x, x ∈ keysF f ↔ Reach s role day x := by
  subst hH hs
  intro x
  refine ⟨fun hx => (h.fx x hx).2, fun hx => ?_⟩
  induction hx with
  | hold hx =>
    rcases h.hs _ hx with q | ⟨v, hv, _⟩ | ⟨v, hv, _⟩
    · exact q
    · cases hv
    · cases hv
  | step _ hy ih =>
    rcases h.cl _ ih _ hy with q | ⟨v, hv, _⟩ | ⟨v, hv, _⟩
    · exact q
    · cases hv
    · cases hv
theorem ways_keys (ok : SOk X s) (x : Str) : x ∈ keysF (ways s role day) ↔ Reach s role day x := closed_reach (ways_lay ok) rfl rfl x
theorem ways_nd (ok : SOk X s) : (keysF (ways s role day)).Nodup := (ways_lay ok).nd
def actL (s : Sf) (role : Str) (day : Int) : List Str := sortS ((keysF (ways s role day)).filter fun x => (bysL s x day).isEmpty)
theorem actL_acts (ok : SOk X s) : Acts s role day (actL s role day) := acts_sort ((ways_nd ok).filter _) fun x => by
  rw [List.mem_filter, ways_keys ok]
  simp
end
end Stf
namespace Lk06
open PySem L2 Ofw
abbrev R (n : Nat) : CallT := runF fns 1000 n
/-- a hand -/
def hd (a b t : Int) : D := .lst [.int a, .int b, .int t]
def Hd (c : Int) (d : D) : Prop := ∃ a b t, d = hd a b t ∧ 0 ≤ b ∧ b < 2 ^ 62 ∧ 0 ≤ t ∧ t ≤ c
theorem Hd.mono {c e : Int} {d : D} (h : Hd c d) (l : c ≤ e) : Hd e d := by
  obtain ⟨a, b, t, rfl, h1, h2, h3, h4⟩ := h
  exact ⟨a, b, t, rfl, h1, h2, h3, by omega⟩
theorem take_ok (n : Nat) {c m : Int} {d : D} (h : Hd c d) (hc : c < 2 ^ 30) (hm : 0 < m) (hm2 : m < 2 ^ 62) : ∃ r d', R (n + 1) 5 [d, .int m] = some (.val (.int r), [some d', none]) ∧ 0 ≤ r ∧ r < m ∧ Hd (c + 1) d' := by
  obtain ⟨a, b, t, rfl, h1, h2, h3, h4⟩ := h
  have hl : m.natAbs.log2 < 9000 := log2_lt hm (by omega)
  unfold R hd
  rw [run_fn (fd := f5) rfl rfl]
  by_cases ha : 0 < a
  · refine ⟨a % m, hd (a / m) b t, ?_, Int.emod_nonneg _ (by omega), Int.emod_lt_of_pos _ hm, ⟨_, _, _, rfl, h1, h2, h3, by omega⟩⟩
    simp [f5, eVar, eLit, eGlob, eOp, eNot, eAnd, eOr, eIfe, eChain, aNil, aPeek, aVar, aLit, aGlob, aOp, aNot, aAnd, aOr, aIfe, aChain, sIfe, sAsg, sAsgT, sPar, sSeti, sAug, sApp, sExt, sPop, sDrop, sRet, sRetN, sPass, sBrk, sCont, bNil, bCons, evSeq, evIfS, evalAnd, evalOr, evalIfs, applyT, looks, look, valsOf, borOk, putBack, putBor, primD, prBin, binD, prCmp, cmpD, prIdx, prNeg, prTup, prLst, prLen, prInt1, prBool1, prStr1, prAbs1, prMin2, prMax2, prSum1, prAll1, prAny1, prSorted1, prTuple1, prList1, prIsi, prDic0, prUpper, prJoin, prDivmod, prSlcFF, prSlcTF, prSlcFT, prSlcTT, slcD, storing, litD, truD, Rs.d, evAsg, evAsgT, evPar, evSeti, evAug, evApp, evExt, evPop, evDrop, evRet, tVar', tLit', tGlob', tOp', tNot', tAnd', tOr', tIfe', tChain', evalRs, setAll, ownD, putD, putSlot, slotFree, toSl, bindT, bindT.bindTs, startE, outsOf, slotD, Sl.isOwn, isLst, itemsD, itSeq, itRng1, itRng2, fin, isiD, augD, plainSlots, wipeE, backE, ix0, ix1, ix2, range1, range2, range3, applyC, permL, ixN, ha, hm, hl, hd]
  · have k1 : (b + 982451653 * (t + 1)).natAbs < 2 ^ 64 := by omega
    have k2 : (t + 1).natAbs < 2 ^ 64 := by omega
    have l97 : (9973 : Nat).log2 < 9000 := by decide
    have key : ∀ v w : Int, v = (b + 982451653 * (t + 1)) ^ 3 % 2305843009213693951 → w = v * (v % 1000003 + 65537 * (t + 1)) % 2305843009213693921 →
        fin f5.rf (execB (rfOf fns) (runF fns 1000 n) 1000 f5.body (startE f5.rf [D.lst [D.int a, D.int b, D.int t], D.int m] f5.ns)) = some (Rs.val (D.int (w / 9973 % m)), [some (hd a b (t + 1)), none]) := by
      intro v w hv hw
      have k3 : v.natAbs < 2 ^ 64 := by omega
      simp [f5, eVar, eLit, eGlob, eOp, eNot, eAnd, eOr, eIfe, eChain, aNil, aPeek, aVar, aLit, aGlob, aOp, aNot, aAnd, aOr, aIfe, aChain, sIfe, sAsg, sAsgT, sPar, sSeti, sAug, sApp, sExt, sPop, sDrop, sRet, sRetN, sPass, sBrk, sCont, bNil, bCons, evSeq, evIfS, evalAnd, evalOr, evalIfs, applyT, looks, look, valsOf, borOk, putBack, putBor, primD, prBin, binD, prCmp, cmpD, prIdx, prNeg, prTup, prLst, prLen, prInt1, prBool1, prStr1, prAbs1, prMin2, prMax2, prSum1, prAll1, prAny1, prSorted1, prTuple1, prList1, prIsi, prDic0, prUpper, prJoin, prDivmod, prSlcFF, prSlcTF, prSlcFT, prSlcTT, slcD, storing, litD, truD, Rs.d, evAsg, evAsgT, evPar, evSeti, evAug, evApp, evExt, evPop, evDrop, evRet, tVar', tLit', tGlob', tOp', tNot', tAnd', tOr', tIfe', tChain', evalRs, setAll, ownD, putD, putSlot, slotFree, toSl, bindT, bindT.bindTs, startE, outsOf, slotD, Sl.isOwn, isLst, itemsD, itSeq, itRng1, itRng2, fin, isiD, augD, plainSlots, wipeE, backE, ix0, ix1, ix2, range1, range2, range3, applyC, permL, ixN, ha, hm, hl, hd, k1, k2, k3, l97, ← hv, ← hw]
    exact ⟨_, hd a b (t + 1), key _ _ rfl rfl, Int.emod_nonneg _ (by omega), Int.emod_lt_of_pos _ hm, ⟨_, _, _, rfl, h1, h2, by omega, by omega⟩⟩
theorem hand_ok (n : Nat) (ns : List Int) (k : Int) (h0 : 0 ≤ k) (hk : k < 100) : ∃ d, R (n + 1) 4 [.scr ns, .int k] = some (.fr d, [none, none]) ∧ Hd 0 d := by
  unfold R
  rw [run_fn (fd := f4) rfl rfl]
  have kk : k.natAbs < 2 ^ 64 := by omega
  have one : ∀ c : Int, (if 1000000000000000000 ≤ c then (1 : Int) else 0).natAbs < 2 ^ 64 := fun c => by split <;> decide
  have lg1 : (1000000000000000000000000000000000000000000000000000000000000 : Nat).log2 = 199 := by decide +kernel
  have lg2 : (1000000000000000000000000000000000000000000000000000000000000000000000000000000000000000000000000000000000000000000000000 : Nat).log2 = 398 := by decide +kernel
  have key : ∀ c : Int, (k < ns.length → ixD ns k = some c) → (¬ k < ns.length → c = 0) →
      ∃ a, fin f4.rf (execB (rfOf fns) (runF fns 1000 n) 1000 f4.body (startE f4.rf [D.scr ns, D.int k] f4.ns)) = some (Rs.fr (hd a (c % 2305843009213693951 + 7919 * k + 3) 0), [none, none]) := by
    intro c h1 h2
    have m1 := one c
    refine ⟨c % (10 ^ 60 * 10 ^ 60 * 10 ^ 60) * (if 1000000000000000000 ≤ c then 1 else 0), ?_⟩
    by_cases hl : k < ns.length
    · simp [f4, eVar, eLit, eGlob, eOp, eNot, eAnd, eOr, eIfe, eChain, aNil, aPeek, aVar, aLit, aGlob, aOp, aNot, aAnd, aOr, aIfe, aChain, sIfe, sAsg, sAsgT, sPar, sSeti, sAug, sApp, sExt, sPop, sDrop, sRet, sRetN, sPass, sBrk, sCont, bNil, bCons, evSeq, evIfS, evalAnd, evalOr, evalIfs, applyT, looks, look, valsOf, borOk, putBack, putBor, primD, prBin, binD, prCmp, cmpD, prIdx, prNeg, prTup, prLst, prLen, prInt1, prBool1, prStr1, prAbs1, prMin2, prMax2, prSum1, prAll1, prAny1, prSorted1, prTuple1, prList1, prIsi, prDic0, prUpper, prJoin, prDivmod, prSlcFF, prSlcTF, prSlcFT, prSlcTT, slcD, storing, litD, truD, Rs.d, evAsg, evAsgT, evPar, evSeti, evAug, evApp, evExt, evPop, evDrop, evRet, tVar', tLit', tGlob', tOp', tNot', tAnd', tOr', tIfe', tChain', evalRs, setAll, ownD, putD, putSlot, slotFree, toSl, bindT, bindT.bindTs, startE, outsOf, slotD, Sl.isOwn, isLst, itemsD, itSeq, itRng1, itRng2, fin, isiD, augD, plainSlots, wipeE, backE, ix0, ix1, ix2, range1, range2, range3, applyC, permL, ixN, h1 hl, hl, hd, kk, m1, sizeLine, lg1, lg2]
    · obtain rfl := h2 hl
      simp [f4, eVar, eLit, eGlob, eOp, eNot, eAnd, eOr, eIfe, eChain, aNil, aPeek, aVar, aLit, aGlob, aOp, aNot, aAnd, aOr, aIfe, aChain, sIfe, sAsg, sAsgT, sPar, sSeti, sAug, sApp, sExt, sPop, sDrop, sRet, sRetN, sPass, sBrk, sCont, bNil, bCons, evSeq, evIfS, evalAnd, evalOr, evalIfs, applyT, looks, look, valsOf, borOk, putBack, putBor, primD, prBin, binD, prCmp, cmpD, prIdx, prNeg, prTup, prLst, prLen, prInt1, prBool1, prStr1, prAbs1, prMin2, prMax2, prSum1, prAll1, prAny1, prSorted1, prTuple1, prList1, prIsi, prDic0, prUpper, prJoin, prDivmod, prSlcFF, prSlcTF, prSlcFT, prSlcTT, slcD, storing, litD, truD, Rs.d, evAsg, evAsgT, evPar, evSeti, evAug, evApp, evExt, evPop, evDrop, evRet, tVar', tLit', tGlob', tOp', tNot', tAnd', tOr', tIfe', tChain', evalRs, setAll, ownD, putD, putSlot, slotFree, toSl, bindT, bindT.bindTs, startE, outsOf, slotD, Sl.isOwn, isLst, itemsD, itSeq, itRng1, itRng2, fin, isiD, augD, plainSlots, wipeE, backE, ix0, ix1, ix2, range1, range2, range3, applyC, permL, ixN, hl, hd, kk, m1, sizeLine, lg1, lg2]
  by_cases hl : k < ns.length
  · obtain ⟨c, e, _⟩ := ix_in (xs := ns) (i := k) (by omega) (by omega)
    obtain ⟨a, e1⟩ := key c (fun _ => e) (fun h => absurd hl h)
    exact ⟨_, e1, _, _, _, rfl, by omega, by omega, by omega, by omega⟩
  · obtain ⟨a, e1⟩ := key 0 (fun h => absurd h hl) (fun _ => rfl)
    exact ⟨_, e1, _, _, _, rfl, by omega, by omega, by omega, by omega⟩
/-- of a list, a tuple -/
theorem of_seq (n : Nat) {c : Int} {d s : D} {xs : List D} (h : Hd c d) (hc : c < 2 ^ 30) (hs : s = .lst xs ∨ s = .tup xs) (h0 : 0 < xs.length) (h1 : xs.length < 2 ^ 40) : ∃ x d', R (n + 2) 6 [d, s] = some (.val x, [some d', none]) ∧ x ∈ xs ∧ Hd (c + 1) d' := by
  obtain ⟨r, d', e, r0, r1, hd'⟩ := take_ok n h hc (m := (xs.length : Int)) (by omega) (by omega)
  obtain ⟨x, ex, hx⟩ := ix_in (xs := xs) r0 r1
  refine ⟨x, d', ?_, hx, hd'⟩
  unfold R at e ⊢
  rw [run_fn (fd := f6) rfl rfl]
  rcases hs with rfl | rfl <;> simp [f6, eVar, eLit, eGlob, eOp, eNot, eAnd, eOr, eIfe, eChain, aNil, aPeek, aVar, aLit, aGlob, aOp, aNot, aAnd, aOr, aIfe, aChain, sIfe, sAsg, sAsgT, sPar, sSeti, sAug, sApp, sExt, sPop, sDrop, sRet, sRetN, sPass, sBrk, sCont, bNil, bCons, evSeq, evIfS, evalAnd, evalOr, evalIfs, applyT, looks, look, valsOf, borOk, putBack, putBor, primD, prBin, binD, prCmp, cmpD, prIdx, prNeg, prTup, prLst, prLen, prInt1, prBool1, prStr1, prAbs1, prMin2, prMax2, prSum1, prAll1, prAny1, prSorted1, prTuple1, prList1, prIsi, prDic0, prUpper, prJoin, prDivmod, prSlcFF, prSlcTF, prSlcFT, prSlcTT, slcD, storing, litD, truD, Rs.d, evAsg, evAsgT, evPar, evSeti, evAug, evApp, evExt, evPop, evDrop, evRet, tVar', tLit', tGlob', tOp', tNot', tAnd', tOr', tIfe', tChain', evalRs, setAll, ownD, putD, putSlot, slotFree, toSl, bindT, bindT.bindTs, startE, outsOf, slotD, Sl.isOwn, isLst, itemsD, itSeq, itRng1, itRng2, fin, isiD, augD, plainSlots, wipeE, backE, ix0, ix1, ix2, range1, range2, range3, applyC, permL, rf5, e, ex]
theorem of_str (n : Nat) {c : Int} {d : D} {z : Str} (h : Hd c d) (hc : c < 2 ^ 30) (h0 : 0 < z.length) (h1 : z.length < 1000) : ∃ x d', R (n + 2) 6 [d, .str z] = some (.val (.str ⟨#[x]⟩), [some d', none]) ∧ x ∈ z.cps.toList ∧ Hd (c + 1) d' := by
  obtain ⟨r, d', e, r0, r1, hd'⟩ := take_ok n h hc (m := (z.length : Int)) (by omega) (by omega)
  obtain ⟨x, ex, hx⟩ := ix_in (xs := z.cps.toList) r0 (by rw [Array.length_toList]; exact r1)
  refine ⟨x, d', ?_, hx, hd'⟩
  have hz : z.length ≤ sizeLine := Nat.le_trans (Nat.le_of_lt h1) (by decide)
  unfold R at e ⊢
  rw [run_fn (fd := f6) rfl rfl]
  simp [f6, eVar, eLit, eGlob, eOp, eNot, eAnd, eOr, eIfe, eChain, aNil, aPeek, aVar, aLit, aGlob, aOp, aNot, aAnd, aOr, aIfe, aChain, sIfe, sAsg, sAsgT, sPar, sSeti, sAug, sApp, sExt, sPop, sDrop, sRet, sRetN, sPass, sBrk, sCont, bNil, bCons, evSeq, evIfS, evalAnd, evalOr, evalIfs, applyT, looks, look, valsOf, borOk, putBack, putBor, primD, prBin, binD, prCmp, cmpD, prIdx, prNeg, prTup, prLst, prLen, prInt1, prBool1, prStr1, prAbs1, prMin2, prMax2, prSum1, prAll1, prAny1, prSorted1, prTuple1, prList1, prIsi, prDic0, prUpper, prJoin, prDivmod, prSlcFF, prSlcTF, prSlcFT, prSlcTT, slcD, storing, litD, truD, Rs.d, evAsg, evAsgT, evPar, evSeti, evAug, evApp, evExt, evPop, evDrop, evRet, tVar', tLit', tGlob', tOp', tNot', tAnd', tOr', tIfe', tChain', evalRs, setAll, ownD, putD, putSlot, slotFree, toSl, bindT, bindT.bindTs, startE, outsOf, slotD, Sl.isOwn, isLst, itemsD, itSeq, itRng1, itRng2, fin, isiD, augD, plainSlots, wipeE, backE, ix0, ix1, ix2, range1, range2, range3, applyC, permL, rf5, e, ex, hz]
/-- calls of hand, take, of, told on kinds -/
def ofA (c : Nat) (t : At) : Option Afo := match tupV t with
  | some (a, l, h) => if 1 ≤ l ∧ h < 1000000 then some ((false, a), [some [.nam 0 (c + 1)], none]) else none
  | none => match lstV t with
    | some (a, l, h) => if 1 ≤ l ∧ h < 1000000 then some ((false, a), [some [.nam 0 (c + 1)], none]) else none
    | none => match t with
      | .txt x => if 1 ≤ x.length ∧ x.length < 1000 ∧ PyData.strOk x = true then some ((false, [.str 1]), [some [.nam 0 (c + 1)], none]) else none
      | _ => none
def manB (V : Vw) : Hdl := fun f as =>
  if f == 5 then match as with
    | [[.nam 0 c], [.int lo hi]] => if 1 ≤ lo ∧ hi < 4611686018427387904 ∧ c < 536870912 then some ((false, [.int 0 (hi - 1)]), [some [.nam 0 (c + 1)], none]) else none
    | _ => none
  else if f == 6 then match as with
    | [[.nam 0 c], a0] => if c < 536870912 then match expA V a0 with
        | [t] => ofA c t
        | _ => none
      else none
    | _ => none
  else if f == 4 then match as with
    | [[.scr], [.int lo hi]] => if 0 ≤ lo ∧ hi < 100 then some ((true, [.nam 0 0]), [none, none]) else none
    | _ => none
  else none
def vHd : Ak := [.lst [[.big], [.big], [.big]]]
theorem Hd.view {N : Nm} {c : Int} {d : D} (h : Hd c d) : GA N vHd d := by
  obtain ⟨a, b, t, rfl, _⟩ := h
  exact .one (.lst (.cons (.one (.big _)) (.cons (.one (.big _)) (.cons (.one (.big _)) .nil))))
theorem manB_ok {N : Nm} (ok : NmOk N) {base : Nat} (hP : ∀ c d, N.P 0 c d ↔ Hd ((base + c : Nat) : Int) d) (hb : base ≤ 536870912) (n : Nat) (hn : 2 ≤ n) : HOk N (R n) (manB N.view) := by
  obtain ⟨n, rfl⟩ : ∃ m, n = m + 2 := ⟨n - 2, by omega⟩
  have hand : ∀ {c : Nat} {d : D}, GA N [.nam 0 c] d → Hd ((base + c : Nat) : Int) d := fun g => by
    cases g.of1 with
    | nam h => exact (hP _ _).mp h
  have next : ∀ {c : Nat} {d : D}, Hd (((base + c : Nat) : Int) + 1) d → GA N [.nam 0 (c + 1)] d := fun {c d} h => .one (.nam ((hP _ _).mpr (h.mono (by omega))))
  intro f as r outs h ds gl
  unfold manB at h
  split at h
  · rename_i hf
    have hf := eq_of_beq hf
    subst hf
    split at h
    · rename_i c lo hi
      split at h
      · rename_i hc
        cases h
        obtain ⟨d, e, rfl, g1, g2⟩ := gl.two
        cases g2.of1
        rename_i m h1 h2
        obtain ⟨r, d', e1, r0, r1, hd'⟩ := take_ok (n + 1) (hand g1) (by omega) (m := m) (by omega) (by omega)
        exact ⟨_, _, e1, .val (.one (.int r0 (by omega))), .one (next hd') (.non .nil)⟩
      · cases h
    · cases h
  · split at h
    · rename_i hf
      have hf := eq_of_beq hf
      subst hf
      split at h
      · rename_i c a0
        split at h
        rotate_left
        · cases h
        · rename_i hc
          obtain ⟨d, e, rfl, g1, g20⟩ := gl.two
          have g2 := expA_ok ok g20
          split at h
          rotate_left
          · cases h
          rename_i t et
          rw [et] at g2
          unfold ofA at h
          split at h
          · rename_i e1
            split at h
            · rename_i hl
              cases h
              obtain ⟨xs, rfl, m, l1, l2⟩ := tupV_ok ok g2.of1 e1
              obtain ⟨x, d', e2, hx, hd'⟩ := of_seq n (xs := xs) (hand g1) (by omega) (.inr rfl) (by omega) (by omega)
              exact ⟨_, _, e2, .val (m x hx), .one (next hd') (.non .nil)⟩
            · cases h
          · split at h
            · rename_i e1
              split at h
              · rename_i hl
                cases h
                obtain ⟨xs, rfl, m, l1, l2⟩ := lstV_ok ok g2.of1 e1
                obtain ⟨x, d', e2, hx, hd'⟩ := of_seq n (xs := xs) (hand g1) (by omega) (.inl rfl) (by omega) (by omega)
                exact ⟨_, _, e2, .val (m x hx), .one (next hd') (.non .nil)⟩
              · cases h
            · split at h
              · split at h
                · rename_i hl
                  cases h
                  cases g2.of1
                  obtain ⟨x, d', e2, hx, hd'⟩ := of_str n (hand g1) (by omega) hl.1 hl.2.1
                  have tz : Tx _ _ := ⟨Nat.le_refl _, hl.2.2⟩
                  exact ⟨_, _, e2, .val (.one (.str (tz.char hx))), .one (next hd') (.non .nil)⟩
                · cases h
              · cases h
      · cases h
    · split at h
      · rename_i hf
        have hf := eq_of_beq hf
        subst hf
        split at h
        · split at h
          · rename_i hc
            cases h
            obtain ⟨d, e, rfl, g1, g2⟩ := gl.two
            cases g1.of1
            cases g2.of1
            rename_i ns _ k h1 h2
            obtain ⟨d, e1, hd⟩ := hand_ok (n + 1) ns k (by omega) (by omega)
            exact ⟨_, _, e1, .fr (.one (.nam ((hP _ _).mpr (hd.mono (by omega))))), .non (.non .nil)⟩
          · cases h
        · cases h
      · cases h
end Lk06
/-! staff: what the program's and the law's defs compute -/
namespace Lk06
open PySem L2 Ofw Stf
theorem e0_eq : Str.ofString "" = e0 := rfl
theorem sl61 {n : Nat} (h : n ≤ 1000) : n < sizeLine := Nat.lt_of_le_of_lt h (by decide)
theorem sl61' {n : Nat} (h : n ≤ 1000) : n ≤ sizeLine := Nat.le_of_lt (sl61 h)
theorem hold_L1 (C : CallT) {X : List Str} {s : Sf} (ok : SOk X s) (role : Str) (day : Int) : evalE (rfOf fns) C f0L1 [.val s.d, .val (.str role), .val (.int day), .emp, .emp, .emp, .emp] = some (.fr (.lst ((holdL s role day).map .str)), [.val s.d, .val (.str role), .val (.int day), .emp, .emp, .emp, .emp]) := by
  have e := lc_X (rf := rfOf fns) (C := C) (ex := f0L1) rfl [.val s.d, .val (.str role), .val (.int day), .emp, .emp, .emp, .emp] [.val s.d, .val (.str role), .val (.int day), .emp, .emp, .emp, .emp] (xs := [.v (.tup (s.hs.map Hl.d))]) (ds := [.tup (s.hs.map Hl.d)]) s.hs Hl.d (fun x => if holdB role day x then some (.str x.h) else none)
    (by simp [eVar, eLit, eGlob, eOp, eNot, eAnd, eOr, eIfe, eChain, aNil, aPeek, aVar, aLit, aGlob, aOp, aNot, aAnd, aOr, aIfe, aChain, sIfe, sAsg, sAsgT, sPar, sSeti, sAug, sApp, sExt, sPop, sDrop, sRet, sRetN, sPass, sBrk, sCont, bNil, bCons, evSeq, evIfS, evalAnd, evalOr, evalIfs, applyT, looks, look, valsOf, borOk, putBack, putBor, primD, prBin, binD, prCmp, cmpD, prIdx, prNeg, prTup, prLst, prLen, prInt1, prBool1, prStr1, prAbs1, prMin2, prMax2, prSum1, prAll1, prAny1, prSorted1, prTuple1, prList1, prIsi, prDic0, prUpper, prJoin, prDivmod, prSlcFF, prSlcTF, prSlcFT, prSlcTT, slcD, storing, litD, truD, Rs.d, evAsg, evAsgT, evPar, evSeti, evAug, evApp, evExt, evPop, evDrop, evRet, tVar', tLit', tGlob', tOp', tNot', tAnd', tOr', tIfe', tChain', evalRs, setAll, ownD, putD, putSlot, slotFree, toSl, bindT, bindT.bindTs, startE, outsOf, slotD, Sl.isOwn, isLst, itemsD, itSeq, itRng1, itRng2, fin, isiD, augD, plainSlots, wipeE, backE, ix0, ix1, ix2, range1, range2, range3, applyC, permL, Sf.d]) rfl rfl rfl (sl61 (by have := ok.h60; omega)) (by
      intro x _
      unfold holdB Hl.d
      cases h1 : x.r == role
      · simp [lcTurn, eVar, eLit, eGlob, eOp, eNot, eAnd, eOr, eIfe, eChain, aNil, aPeek, aVar, aLit, aGlob, aOp, aNot, aAnd, aOr, aIfe, aChain, sIfe, sAsg, sAsgT, sPar, sSeti, sAug, sApp, sExt, sPop, sDrop, sRet, sRetN, sPass, sBrk, sCont, bNil, bCons, evSeq, evIfS, evalAnd, evalOr, evalIfs, applyT, looks, look, valsOf, borOk, putBack, putBor, primD, prBin, binD, prCmp, cmpD, prIdx, prNeg, prTup, prLst, prLen, prInt1, prBool1, prStr1, prAbs1, prMin2, prMax2, prSum1, prAll1, prAny1, prSorted1, prTuple1, prList1, prIsi, prDic0, prUpper, prJoin, prDivmod, prSlcFF, prSlcTF, prSlcFT, prSlcTT, slcD, storing, litD, truD, Rs.d, evAsg, evAsgT, evPar, evSeti, evAug, evApp, evExt, evPop, evDrop, evRet, tVar', tLit', tGlob', tOp', tNot', tAnd', tOr', tIfe', tChain', evalRs, setAll, ownD, putD, putSlot, slotFree, toSl, bindT, bindT.bindTs, startE, outsOf, slotD, Sl.isOwn, isLst, itemsD, itSeq, itRng1, itRng2, fin, isiD, augD, plainSlots, wipeE, backE, ix0, ix1, ix2, range1, range2, range3, applyC, permL, evalIfs, eqS, h1]
      · by_cases h2 : x.lo ≤ day
        · by_cases h3 : day < x.hi <;> simp [lcTurn, eVar, eLit, eGlob, eOp, eNot, eAnd, eOr, eIfe, eChain, aNil, aPeek, aVar, aLit, aGlob, aOp, aNot, aAnd, aOr, aIfe, aChain, sIfe, sAsg, sAsgT, sPar, sSeti, sAug, sApp, sExt, sPop, sDrop, sRet, sRetN, sPass, sBrk, sCont, bNil, bCons, evSeq, evIfS, evalAnd, evalOr, evalIfs, applyT, looks, look, valsOf, borOk, putBack, putBor, primD, prBin, binD, prCmp, cmpD, prIdx, prNeg, prTup, prLst, prLen, prInt1, prBool1, prStr1, prAbs1, prMin2, prMax2, prSum1, prAll1, prAny1, prSorted1, prTuple1, prList1, prIsi, prDic0, prUpper, prJoin, prDivmod, prSlcFF, prSlcTF, prSlcFT, prSlcTT, slcD, storing, litD, truD, Rs.d, evAsg, evAsgT, evPar, evSeti, evAug, evApp, evExt, evPop, evDrop, evRet, tVar', tLit', tGlob', tOp', tNot', tAnd', tOr', tIfe', tChain', evalRs, setAll, ownD, putD, putSlot, slotFree, toSl, bindT, bindT.bindTs, startE, outsOf, slotD, Sl.isOwn, isLst, itemsD, itSeq, itRng1, itRng2, fin, isiD, augD, plainSlots, wipeE, backE, ix0, ix1, ix2, range1, range2, range3, applyC, permL, evalIfs, eqS, h1, h2, h3]
        · simp [lcTurn, eVar, eLit, eGlob, eOp, eNot, eAnd, eOr, eIfe, eChain, aNil, aPeek, aVar, aLit, aGlob, aOp, aNot, aAnd, aOr, aIfe, aChain, sIfe, sAsg, sAsgT, sPar, sSeti, sAug, sApp, sExt, sPop, sDrop, sRet, sRetN, sPass, sBrk, sCont, bNil, bCons, evSeq, evIfS, evalAnd, evalOr, evalIfs, applyT, looks, look, valsOf, borOk, putBack, putBor, primD, prBin, binD, prCmp, cmpD, prIdx, prNeg, prTup, prLst, prLen, prInt1, prBool1, prStr1, prAbs1, prMin2, prMax2, prSum1, prAll1, prAny1, prSorted1, prTuple1, prList1, prIsi, prDic0, prUpper, prJoin, prDivmod, prSlcFF, prSlcTF, prSlcFT, prSlcTT, slcD, storing, litD, truD, Rs.d, evAsg, evAsgT, evPar, evSeti, evAug, evApp, evExt, evPop, evDrop, evRet, tVar', tLit', tGlob', tOp', tNot', tAnd', tOr', tIfe', tChain', evalRs, setAll, ownD, putD, putSlot, slotFree, toSl, bindT, bindT.bindTs, startE, outsOf, slotD, Sl.isOwn, isLst, itemsD, itSeq, itRng1, itRng2, fin, isiD, augD, plainSlots, wipeE, backE, ix0, ix1, ix2, range1, range2, range3, applyC, permL, evalIfs, eqS, h1, h2])
  rw [e, fm_some]
  rfl
theorem holders_ok (n : Nat) {X : List Str} {s : Sf} (ok : SOk X s) (role : Str) (day : Int) : R (n + 1) 0 [s.d, .str role, .int day] = some (.fr (.lst ((holdS s role day).map .str)), [none, none, none]) := by
  have e := hold_L1 (runF fns 1000 n) ok role day
  have e2 := sdS (l := holdL s role day) (by have := holdL_len (s := s) (role := role) (day := day); have := ok.h60; omega)
  unfold R
  rw [run_fn (fd := f0) rfl rfl]
  simp only [primD] at e2
  simp [f0, eVar, eLit, eGlob, eOp, eNot, eAnd, eOr, eIfe, eChain, aNil, aPeek, aVar, aLit, aGlob, aOp, aNot, aAnd, aOr, aIfe, aChain, sIfe, sAsg, sAsgT, sPar, sSeti, sAug, sApp, sExt, sPop, sDrop, sRet, sRetN, sPass, sBrk, sCont, bNil, bCons, evSeq, evIfS, evalAnd, evalOr, evalIfs, applyT, looks, look, valsOf, borOk, putBack, putBor, primD, prBin, binD, prCmp, cmpD, prIdx, prNeg, prTup, prLst, prLen, prInt1, prBool1, prStr1, prAbs1, prMin2, prMax2, prSum1, prAll1, prAny1, prSorted1, prTuple1, prList1, prIsi, prDic0, prUpper, prJoin, prDivmod, prSlcFF, prSlcTF, prSlcFT, prSlcTT, slcD, storing, litD, truD, Rs.d, evAsg, evAsgT, evPar, evSeti, evAug, evApp, evExt, evPop, evDrop, evRet, tVar', tLit', tGlob', tOp', tNot', tAnd', tOr', tIfe', tChain', evalRs, setAll, ownD, putD, putSlot, slotFree, toSl, bindT, bindT.bindTs, startE, outsOf, slotD, Sl.isOwn, isLst, itemsD, itSeq, itRng1, itRng2, fin, isiD, augD, plainSlots, wipeE, backE, ix0, ix1, ix2, range1, range2, range3, applyC, permL, af0L1, e, e2, holdS]
theorem stand_L1 (C : CallT) {X : List Str} {s : Sf} (ok : SOk X s) (hand : Str) (day : Int) : evalE (rfOf fns) C f1L1 [.val s.d, .val (.str hand), .val (.int day), .emp, .emp, .emp, .emp, .emp] = some (.fr (.lst ((bysL s hand day).map .str)), [.val s.d, .val (.str hand), .val (.int day), .emp, .emp, .emp, .emp, .emp]) := by
  have e := lc_X (rf := rfOf fns) (C := C) (ex := f1L1) rfl [.val s.d, .val (.str hand), .val (.int day), .emp, .emp, .emp, .emp, .emp] [.val s.d, .val (.str hand), .val (.int day), .emp, .emp, .emp, .emp, .emp] (xs := [.v (.tup (s.as.map Aw.d))]) (ds := [.tup (s.as.map Aw.d)]) s.as Aw.d (fun x => if bysB hand day x then some (.str x.b) else none)
    (by simp [eVar, eLit, eGlob, eOp, eNot, eAnd, eOr, eIfe, eChain, aNil, aPeek, aVar, aLit, aGlob, aOp, aNot, aAnd, aOr, aIfe, aChain, sIfe, sAsg, sAsgT, sPar, sSeti, sAug, sApp, sExt, sPop, sDrop, sRet, sRetN, sPass, sBrk, sCont, bNil, bCons, evSeq, evIfS, evalAnd, evalOr, evalIfs, applyT, looks, look, valsOf, borOk, putBack, putBor, primD, prBin, binD, prCmp, cmpD, prIdx, prNeg, prTup, prLst, prLen, prInt1, prBool1, prStr1, prAbs1, prMin2, prMax2, prSum1, prAll1, prAny1, prSorted1, prTuple1, prList1, prIsi, prDic0, prUpper, prJoin, prDivmod, prSlcFF, prSlcTF, prSlcFT, prSlcTT, slcD, storing, litD, truD, Rs.d, evAsg, evAsgT, evPar, evSeti, evAug, evApp, evExt, evPop, evDrop, evRet, tVar', tLit', tGlob', tOp', tNot', tAnd', tOr', tIfe', tChain', evalRs, setAll, ownD, putD, putSlot, slotFree, toSl, bindT, bindT.bindTs, startE, outsOf, slotD, Sl.isOwn, isLst, itemsD, itSeq, itRng1, itRng2, fin, isiD, augD, plainSlots, wipeE, backE, ix0, ix1, ix2, range1, range2, range3, applyC, permL, Sf.d]) rfl rfl rfl (sl61 (by have := ok.a60; omega)) (by
      intro x _
      unfold bysB Aw.d
      cases h1 : x.h == hand
      · simp [lcTurn, eVar, eLit, eGlob, eOp, eNot, eAnd, eOr, eIfe, eChain, aNil, aPeek, aVar, aLit, aGlob, aOp, aNot, aAnd, aOr, aIfe, aChain, sIfe, sAsg, sAsgT, sPar, sSeti, sAug, sApp, sExt, sPop, sDrop, sRet, sRetN, sPass, sBrk, sCont, bNil, bCons, evSeq, evIfS, evalAnd, evalOr, evalIfs, applyT, looks, look, valsOf, borOk, putBack, putBor, primD, prBin, binD, prCmp, cmpD, prIdx, prNeg, prTup, prLst, prLen, prInt1, prBool1, prStr1, prAbs1, prMin2, prMax2, prSum1, prAll1, prAny1, prSorted1, prTuple1, prList1, prIsi, prDic0, prUpper, prJoin, prDivmod, prSlcFF, prSlcTF, prSlcFT, prSlcTT, slcD, storing, litD, truD, Rs.d, evAsg, evAsgT, evPar, evSeti, evAug, evApp, evExt, evPop, evDrop, evRet, tVar', tLit', tGlob', tOp', tNot', tAnd', tOr', tIfe', tChain', evalRs, setAll, ownD, putD, putSlot, slotFree, toSl, bindT, bindT.bindTs, startE, outsOf, slotD, Sl.isOwn, isLst, itemsD, itSeq, itRng1, itRng2, fin, isiD, augD, plainSlots, wipeE, backE, ix0, ix1, ix2, range1, range2, range3, applyC, permL, evalIfs, eqS, h1]
      · by_cases h2 : x.lo ≤ day
        · by_cases h3 : day < x.hi <;> simp [lcTurn, eVar, eLit, eGlob, eOp, eNot, eAnd, eOr, eIfe, eChain, aNil, aPeek, aVar, aLit, aGlob, aOp, aNot, aAnd, aOr, aIfe, aChain, sIfe, sAsg, sAsgT, sPar, sSeti, sAug, sApp, sExt, sPop, sDrop, sRet, sRetN, sPass, sBrk, sCont, bNil, bCons, evSeq, evIfS, evalAnd, evalOr, evalIfs, applyT, looks, look, valsOf, borOk, putBack, putBor, primD, prBin, binD, prCmp, cmpD, prIdx, prNeg, prTup, prLst, prLen, prInt1, prBool1, prStr1, prAbs1, prMin2, prMax2, prSum1, prAll1, prAny1, prSorted1, prTuple1, prList1, prIsi, prDic0, prUpper, prJoin, prDivmod, prSlcFF, prSlcTF, prSlcFT, prSlcTT, slcD, storing, litD, truD, Rs.d, evAsg, evAsgT, evPar, evSeti, evAug, evApp, evExt, evPop, evDrop, evRet, tVar', tLit', tGlob', tOp', tNot', tAnd', tOr', tIfe', tChain', evalRs, setAll, ownD, putD, putSlot, slotFree, toSl, bindT, bindT.bindTs, startE, outsOf, slotD, Sl.isOwn, isLst, itemsD, itSeq, itRng1, itRng2, fin, isiD, augD, plainSlots, wipeE, backE, ix0, ix1, ix2, range1, range2, range3, applyC, permL, evalIfs, eqS, h1, h2, h3]
        · simp [lcTurn, eVar, eLit, eGlob, eOp, eNot, eAnd, eOr, eIfe, eChain, aNil, aPeek, aVar, aLit, aGlob, aOp, aNot, aAnd, aOr, aIfe, aChain, sIfe, sAsg, sAsgT, sPar, sSeti, sAug, sApp, sExt, sPop, sDrop, sRet, sRetN, sPass, sBrk, sCont, bNil, bCons, evSeq, evIfS, evalAnd, evalOr, evalIfs, applyT, looks, look, valsOf, borOk, putBack, putBor, primD, prBin, binD, prCmp, cmpD, prIdx, prNeg, prTup, prLst, prLen, prInt1, prBool1, prStr1, prAbs1, prMin2, prMax2, prSum1, prAll1, prAny1, prSorted1, prTuple1, prList1, prIsi, prDic0, prUpper, prJoin, prDivmod, prSlcFF, prSlcTF, prSlcFT, prSlcTT, slcD, storing, litD, truD, Rs.d, evAsg, evAsgT, evPar, evSeti, evAug, evApp, evExt, evPop, evDrop, evRet, tVar', tLit', tGlob', tOp', tNot', tAnd', tOr', tIfe', tChain', evalRs, setAll, ownD, putD, putSlot, slotFree, toSl, bindT, bindT.bindTs, startE, outsOf, slotD, Sl.isOwn, isLst, itemsD, itSeq, itRng1, itRng2, fin, isiD, augD, plainSlots, wipeE, backE, ix0, ix1, ix2, range1, range2, range3, applyC, permL, evalIfs, eqS, h1, h2])
  rw [e, fm_some]
  rfl
theorem stand_L2 (C : CallT) {s : Sf} (hand : Str) (day : Int) (l : List Str) (hl : l.length ≤ 1000) : evalE (rfOf fns) C f1L2 [.val s.d, .val (.str hand), .val (.int day), .own (.lst (l.map .str)), .emp, .emp, .emp, .emp] = some (.fr (.lst ((l.filter (· != e0)).map .str)), [.val s.d, .val (.str hand), .val (.int day), .val (.lst (l.map .str)), .emp, .emp, .emp, .emp]) := by
  have e := lc_X (rf := rfOf fns) (C := C) (ex := f1L2) rfl [.val s.d, .val (.str hand), .val (.int day), .own (.lst (l.map .str)), .emp, .emp, .emp, .emp] [.val s.d, .val (.str hand), .val (.int day), .val (.lst (l.map .str)), .emp, .emp, .emp, .emp] (xs := [.v (.lst (l.map .str))]) (ds := [.lst (l.map .str)]) l D.str (fun x => if x != e0 then some (.str x) else none)
    (by simp [eVar, eLit, eGlob, eOp, eNot, eAnd, eOr, eIfe, eChain, aNil, aPeek, aVar, aLit, aGlob, aOp, aNot, aAnd, aOr, aIfe, aChain, sIfe, sAsg, sAsgT, sPar, sSeti, sAug, sApp, sExt, sPop, sDrop, sRet, sRetN, sPass, sBrk, sCont, bNil, bCons, evSeq, evIfS, evalAnd, evalOr, evalIfs, applyT, looks, look, valsOf, borOk, putBack, putBor, primD, prBin, binD, prCmp, cmpD, prIdx, prNeg, prTup, prLst, prLen, prInt1, prBool1, prStr1, prAbs1, prMin2, prMax2, prSum1, prAll1, prAny1, prSorted1, prTuple1, prList1, prIsi, prDic0, prUpper, prJoin, prDivmod, prSlcFF, prSlcTF, prSlcFT, prSlcTT, slcD, storing, litD, truD, Rs.d, evAsg, evAsgT, evPar, evSeti, evAug, evApp, evExt, evPop, evDrop, evRet, tVar', tLit', tGlob', tOp', tNot', tAnd', tOr', tIfe', tChain', evalRs, setAll, ownD, putD, putSlot, slotFree, toSl, bindT, bindT.bindTs, startE, outsOf, slotD, Sl.isOwn, isLst, itemsD, itSeq, itRng1, itRng2, fin, isiD, augD, plainSlots, wipeE, backE, ix0, ix1, ix2, range1, range2, range3, applyC, permL]) rfl rfl rfl (sl61 hl) (by
      intro x _
      unfold bne
      cases h1 : x == e0 <;> simp [lcTurn, eVar, eLit, eGlob, eOp, eNot, eAnd, eOr, eIfe, eChain, aNil, aPeek, aVar, aLit, aGlob, aOp, aNot, aAnd, aOr, aIfe, aChain, sIfe, sAsg, sAsgT, sPar, sSeti, sAug, sApp, sExt, sPop, sDrop, sRet, sRetN, sPass, sBrk, sCont, bNil, bCons, evSeq, evIfS, evalAnd, evalOr, evalIfs, applyT, looks, look, valsOf, borOk, putBack, putBor, primD, prBin, binD, prCmp, cmpD, prIdx, prNeg, prTup, prLst, prLen, prInt1, prBool1, prStr1, prAbs1, prMin2, prMax2, prSum1, prAll1, prAny1, prSorted1, prTuple1, prList1, prIsi, prDic0, prUpper, prJoin, prDivmod, prSlcFF, prSlcTF, prSlcFT, prSlcTT, slcD, storing, litD, truD, Rs.d, evAsg, evAsgT, evPar, evSeti, evAug, evApp, evExt, evPop, evDrop, evRet, tVar', tLit', tGlob', tOp', tNot', tAnd', tOr', tIfe', tChain', evalRs, setAll, ownD, putD, putSlot, slotFree, toSl, bindT, bindT.bindTs, startE, outsOf, slotD, Sl.isOwn, isLst, itemsD, itSeq, itRng1, itRng2, fin, isiD, augD, plainSlots, wipeE, backE, ix0, ix1, ix2, range1, range2, range3, applyC, permL, evalIfs, eqS, e0_eq, h1])
  rw [e, fm_some (fun x => x != e0) (fun x => x) D.str]
  rw [fm_filter]
  rfl
theorem bys_ok {X : List Str} {s : Sf} (ok : SOk X s) {hand : Str} {day : Int} : ∀ x ∈ bysL s hand day, PyData.strOk x = true := fun x hx => by
  obtain ⟨y, hy, _, rfl⟩ := mem_bys.mp hx
  rcases ok.ab y hy with h | h
  · exact (ok.nm _ h).2
  · rw [h]; decide +kernel
def stD (s : Sf) (hand : Str) (day : Int) : Rs := if (bysL s hand day).isEmpty then .val .non else .fr (.lst ((stIn s day hand).map .str))
theorem stand_ok (n : Nat) {X : List Str} {s : Sf} (ok : SOk X s) (hand : Str) (day : Int) : R (n + 1) 1 [s.d, .str hand, .int day] = some (stD s hand day, [none, none, none]) := by
  have hl : (bysL s hand day).length ≤ 61 := Nat.le_trans bysL_len ok.a60
  have e := stand_L1 (runF fns 1000 n) ok hand day
  have e2 := stand_L2 (runF fns 1000 n) (s := s) hand day (bysL s hand day) (by omega)
  have e3 := sdS (l := (bysL s hand day).filter (· != e0)) (by have := List.length_filter_le (· != e0) (bysL s hand day); omega)
  have e4 := eq_nil (bys_ok ok (hand := hand) (day := day))
  have z0 : 0 ≤ sizeLine := Nat.zero_le _
  unfold R stD
  rw [run_fn (fd := f1) rfl rfl]
  simp only [primD] at e3
  cases hb : (bysL s hand day).isEmpty
  · rw [hb] at e4
    simp [f1, eVar, eLit, eGlob, eOp, eNot, eAnd, eOr, eIfe, eChain, aNil, aPeek, aVar, aLit, aGlob, aOp, aNot, aAnd, aOr, aIfe, aChain, sIfe, sAsg, sAsgT, sPar, sSeti, sAug, sApp, sExt, sPop, sDrop, sRet, sRetN, sPass, sBrk, sCont, bNil, bCons, evSeq, evIfS, evalAnd, evalOr, evalIfs, applyT, looks, look, valsOf, borOk, putBack, putBor, primD, prBin, binD, prCmp, cmpD, prIdx, prNeg, prTup, prLst, prLen, prInt1, prBool1, prStr1, prAbs1, prMin2, prMax2, prSum1, prAll1, prAny1, prSorted1, prTuple1, prList1, prIsi, prDic0, prUpper, prJoin, prDivmod, prSlcFF, prSlcTF, prSlcFT, prSlcTT, slcD, storing, litD, truD, Rs.d, evAsg, evAsgT, evPar, evSeti, evAug, evApp, evExt, evPop, evDrop, evRet, tVar', tLit', tGlob', tOp', tNot', tAnd', tOr', tIfe', tChain', evalRs, setAll, ownD, putD, putSlot, slotFree, toSl, bindT, bindT.bindTs, startE, outsOf, slotD, Sl.isOwn, isLst, itemsD, itSeq, itRng1, itRng2, fin, isiD, augD, plainSlots, wipeE, backE, ix0, ix1, ix2, range1, range2, range3, applyC, permL, af1L1, af1L2, tf1L1, e, e2, e3, e4, z0, stIn]
  · rw [hb] at e4
    simp [f1, eVar, eLit, eGlob, eOp, eNot, eAnd, eOr, eIfe, eChain, aNil, aPeek, aVar, aLit, aGlob, aOp, aNot, aAnd, aOr, aIfe, aChain, sIfe, sAsg, sAsgT, sPar, sSeti, sAug, sApp, sExt, sPop, sDrop, sRet, sRetN, sPass, sBrk, sCont, bNil, bCons, evSeq, evIfS, evalAnd, evalOr, evalIfs, applyT, looks, look, valsOf, borOk, putBack, putBor, primD, prBin, binD, prCmp, cmpD, prIdx, prNeg, prTup, prLst, prLen, prInt1, prBool1, prStr1, prAbs1, prMin2, prMax2, prSum1, prAll1, prAny1, prSorted1, prTuple1, prList1, prIsi, prDic0, prUpper, prJoin, prDivmod, prSlcFF, prSlcTF, prSlcFT, prSlcTT, slcD, storing, litD, truD, Rs.d, evAsg, evAsgT, evPar, evSeti, evAug, evApp, evExt, evPop, evDrop, evRet, tVar', tLit', tGlob', tOp', tNot', tAnd', tOr', tIfe', tChain', evalRs, setAll, ownD, putD, putSlot, slotFree, toSl, bindT, bindT.bindTs, startE, outsOf, slotD, Sl.isOwn, isLst, itemsD, itSeq, itRng1, itRng2, fin, isiD, augD, plainSlots, wipeE, backE, ix0, ix1, ix2, range1, range2, range3, applyC, permL, af1L1, e, e4, z0]
/-! ### shortest_ways -/
def wD (w : List Str) : D := .tup (w.map .str)
def rowD (r : List (List Str)) : D := .lst (r.map wD)
def fdD (f : Fd) : List (Key × D) := f.map fun p => ((Sum.inr p.1 : Key), wD p.2)
theorem getK_fd (f : Fd) (x : Str) : (getK (fdD f) (Sum.inr x)).isSome = decide (x ∈ keysF f) := by
  unfold getK fdD keysF
  induction f with
  | nil => rfl
  | cons p r ih =>
    rw [List.map_cons, List.find?_cons]
    by_cases h : p.1 = x
    · simp [h]
    · have hk : decide ((Sum.inr p.1 : Key) = Sum.inr x) = false := by simp [h]
      simp only [hk]
      rw [ih]
      simp [Ne.symm h]
theorem put_fd {f : Fd} {x : Str} (w : List Str) (h : x ∉ keysF f) : putKD (fdD f) (Sum.inr x) (wD w) = fdD (f ++ [(x, w)]) := by
  unfold putKD
  have : ((fdD f).any fun kv => decide (kv.1 = (Sum.inr x : Key))) = false := by
    rw [List.any_eq_false]
    intro kv hkv
    obtain ⟨p, hp, rfl⟩ := List.mem_map.mp hkv
    simp only [decide_eq_true_eq]
    intro e
    cases e
    exact h (List.mem_map.mpr ⟨p, hp, rfl⟩)
  rw [this]
  simp [fdD]
theorem last_ix {w : List Str} (h : w ≠ []) : ixD (w.map D.str) (-1) = some (.str (lst w)) := by
  have hl : 0 < w.length := List.length_pos_iff.mpr h
  unfold ixD atI ixN
  rw [if_neg (by omega), List.length_map, if_pos (by omega)]
  rw [show (-1 + (w.length : Int)).toNat = w.length - 1 by omega]
  simp only [Option.bind_some, List.getElem?_map]
  have : w[w.length - 1]? = some (lst w) := by
    unfold lst
    rw [List.getLastD_eq_getLast?, ← List.getLast?_eq_getElem?, List.getLast?_eq_some_getLast h]
    rfl
  rw [this]
  rfl
theorem okDs_row : ∀ {r : List (List Str)}, (∀ w ∈ r, ∀ x ∈ w, PyData.strOk x = true) → okDs (r.map wD) = true ∧ depDs (r.map wD) ≤ 1
  | [], _ => ⟨rfl, Nat.zero_le _⟩
  | w :: r, h => by
    have h1 := okDs_row (r := r) fun v hv => h v (List.mem_cons_of_mem _ hv)
    have h2 := okDs_strs (l := w) (h w List.mem_cons_self)
    simp only [List.map_cons, okDs, wD, okD, depDs, depD, h2, Bool.true_and]
    exact ⟨h1.1, by omega⟩
theorem eq_row {r : List (List Str)} (h : ∀ w ∈ r, ∀ x ∈ w, PyData.strOk x = true) : eqD (rowD r) (.lst []) = some r.isEmpty := by
  have h1 := okDs_row h
  unfold eqD
  have f1 : fitD (rowD r) = true := by
    simp only [fitD, rowD, okD, depD, h1, Bool.true_and, decide_eq_true_eq]
    omega
  have f2 : fitD (.lst []) = true := rfl
  unfold rowD at f1 ⊢
  simp only [scalD, f1, f2]
  cases r <;> rfl
abbrev frS (s : Sf) (role : Str) (day : Int) (f : Fd) (s4 s5 s6 : Sl) : En := [.val s.d, .val (.str role), .val (.int day), .own (.dic (fdD f)), s4, s5, s6, .emp, .emp]
theorem sw_L1 (n : Nat) {X : List Str} {s : Sf} (ok : SOk X s) (role : Str) (day : Int) (f : Fd) : evalE (rfOf fns) (R (n + 1)) f2L1 (frS s role day f .emp .emp .emp) = some (.fr (rowD ((holdS s role day).map fun h => [h])), frS s role day f .emp .emp .emp) := by
  have e1 := holders_ok n ok role day
  have hl : (holdS s role day).length ≤ 61 := Nat.le_trans (len_sd _) (Nat.le_trans holdL_len ok.h60)
  have e := lc_X (rf := rfOf fns) (C := R (n + 1)) (ex := f2L1) rfl (frS s role day f .emp .emp .emp) (frS s role day f .emp .emp .emp) (xs := [.v (.lst ((holdS s role day).map .str))]) (ds := [.lst ((holdS s role day).map .str)]) (holdS s role day) D.str (fun x => some (.tup [.str x]))
    (by unfold R at e1 ⊢; simp [eVar, eLit, eGlob, eOp, eNot, eAnd, eOr, eIfe, eChain, aNil, aPeek, aVar, aLit, aGlob, aOp, aNot, aAnd, aOr, aIfe, aChain, sIfe, sAsg, sAsgT, sPar, sSeti, sAug, sApp, sExt, sPop, sDrop, sRet, sRetN, sPass, sBrk, sCont, bNil, bCons, evSeq, evIfS, evalAnd, evalOr, evalIfs, applyT, looks, look, valsOf, borOk, putBack, putBor, primD, prBin, binD, prCmp, cmpD, prIdx, prNeg, prTup, prLst, prLen, prInt1, prBool1, prStr1, prAbs1, prMin2, prMax2, prSum1, prAll1, prAny1, prSorted1, prTuple1, prList1, prIsi, prDic0, prUpper, prJoin, prDivmod, prSlcFF, prSlcTF, prSlcFT, prSlcTT, slcD, storing, litD, truD, Rs.d, evAsg, evAsgT, evPar, evSeti, evAug, evApp, evExt, evPop, evDrop, evRet, tVar', tLit', tGlob', tOp', tNot', tAnd', tOr', tIfe', tChain', evalRs, setAll, ownD, putD, putSlot, slotFree, toSl, bindT, bindT.bindTs, startE, outsOf, slotD, Sl.isOwn, isLst, itemsD, itSeq, itRng1, itRng2, fin, isiD, augD, plainSlots, wipeE, backE, ix0, ix1, ix2, range1, range2, range3, applyC, permL, rf0, e1, frS]) rfl rfl rfl (sl61 (by omega)) (by
      intro x _
      have h1 : 1 ≤ sizeLine := by decide
      simp [lcTurn, eVar, eLit, eGlob, eOp, eNot, eAnd, eOr, eIfe, eChain, aNil, aPeek, aVar, aLit, aGlob, aOp, aNot, aAnd, aOr, aIfe, aChain, sIfe, sAsg, sAsgT, sPar, sSeti, sAug, sApp, sExt, sPop, sDrop, sRet, sRetN, sPass, sBrk, sCont, bNil, bCons, evSeq, evIfS, evalAnd, evalOr, evalIfs, applyT, looks, look, valsOf, borOk, putBack, putBor, primD, prBin, binD, prCmp, cmpD, prIdx, prNeg, prTup, prLst, prLen, prInt1, prBool1, prStr1, prAbs1, prMin2, prMax2, prSum1, prAll1, prAny1, prSorted1, prTuple1, prList1, prIsi, prDic0, prUpper, prJoin, prDivmod, prSlcFF, prSlcTF, prSlcFT, prSlcTT, slcD, storing, litD, truD, Rs.d, evAsg, evAsgT, evPar, evSeti, evAug, evApp, evExt, evPop, evDrop, evRet, tVar', tLit', tGlob', tOp', tNot', tAnd', tOr', tIfe', tChain', evalRs, setAll, ownD, putD, putSlot, slotFree, toSl, bindT, bindT.bindTs, startE, outsOf, slotD, Sl.isOwn, isLst, itemsD, itSeq, itRng1, itRng2, fin, isiD, augD, plainSlots, wipeE, backE, ix0, ix1, ix2, range1, range2, range3, applyC, permL, evalIfs, frS, h1])
  rw [e]
  unfold rowD wD
  simp [frS, backE, wipeE]
theorem sw_L2 (n : Nat) {X : List Str} {s : Sf} (ok : SOk X s) (role : Str) (day : Int) (f : Fd) (s4 s5 : Sl) {w : List Str} (hw : w ≠ []) (hl : w.length ≤ 100) : evalE (rfOf fns) (R (n + 1)) f2L2 (frS s role day f s4 s5 (.val (wD w))) = some (.fr (rowD ((stIn s day (lst w)).map fun y => w ++ [y])), frS s role day f s4 s5 (.val (wD w))) := by
  have e1 := stand_ok n ok (lst w) day
  have e2 := last_ix hw
  have hs : (stIn s day (lst w)).length ≤ 61 := Nat.le_trans stIn_len ok.a60
  have z0 : 0 ≤ sizeLine := Nat.zero_le _
  have src : evalAs (rfOf fns) (R (n + 1)) [.or [.op (.call 1) [.var 0, .op .idx [.peek 6, .op .neg [.lit (.int 1)]], .var 2], .op .lst []]] (frS s role day f s4 s5 (.val (wD w))) = some ([.v (.lst ((stIn s day (lst w)).map .str))], frS s role day f s4 s5 (.val (wD w))) := by
    unfold R at e1 ⊢
    unfold stD at e1
    unfold wD
    by_cases hb : (bysL s (lst w) day).isEmpty = true
    · have hn : stIn s day (lst w) = [] := by
        unfold stIn
        rw [List.isEmpty_iff.mp hb]
        rfl
      rw [if_pos hb] at e1
      simp [eVar, eLit, eGlob, eOp, eNot, eAnd, eOr, eIfe, eChain, aNil, aPeek, aVar, aLit, aGlob, aOp, aNot, aAnd, aOr, aIfe, aChain, sIfe, sAsg, sAsgT, sPar, sSeti, sAug, sApp, sExt, sPop, sDrop, sRet, sRetN, sPass, sBrk, sCont, bNil, bCons, evSeq, evIfS, evalAnd, evalOr, evalIfs, applyT, looks, look, valsOf, borOk, putBack, putBor, primD, prBin, binD, prCmp, cmpD, prIdx, prNeg, prTup, prLst, prLen, prInt1, prBool1, prStr1, prAbs1, prMin2, prMax2, prSum1, prAll1, prAny1, prSorted1, prTuple1, prList1, prIsi, prDic0, prUpper, prJoin, prDivmod, prSlcFF, prSlcTF, prSlcFT, prSlcTT, slcD, storing, litD, truD, Rs.d, evAsg, evAsgT, evPar, evSeti, evAug, evApp, evExt, evPop, evDrop, evRet, tVar', tLit', tGlob', tOp', tNot', tAnd', tOr', tIfe', tChain', evalRs, setAll, ownD, putD, putSlot, slotFree, toSl, bindT, bindT.bindTs, startE, outsOf, slotD, Sl.isOwn, isLst, itemsD, itSeq, itRng1, itRng2, fin, isiD, augD, plainSlots, wipeE, backE, ix0, ix1, ix2, range1, range2, range3, applyC, permL, rf1, e1, e2, frS, hn, z0]
    · rw [if_neg hb] at e1
      cases hs : stIn s day (lst w) with
      | nil =>
        rw [hs] at e1
        simp [eVar, eLit, eGlob, eOp, eNot, eAnd, eOr, eIfe, eChain, aNil, aPeek, aVar, aLit, aGlob, aOp, aNot, aAnd, aOr, aIfe, aChain, sIfe, sAsg, sAsgT, sPar, sSeti, sAug, sApp, sExt, sPop, sDrop, sRet, sRetN, sPass, sBrk, sCont, bNil, bCons, evSeq, evIfS, evalAnd, evalOr, evalIfs, applyT, looks, look, valsOf, borOk, putBack, putBor, primD, prBin, binD, prCmp, cmpD, prIdx, prNeg, prTup, prLst, prLen, prInt1, prBool1, prStr1, prAbs1, prMin2, prMax2, prSum1, prAll1, prAny1, prSorted1, prTuple1, prList1, prIsi, prDic0, prUpper, prJoin, prDivmod, prSlcFF, prSlcTF, prSlcFT, prSlcTT, slcD, storing, litD, truD, Rs.d, evAsg, evAsgT, evPar, evSeti, evAug, evApp, evExt, evPop, evDrop, evRet, tVar', tLit', tGlob', tOp', tNot', tAnd', tOr', tIfe', tChain', evalRs, setAll, ownD, putD, putSlot, slotFree, toSl, bindT, bindT.bindTs, startE, outsOf, slotD, Sl.isOwn, isLst, itemsD, itSeq, itRng1, itRng2, fin, isiD, augD, plainSlots, wipeE, backE, ix0, ix1, ix2, range1, range2, range3, applyC, permL, rf1, e1, e2, frS, z0]
      | cons x r =>
        rw [hs] at e1
        rw [List.map_cons] at e1
        simp [eVar, eLit, eGlob, eOp, eNot, eAnd, eOr, eIfe, eChain, aNil, aPeek, aVar, aLit, aGlob, aOp, aNot, aAnd, aOr, aIfe, aChain, sIfe, sAsg, sAsgT, sPar, sSeti, sAug, sApp, sExt, sPop, sDrop, sRet, sRetN, sPass, sBrk, sCont, bNil, bCons, evSeq, evIfS, evalAnd, evalOr, evalIfs, applyT, looks, look, valsOf, borOk, putBack, putBor, primD, prBin, binD, prCmp, cmpD, prIdx, prNeg, prTup, prLst, prLen, prInt1, prBool1, prStr1, prAbs1, prMin2, prMax2, prSum1, prAll1, prAny1, prSorted1, prTuple1, prList1, prIsi, prDic0, prUpper, prJoin, prDivmod, prSlcFF, prSlcTF, prSlcFT, prSlcTT, slcD, storing, litD, truD, Rs.d, evAsg, evAsgT, evPar, evSeti, evAug, evApp, evExt, evPop, evDrop, evRet, tVar', tLit', tGlob', tOp', tNot', tAnd', tOr', tIfe', tChain', evalRs, setAll, ownD, putD, putSlot, slotFree, toSl, bindT, bindT.bindTs, startE, outsOf, slotD, Sl.isOwn, isLst, itemsD, itSeq, itRng1, itRng2, fin, isiD, augD, plainSlots, wipeE, backE, ix0, ix1, ix2, range1, range2, range3, applyC, permL, rf1, e1, e2, frS, z0]
  have e := lc_X (rf := rfOf fns) (C := R (n + 1)) (ex := f2L2) rfl (frS s role day f s4 s5 (.val (wD w))) (frS s role day f s4 s5 (.val (wD w))) (xs := [.v (.lst ((stIn s day (lst w)).map .str))]) (ds := [.lst ((stIn s day (lst w)).map .str)]) (stIn s day (lst w)) D.str (fun y => some (wD (w ++ [y])))
    src rfl rfl rfl (sl61 (by omega)) (by
      intro x _
      have h1 : 1 ≤ sizeLine := by decide
      have h2 : w.length + 1 ≤ sizeLine := sl61' (by omega)
      simp [lcTurn, eVar, eLit, eGlob, eOp, eNot, eAnd, eOr, eIfe, eChain, aNil, aPeek, aVar, aLit, aGlob, aOp, aNot, aAnd, aOr, aIfe, aChain, sIfe, sAsg, sAsgT, sPar, sSeti, sAug, sApp, sExt, sPop, sDrop, sRet, sRetN, sPass, sBrk, sCont, bNil, bCons, evSeq, evIfS, evalAnd, evalOr, evalIfs, applyT, looks, look, valsOf, borOk, putBack, putBor, primD, prBin, binD, prCmp, cmpD, prIdx, prNeg, prTup, prLst, prLen, prInt1, prBool1, prStr1, prAbs1, prMin2, prMax2, prSum1, prAll1, prAny1, prSorted1, prTuple1, prList1, prIsi, prDic0, prUpper, prJoin, prDivmod, prSlcFF, prSlcTF, prSlcFT, prSlcTT, slcD, storing, litD, truD, Rs.d, evAsg, evAsgT, evPar, evSeti, evAug, evApp, evExt, evPop, evDrop, evRet, tVar', tLit', tGlob', tOp', tNot', tAnd', tOr', tIfe', tChain', evalRs, setAll, ownD, putD, putSlot, slotFree, toSl, bindT, bindT.bindTs, startE, outsOf, slotD, Sl.isOwn, isLst, itemsD, itSeq, itRng1, itRng2, fin, isiD, augD, plainSlots, wipeE, backE, ix0, ix1, ix2, range1, range2, range3, applyC, permL, evalIfs, frS, h1, h2, wD])
  rw [e]
  unfold rowD
  simp [frS, backE, wipeE]
theorem sw_turn (n : Nat) {X : List Str} {s : Sf} (ok : SOk X s) (role : Str) (day : Int) (f : Fd) (r0 l : List (List Str)) (s6 : Sl) (v6 : Vs s6) {w : List Str} (hw : w ≠ []) (hl : w.length ≤ 100) (hll : l.length ≤ 1000) (hf : f.length ≤ 100) :
    loTurn (rfOf fns) (R (n + 1)) 1000 (.one 6) f2F1B (wD w) (frS s role day f (.val (rowD r0)) (.own (rowD l)) s6) = some (.nx, if lst w ∈ keysF f then frS s role day f (.val (rowD r0)) (.own (rowD l)) (.val (wD w)) else frS s role day (f ++ [(lst w, w)]) (.val (rowD r0)) (.own (rowD (l ++ (stIn s day (lst w)).map fun y => w ++ [y]))) (.val (wD w))) := by
  have e2 := last_ix hw
  have hb : bindT (.one 6) (wD w) (frS s role day f (.val (rowD r0)) (.own (rowD l)) s6) = some (frS s role day f (.val (rowD r0)) (.own (rowD l)) (.val (wD w))) := by
    rcases v6 with rfl | ⟨_, rfl⟩ <;> rfl
  have e3 := getK_fd f (lst w)
  unfold loTurn
  rw [hb]
  show execB (rfOf fns) (R (n + 1)) 1000 f2F1B (frS s role day f (.val (rowD r0)) (.own (rowD l)) (.val (wD w))) = _
  by_cases hk : lst w ∈ keysF f
  · rw [if_pos hk]
    rw [decide_eq_true hk] at e3
    simp [f2F1B, eVar, eLit, eGlob, eOp, eNot, eAnd, eOr, eIfe, eChain, aNil, aPeek, aVar, aLit, aGlob, aOp, aNot, aAnd, aOr, aIfe, aChain, sIfe, sAsg, sAsgT, sPar, sSeti, sAug, sApp, sExt, sPop, sDrop, sRet, sRetN, sPass, sBrk, sCont, bNil, bCons, evSeq, evIfS, evalAnd, evalOr, evalIfs, applyT, looks, look, valsOf, borOk, putBack, putBor, primD, prBin, binD, prCmp, cmpD, prIdx, prNeg, prTup, prLst, prLen, prInt1, prBool1, prStr1, prAbs1, prMin2, prMax2, prSum1, prAll1, prAny1, prSorted1, prTuple1, prList1, prIsi, prDic0, prUpper, prJoin, prDivmod, prSlcFF, prSlcTF, prSlcFT, prSlcTT, slcD, storing, litD, truD, Rs.d, evAsg, evAsgT, evPar, evSeti, evAug, evApp, evExt, evPop, evDrop, evRet, tVar', tLit', tGlob', tOp', tNot', tAnd', tOr', tIfe', tChain', evalRs, setAll, ownD, putD, putSlot, slotFree, toSl, bindT, bindT.bindTs, startE, outsOf, slotD, Sl.isOwn, isLst, itemsD, itSeq, itRng1, itRng2, fin, isiD, augD, plainSlots, wipeE, backE, ix0, ix1, ix2, range1, range2, range3, applyC, permL, frS, wD, e2, e3]
  · rw [if_neg hk]
    rw [decide_eq_false hk] at e3
    have e4 := put_fd w hk
    have e5 := sw_L2 n ok role day (f ++ [(lst w, w)]) (.val (rowD r0)) (.own (rowD l)) hw hl
    have hs : (stIn s day (lst w)).length ≤ 61 := Nat.le_trans stIn_len ok.a60
    have c1 : (execS (rfOf fns) (R (n + 1)) 1000 (.seti 3 (.op .idx [.peek 6, .op .neg [.lit (.int 1)]]) (.var 6)) (frS s role day f (.val (rowD r0)) (.own (rowD l)) (.val (wD w)))) = some (.nx, frS s role day (f ++ [(lst w, w)]) (.val (rowD r0)) (.own (rowD l)) (.val (wD w))) := by
      have h1 : (fdD f).length < sizeLine := by unfold fdD; rw [List.length_map]; exact sl61 (by omega)
      unfold wD at e4 ⊢
      simp [eVar, eLit, eGlob, eOp, eNot, eAnd, eOr, eIfe, eChain, aNil, aPeek, aVar, aLit, aGlob, aOp, aNot, aAnd, aOr, aIfe, aChain, sIfe, sAsg, sAsgT, sPar, sSeti, sAug, sApp, sExt, sPop, sDrop, sRet, sRetN, sPass, sBrk, sCont, bNil, bCons, evSeq, evIfS, evalAnd, evalOr, evalIfs, applyT, looks, look, valsOf, borOk, putBack, putBor, primD, prBin, binD, prCmp, cmpD, prIdx, prNeg, prTup, prLst, prLen, prInt1, prBool1, prStr1, prAbs1, prMin2, prMax2, prSum1, prAll1, prAny1, prSorted1, prTuple1, prList1, prIsi, prDic0, prUpper, prJoin, prDivmod, prSlcFF, prSlcTF, prSlcFT, prSlcTT, slcD, storing, litD, truD, Rs.d, evAsg, evAsgT, evPar, evSeti, evAug, evApp, evExt, evPop, evDrop, evRet, tVar', tLit', tGlob', tOp', tNot', tAnd', tOr', tIfe', tChain', evalRs, setAll, ownD, putD, putSlot, slotFree, toSl, bindT, bindT.bindTs, startE, outsOf, slotD, Sl.isOwn, isLst, itemsD, itSeq, itRng1, itRng2, fin, isiD, augD, plainSlots, wipeE, backE, ix0, ix1, ix2, range1, range2, range3, applyC, permL, frS, e2, e4, h1]
    have c2 : execS (rfOf fns) (R (n + 1)) 1000 (.ext 5 f2L2) (frS s role day (f ++ [(lst w, w)]) (.val (rowD r0)) (.own (rowD l)) (.val (wD w))) = some (.nx, frS s role day (f ++ [(lst w, w)]) (.val (rowD r0)) (.own (rowD (l ++ (stIn s day (lst w)).map fun y => w ++ [y]))) (.val (wD w))) := by
      rw [sExt]
      unfold evExt
      rw [e5]
      have h1 : (l.map wD).length + (((stIn s day (lst w)).map fun y => w ++ [y]).map wD).length ≤ sizeLine := by
        simp only [List.length_map]
        exact sle (by omega)
      simp only [ownD, frS, rowD, Rs.d, List.getElem?_cons_succ, List.getElem?_cons_zero, isLst, List.map_append]
      rw [if_pos ⟨h1, trivial⟩]
      rfl
    have c3 : execB (rfOf fns) (R (n + 1)) 1000 [.seti 3 (.op .idx [.peek 6, .op .neg [.lit (.int 1)]]) (.var 6), .ext 5 f2L2] (frS s role day f (.val (rowD r0)) (.own (rowD l)) (.val (wD w))) = _ := bStep c1 (bStep c2 (bNil _ _ _ _))
    have c4 : evalE (rfOf fns) (R (n + 1)) (.op (.cmp .NotIn) [.op .idx [.peek 6, .op .neg [.lit (.int 1)]], .peek 3]) (frS s role day f (.val (rowD r0)) (.own (rowD l)) (.val (wD w))) = some (.val (.bl true), frS s role day f (.val (rowD r0)) (.own (rowD l)) (.val (wD w))) := by
      unfold wD
      simp [eVar, eLit, eGlob, eOp, eNot, eAnd, eOr, eIfe, eChain, aNil, aPeek, aVar, aLit, aGlob, aOp, aNot, aAnd, aOr, aIfe, aChain, sIfe, sAsg, sAsgT, sPar, sSeti, sAug, sApp, sExt, sPop, sDrop, sRet, sRetN, sPass, sBrk, sCont, bNil, bCons, evSeq, evIfS, evalAnd, evalOr, evalIfs, applyT, looks, look, valsOf, borOk, putBack, putBor, primD, prBin, binD, prCmp, cmpD, prIdx, prNeg, prTup, prLst, prLen, prInt1, prBool1, prStr1, prAbs1, prMin2, prMax2, prSum1, prAll1, prAny1, prSorted1, prTuple1, prList1, prIsi, prDic0, prUpper, prJoin, prDivmod, prSlcFF, prSlcTF, prSlcFT, prSlcTT, slcD, storing, litD, truD, Rs.d, evAsg, evAsgT, evPar, evSeti, evAug, evApp, evExt, evPop, evDrop, evRet, tVar', tLit', tGlob', tOp', tNot', tAnd', tOr', tIfe', tChain', evalRs, setAll, ownD, putD, putSlot, slotFree, toSl, bindT, bindT.bindTs, startE, outsOf, slotD, Sl.isOwn, isLst, itemsD, itSeq, itRng1, itRng2, fin, isiD, augD, plainSlots, wipeE, backE, ix0, ix1, ix2, range1, range2, range3, applyC, permL, frS, e2, e3]
    unfold f2F1B
    refine bStep ?_ (bNil _ _ _ _)
    rw [sIfe]
    unfold evIfS
    rw [c4]
    exact c3
structure Rw (t : Nat) (X : List Str) (r : List (List Str)) : Prop where
  ne : ∀ w ∈ r, w ≠ []
  len : ∀ w ∈ r, w.length ≤ t
  inX : ∀ w ∈ r, ∀ x ∈ w, x ∈ X
/-- one layer -/
theorem sw_layer (n : Nat) {X : List Str} {s : Sf} (ok : SOk X s) (role : Str) (day : Int) (f : Fd) (r : List (List Str)) (s4 s5 s6 : Sl) (v4 : s4 = .own (rowD r) ∨ s4 = .val (rowD r)) (v5 : Vs s5) (v6 : Vs s6) {t : Nat} (ht : t ≤ 50) (hr : Rw t X r) (la : Lay (stIn s day) X (Reach s role day) (holdL s role day) r f []) :
    ∃ s6', execB (rfOf fns) (R (n + 1)) 1000 f2W1B (frS s role day f s4 s5 s6) = some (.nx, frS s role day (lay1 (stIn s day) r (f, [])).1 (.val (rowD (lay1 (stIn s day) r (f, [])).2)) (.val (rowD (lay1 (stIn s day) r (f, [])).2)) s6') ∧ Vs s6' ∧ Rw (t + 1) X (lay1 (stIn s day) r (f, [])).2 := by
  have z0 : 0 ≤ sizeLine := Nat.zero_le _
  have c1 : execS (rfOf fns) (R (n + 1)) 1000 (.asg 5 (.op .lst [])) (frS s role day f s4 s5 s6) = some (.nx, frS s role day f s4 (.own (rowD [])) s6) := by
    rcases v5 with rfl | ⟨_, rfl⟩ <;> simp [eVar, eLit, eGlob, eOp, eNot, eAnd, eOr, eIfe, eChain, aNil, aPeek, aVar, aLit, aGlob, aOp, aNot, aAnd, aOr, aIfe, aChain, sIfe, sAsg, sAsgT, sPar, sSeti, sAug, sApp, sExt, sPop, sDrop, sRet, sRetN, sPass, sBrk, sCont, bNil, bCons, evSeq, evIfS, evalAnd, evalOr, evalIfs, applyT, looks, look, valsOf, borOk, putBack, putBor, primD, prBin, binD, prCmp, cmpD, prIdx, prNeg, prTup, prLst, prLen, prInt1, prBool1, prStr1, prAbs1, prMin2, prMax2, prSum1, prAll1, prAny1, prSorted1, prTuple1, prList1, prIsi, prDic0, prUpper, prJoin, prDivmod, prSlcFF, prSlcTF, prSlcFT, prSlcTT, slcD, storing, litD, truD, Rs.d, evAsg, evAsgT, evPar, evSeti, evAug, evApp, evExt, evPop, evDrop, evRet, tVar', tLit', tGlob', tOp', tNot', tAnd', tOr', tIfe', tChain', evalRs, setAll, ownD, putD, putSlot, slotFree, toSl, bindT, bindT.bindTs, startE, outsOf, slotD, Sl.isOwn, isLst, itemsD, itSeq, itRng1, itRng2, fin, isiD, augD, plainSlots, wipeE, backE, ix0, ix1, ix2, range1, range2, range3, applyC, permL, frS, rowD, z0]
  obtain ⟨en, c2, f', l', q6, rfl, w6, el, rl, _⟩ := for_X (rf := rfOf fns) (C := R (n + 1)) (wf := 1000) (sx := f2F1) rfl (frS s role day f s4 (.own (rowD [])) s6) (frS s role day f (.val (rowD r)) (.own (rowD [])) s6) (xs := [.v (rowD r)]) (ds := [rowD r]) r wD
    (fun r' en => ∃ f' l' q6, en = frS s role day f' (.val (rowD r)) (.own (rowD l')) q6 ∧ Vs q6 ∧ lay1 (stIn s day) r' (f', l') = lay1 (stIn s day) r (f, []) ∧ Rw (t + 1) X l' ∧ Rw t X r' ∧ Lay (stIn s day) X (Reach s role day) (holdL s role day) r' f' l' ∧ l'.length ≤ 61 * f'.length)
    (by rcases v4 with rfl | rfl <;> simp [eVar, eLit, eGlob, eOp, eNot, eAnd, eOr, eIfe, eChain, aNil, aPeek, aVar, aLit, aGlob, aOp, aNot, aAnd, aOr, aIfe, aChain, sIfe, sAsg, sAsgT, sPar, sSeti, sAug, sApp, sExt, sPop, sDrop, sRet, sRetN, sPass, sBrk, sCont, bNil, bCons, evSeq, evIfS, evalAnd, evalOr, evalIfs, applyT, looks, look, valsOf, borOk, putBack, putBor, primD, prBin, binD, prCmp, cmpD, prIdx, prNeg, prTup, prLst, prLen, prInt1, prBool1, prStr1, prAbs1, prMin2, prMax2, prSum1, prAll1, prAny1, prSorted1, prTuple1, prList1, prIsi, prDic0, prUpper, prJoin, prDivmod, prSlcFF, prSlcTF, prSlcFT, prSlcTT, slcD, storing, litD, truD, Rs.d, evAsg, evAsgT, evPar, evSeti, evAug, evApp, evExt, evPop, evDrop, evRet, tVar', tLit', tGlob', tOp', tNot', tAnd', tOr', tIfe', tChain', evalRs, setAll, ownD, putD, putSlot, slotFree, toSl, bindT, bindT.bindTs, startE, outsOf, slotD, Sl.isOwn, isLst, itemsD, itSeq, itRng1, itRng2, fin, isiD, augD, plainSlots, wipeE, backE, ix0, ix1, ix2, range1, range2, range3, applyC, permL, frS]) rfl rfl ⟨f, [], s6, rfl, v6, rfl, ⟨fun w hw => (nomatch hw), fun w hw => (nomatch hw), fun w hw => (nomatch hw)⟩, hr, la, Nat.zero_le _⟩ (by
      rintro w r' en ⟨f', l', q6, rfl, w6, el, rl, rr, la', ll⟩
      have hf : f'.length ≤ 12 := by
        have := nodup_le la'.nd fun x hx => (la'.fx x hx).1
        simp only [keysF, List.length_map] at this
        have := ok.few
        omega
      have et := sw_turn n ok role day f' r l' q6 w6 (rr.ne w List.mem_cons_self) (Nat.le_trans (rr.len w List.mem_cons_self) (by omega)) (by omega) (by omega)
      have rr' : Rw t X r' := ⟨fun v hv => rr.ne v (List.mem_cons_of_mem _ hv), fun v hv => rr.len v (List.mem_cons_of_mem _ hv), fun v hv => rr.inX v (List.mem_cons_of_mem _ hv)⟩
      by_cases hk : lst w ∈ keysF f'
      · rw [if_pos hk] at et
        refine ⟨_, et, f', l', _, rfl, .v _, ?_, rl, rr', la'.skip hk, ll⟩
        rw [← el]
        unfold lay1
        rw [if_pos hk]
        cases r' <;> rfl
      · rw [if_neg hk] at et
        have hs : (stIn s day (lst w)).length ≤ 61 := Nat.le_trans stIn_len ok.a60
        refine ⟨_, et, _, _, _, rfl, .v _, ?_, ?_, rr', la'.go (reach_st ok) hk, ?_⟩
        · rw [← el]
          conv => rhs; unfold lay1
          rw [if_neg hk]
        · have hm : ∀ v, v ∈ l' ++ (stIn s day (lst w)).map (fun y => w ++ [y]) → v ∈ l' ∨ ∃ y ∈ stIn s day (lst w), v = w ++ [y] := fun v hv => by
            rcases List.mem_append.mp hv with h | h
            · exact .inl h
            · obtain ⟨y, hy, rfl⟩ := List.mem_map.mp h
              exact .inr ⟨y, hy, rfl⟩
          refine ⟨fun v hv => ?_, fun v hv => ?_, fun v hv => ?_⟩
          · rcases hm v hv with h | ⟨y, hy, rfl⟩
            · exact rl.ne v h
            · simp
          · rcases hm v hv with h | ⟨y, hy, rfl⟩
            · exact rl.len v h
            · have := rr.len w List.mem_cons_self
              simp; omega
          · rcases hm v hv with h | ⟨y, hy, rfl⟩
            · exact rl.inX v h
            · intro x hx
              rcases List.mem_append.mp hx with h | h
              · exact rr.inX w List.mem_cons_self x h
              · rw [List.mem_singleton.mp h]; exact stIn_in ok hy
        · simp only [List.length_append, List.length_map, List.length_cons, List.length_nil]
          omega)
  have el' : (lay1 (stIn s day) r (f, [])) = (f', l') := by rw [← el]; rfl
  rw [el']
  refine ⟨q6, ?_, w6, rl⟩
  have c3 : execS (rfOf fns) (R (n + 1)) 1000 (.asg 4 (.var 5)) (frS s role day f' (.val (rowD r)) (.own (rowD l')) q6) = some (.nx, frS s role day f' (.val (rowD l')) (.val (rowD l')) q6) := by
    simp [eVar, eLit, eGlob, eOp, eNot, eAnd, eOr, eIfe, eChain, aNil, aPeek, aVar, aLit, aGlob, aOp, aNot, aAnd, aOr, aIfe, aChain, sIfe, sAsg, sAsgT, sPar, sSeti, sAug, sApp, sExt, sPop, sDrop, sRet, sRetN, sPass, sBrk, sCont, bNil, bCons, evSeq, evIfS, evalAnd, evalOr, evalIfs, applyT, looks, look, valsOf, borOk, putBack, putBor, primD, prBin, binD, prCmp, cmpD, prIdx, prNeg, prTup, prLst, prLen, prInt1, prBool1, prStr1, prAbs1, prMin2, prMax2, prSum1, prAll1, prAny1, prSorted1, prTuple1, prList1, prIsi, prDic0, prUpper, prJoin, prDivmod, prSlcFF, prSlcTF, prSlcFT, prSlcTT, slcD, storing, litD, truD, Rs.d, evAsg, evAsgT, evPar, evSeti, evAug, evApp, evExt, evPop, evDrop, evRet, tVar', tLit', tGlob', tOp', tNot', tAnd', tOr', tIfe', tChain', evalRs, setAll, ownD, putD, putSlot, slotFree, toSl, bindT, bindT.bindTs, startE, outsOf, slotD, Sl.isOwn, isLst, itemsD, itSeq, itRng1, itRng2, fin, isiD, augD, plainSlots, wipeE, backE, ix0, ix1, ix2, range1, range2, range3, applyC, permL, frS]
  exact bStep c1 (bStep c2 (bStep c3 (bNil _ _ _ _)))
theorem ways_ok (n : Nat) {X : List Str} {s : Sf} (ok : SOk X s) (role : Str) (day : Int) : R (n + 2) 2 [s.d, .str role, .int day] = some (.fr (.dic (fdD (ways s role day))), [none, none, none]) := by
  have z0 : 0 ≤ sizeLine := Nat.zero_le _
  have hX := ok.few
  have c1 : execS (rfOf fns) (R (n + 1)) 1000 (.asg 3 (.op (.dic 0) [])) [.val s.d, .val (.str role), .val (.int day), .emp, .emp, .emp, .emp, .emp, .emp] = some (.nx, frS s role day [] .emp .emp .emp) := by
    simp [eVar, eLit, eGlob, eOp, eNot, eAnd, eOr, eIfe, eChain, aNil, aPeek, aVar, aLit, aGlob, aOp, aNot, aAnd, aOr, aIfe, aChain, sIfe, sAsg, sAsgT, sPar, sSeti, sAug, sApp, sExt, sPop, sDrop, sRet, sRetN, sPass, sBrk, sCont, bNil, bCons, evSeq, evIfS, evalAnd, evalOr, evalIfs, applyT, looks, look, valsOf, borOk, putBack, putBor, primD, prBin, binD, prCmp, cmpD, prIdx, prNeg, prTup, prLst, prLen, prInt1, prBool1, prStr1, prAbs1, prMin2, prMax2, prSum1, prAll1, prAny1, prSorted1, prTuple1, prList1, prIsi, prDic0, prUpper, prJoin, prDivmod, prSlcFF, prSlcTF, prSlcFT, prSlcTT, slcD, storing, litD, truD, Rs.d, evAsg, evAsgT, evPar, evSeti, evAug, evApp, evExt, evPop, evDrop, evRet, tVar', tLit', tGlob', tOp', tNot', tAnd', tOr', tIfe', tChain', evalRs, setAll, ownD, putD, putSlot, slotFree, toSl, bindT, bindT.bindTs, startE, outsOf, slotD, Sl.isOwn, isLst, itemsD, itSeq, itRng1, itRng2, fin, isiD, augD, plainSlots, wipeE, backE, ix0, ix1, ix2, range1, range2, range3, applyC, permL, frS, fdD]
  have c2 : execS (rfOf fns) (R (n + 1)) 1000 (.asg 4 f2L1) (frS s role day [] .emp .emp .emp) = some (.nx, frS s role day [] (.own (rowD ((holdS s role day).map fun h => [h]))) .emp .emp) := asg_o (sw_L1 n ok role day []) rfl
  obtain ⟨en, c3, s4, s5, s6, rfl⟩ := while_or (c := evalE (rfOf fns) (R (n + 1)) (.op (.cmp .NotEq) [.peek 4, .op .lst []])) (f := execB (rfOf fns) (R (n + 1)) 1000 f2W1B)
    (fun k en => ∃ (f : Fd) (r : List (List Str)) (m : Nat) (s4 s5 s6 : Sl), en = frS s role day f s4 s5 s6 ∧ (s4 = .own (rowD r) ∨ s4 = .val (rowD r)) ∧ Vs s5 ∧ Vs s6 ∧ Lay (stIn s day) X (Reach s role day) (holdL s role day) r f [] ∧ bfs (stIn s day) m r f = ways s role day ∧ (r = [] ∨ X.length + 2 ≤ m + f.length) ∧ k = m + 1 ∧ m ≤ 20 ∧ Rw (21 - m) X r)
    (fun en => ∃ s4 s5 s6, en = frS s role day (ways s role day) s4 s5 s6)
    (by
      rintro k en ⟨f, r, m, s4, s5, s6, rfl, v4, v5, v6, la, eb, hm, rfl, hm20, rr⟩
      have er := eq_row (r := r) fun w hw x hx => (ok.nm x (rr.inX w hw x hx)).2
      cases r with
      | nil =>
        refine .inl ⟨.val (.bl false), frS s role day f s4 s5 s6, ?_, rfl, s4, s5, s6, ?_⟩
        · have er : eqD (rowD []) (.lst []) = some true := er
          rcases v4 with rfl | rfl <;> simp [eVar, eLit, eGlob, eOp, eNot, eAnd, eOr, eIfe, eChain, aNil, aPeek, aVar, aLit, aGlob, aOp, aNot, aAnd, aOr, aIfe, aChain, sIfe, sAsg, sAsgT, sPar, sSeti, sAug, sApp, sExt, sPop, sDrop, sRet, sRetN, sPass, sBrk, sCont, bNil, bCons, evSeq, evIfS, evalAnd, evalOr, evalIfs, applyT, looks, look, valsOf, borOk, putBack, putBor, primD, prBin, binD, prCmp, cmpD, prIdx, prNeg, prTup, prLst, prLen, prInt1, prBool1, prStr1, prAbs1, prMin2, prMax2, prSum1, prAll1, prAny1, prSorted1, prTuple1, prList1, prIsi, prDic0, prUpper, prJoin, prDivmod, prSlcFF, prSlcTF, prSlcFT, prSlcTT, slcD, storing, litD, truD, Rs.d, evAsg, evAsgT, evPar, evSeti, evAug, evApp, evExt, evPop, evDrop, evRet, tVar', tLit', tGlob', tOp', tNot', tAnd', tOr', tIfe', tChain', evalRs, setAll, ownD, putD, putSlot, slotFree, toSl, bindT, bindT.bindTs, startE, outsOf, slotD, Sl.isOwn, isLst, itemsD, itSeq, itRng1, itRng2, fin, isiD, augD, plainSlots, wipeE, backE, ix0, ix1, ix2, range1, range2, range3, applyC, permL, frS, er, z0]
        · rw [← eb]
          cases m <;> rfl
      | cons w r =>
        have hm := hm.resolve_left (by simp)
        have hf : f.length ≤ X.length := by
          have := nodup_le la.nd fun x hx => (la.fx x hx).1
          simpa [keysF] using this
        obtain ⟨m, rfl⟩ : ∃ k, m = k + 1 := ⟨m - 1, by omega⟩
        obtain ⟨q6, et, w6, rl⟩ := sw_layer n ok role day f (w :: r) s4 s5 s6 v4 v5 v6 (t := 21 - (m + 1)) (by omega) rr la
        refine .inr ⟨.val (.bl true), frS s role day f s4 s5 s6, _, m + 1, ?_, rfl, et, by omega, _, _, m, _, _, _, rfl, .inr rfl, .v _, w6, lay_one (reach_st ok) la, ?_, ?_, rfl, by omega, ?_⟩
        · have er : eqD (rowD (w :: r)) (.lst []) = some false := er
          rcases v4 with rfl | rfl <;> simp [eVar, eLit, eGlob, eOp, eNot, eAnd, eOr, eIfe, eChain, aNil, aPeek, aVar, aLit, aGlob, aOp, aNot, aAnd, aOr, aIfe, aChain, sIfe, sAsg, sAsgT, sPar, sSeti, sAug, sApp, sExt, sPop, sDrop, sRet, sRetN, sPass, sBrk, sCont, bNil, bCons, evSeq, evIfS, evalAnd, evalOr, evalIfs, applyT, looks, look, valsOf, borOk, putBack, putBor, primD, prBin, binD, prCmp, cmpD, prIdx, prNeg, prTup, prLst, prLen, prInt1, prBool1, prStr1, prAbs1, prMin2, prMax2, prSum1, prAll1, prAny1, prSorted1, prTuple1, prList1, prIsi, prDic0, prUpper, prJoin, prDivmod, prSlcFF, prSlcTF, prSlcFT, prSlcTT, slcD, storing, litD, truD, Rs.d, evAsg, evAsgT, evPar, evSeti, evAug, evApp, evExt, evPop, evDrop, evRet, tVar', tLit', tGlob', tOp', tNot', tAnd', tOr', tIfe', tChain', evalRs, setAll, ownD, putD, putSlot, slotFree, toSl, bindT, bindT.bindTs, startE, outsOf, slotD, Sl.isOwn, isLst, itemsD, itSeq, itRng1, itRng2, fin, isiD, augD, plainSlots, wipeE, backE, ix0, ix1, ix2, range1, range2, range3, applyC, permL, frS, er, z0]
        · rw [← eb]
          conv => rhs; unfold bfs
        · have h2 := lay1_len (st := stIn s day) (w :: r) f []
          rcases Nat.lt_or_ge f.length (lay1 (stIn s day) (w :: r) (f, [])).1.length with q | q
          · exact .inr (by omega)
          · exact .inl (h2.2 (by omega))
        · rw [show 21 - m = 21 - (m + 1) + 1 by omega]
          exact rl)
    1000 21 (frS s role day [] (.own (rowD ((holdS s role day).map fun h => [h]))) .emp .emp) ⟨[], _, 20, _, _, _, rfl, .inl rfl, .e, .e, lay_start ok, rfl, .inr (by simp; omega), rfl, by omega, ⟨fun w hw => by
      obtain ⟨h, _, rfl⟩ := List.mem_map.mp hw
      simp, fun w hw => by
      obtain ⟨h, _, rfl⟩ := List.mem_map.mp hw
      simp, fun w hw x hx => by
      obtain ⟨h, hh, rfl⟩ := List.mem_map.mp hw
      rw [List.mem_singleton.mp hx]
      exact hold_in ok (mem_sd.mp hh)⟩⟩ (by decide)
  have c3' : execS (rfOf fns) (R (n + 1)) 1000 f2W1 (frS s role day [] (.own (rowD ((holdS s role day).map fun h => [h]))) .emp .emp) = some (.nx, frS s role day (ways s role day) s4 s5 s6) := by
    unfold f2W1
    simp only [execS]
    exact c3
  have c4 : execS (rfOf fns) (R (n + 1)) 1000 (.ret (.var 3)) (frS s role day (ways s role day) s4 s5 s6) = some (.rt (.fr (.dic (fdD (ways s role day)))), [.val s.d, .val (.str role), .val (.int day), .emp, s4, s5, s6, .emp, .emp]) := by
    simp [eVar, eLit, eGlob, eOp, eNot, eAnd, eOr, eIfe, eChain, aNil, aPeek, aVar, aLit, aGlob, aOp, aNot, aAnd, aOr, aIfe, aChain, sIfe, sAsg, sAsgT, sPar, sSeti, sAug, sApp, sExt, sPop, sDrop, sRet, sRetN, sPass, sBrk, sCont, bNil, bCons, evSeq, evIfS, evalAnd, evalOr, evalIfs, applyT, looks, look, valsOf, borOk, putBack, putBor, primD, prBin, binD, prCmp, cmpD, prIdx, prNeg, prTup, prLst, prLen, prInt1, prBool1, prStr1, prAbs1, prMin2, prMax2, prSum1, prAll1, prAny1, prSorted1, prTuple1, prList1, prIsi, prDic0, prUpper, prJoin, prDivmod, prSlcFF, prSlcTF, prSlcFT, prSlcTT, slcD, storing, litD, truD, Rs.d, evAsg, evAsgT, evPar, evSeti, evAug, evApp, evExt, evPop, evDrop, evRet, tVar', tLit', tGlob', tOp', tNot', tAnd', tOr', tIfe', tChain', evalRs, setAll, ownD, putD, putSlot, slotFree, toSl, bindT, bindT.bindTs, startE, outsOf, slotD, Sl.isOwn, isLst, itemsD, itSeq, itRng1, itRng2, fin, isiD, augD, plainSlots, wipeE, backE, ix0, ix1, ix2, range1, range2, range3, applyC, permL, frS]
  have hR : R (n + 2) 2 [s.d, .str role, .int day] = fin f2.rf (execB (rfOf fns) (R (n + 1)) 1000 f2.body (startE f2.rf [s.d, .str role, .int day] f2.ns)) := run_fn (fd := f2) rfl rfl
  rw [hR]
  have e : execB (rfOf fns) (R (n + 1)) 1000 f2.body (startE f2.rf [s.d, .str role, .int day] f2.ns) = _ := bStep c1 (bStep c2 (bStep c3' (bEnd c4)))
  rw [e]
  rfl
end Lk06
/-! staff: who acts, by the program and by the law -/
namespace Lk06
open PySem L2 Ofw Stf
theorem act_L1 (n : Nat) {X : List Str} {s : Sf} (ok : SOk X s) (role : Str) (day : Int) (f : Fd) (hf : f.length ≤ 100) : evalE (rfOf fns) (R (n + 1)) f3L1 [.val s.d, .val (.str role), .val (.int day), .own (.dic (fdD f)), .emp] = some (.fr (.lst (((keysF f).filter fun x => (bysL s x day).isEmpty).map .str)), [.val s.d, .val (.str role), .val (.int day), .val (.dic (fdD f)), .emp]) := by
  have e := lc_X (rf := rfOf fns) (C := R (n + 1)) (ex := f3L1) rfl [.val s.d, .val (.str role), .val (.int day), .own (.dic (fdD f)), .emp] [.val s.d, .val (.str role), .val (.int day), .val (.dic (fdD f)), .emp] (xs := [.v (.dic (fdD f))]) (ds := [.dic (fdD f)]) (keysF f) D.str (fun x => if (bysL s x day).isEmpty then some (.str x) else none)
    (by simp [eVar, eLit, eGlob, eOp, eNot, eAnd, eOr, eIfe, eChain, aNil, aPeek, aVar, aLit, aGlob, aOp, aNot, aAnd, aOr, aIfe, aChain, sIfe, sAsg, sAsgT, sPar, sSeti, sAug, sApp, sExt, sPop, sDrop, sRet, sRetN, sPass, sBrk, sCont, bNil, bCons, evSeq, evIfS, evalAnd, evalOr, evalIfs, applyT, looks, look, valsOf, borOk, putBack, putBor, primD, prBin, binD, prCmp, cmpD, prIdx, prNeg, prTup, prLst, prLen, prInt1, prBool1, prStr1, prAbs1, prMin2, prMax2, prSum1, prAll1, prAny1, prSorted1, prTuple1, prList1, prIsi, prDic0, prUpper, prJoin, prDivmod, prSlcFF, prSlcTF, prSlcFT, prSlcTT, slcD, storing, litD, truD, Rs.d, evAsg, evAsgT, evPar, evSeti, evAug, evApp, evExt, evPop, evDrop, evRet, tVar', tLit', tGlob', tOp', tNot', tAnd', tOr', tIfe', tChain', evalRs, setAll, ownD, putD, putSlot, slotFree, toSl, bindT, bindT.bindTs, startE, outsOf, slotD, Sl.isOwn, isLst, itemsD, itSeq, itRng1, itRng2, fin, isiD, augD, plainSlots, wipeE, backE, ix0, ix1, ix2, range1, range2, range3, applyC, permL]) rfl (by simp [itemsD, itKeys, fdD, keysF, keyD, List.map_map, Function.comp_def]) rfl (by unfold keysF; rw [List.length_map]; exact sl61 (by omega)) (by
      intro x _
      have e1 := stand_ok n ok x day
      unfold stD at e1
      unfold R at e1 ⊢
      cases hb : (bysL s x day).isEmpty
      · rw [hb] at e1
        simp [lcTurn, eVar, eLit, eGlob, eOp, eNot, eAnd, eOr, eIfe, eChain, aNil, aPeek, aVar, aLit, aGlob, aOp, aNot, aAnd, aOr, aIfe, aChain, sIfe, sAsg, sAsgT, sPar, sSeti, sAug, sApp, sExt, sPop, sDrop, sRet, sRetN, sPass, sBrk, sCont, bNil, bCons, evSeq, evIfS, evalAnd, evalOr, evalIfs, applyT, looks, look, valsOf, borOk, putBack, putBor, primD, prBin, binD, prCmp, cmpD, prIdx, prNeg, prTup, prLst, prLen, prInt1, prBool1, prStr1, prAbs1, prMin2, prMax2, prSum1, prAll1, prAny1, prSorted1, prTuple1, prList1, prIsi, prDic0, prUpper, prJoin, prDivmod, prSlcFF, prSlcTF, prSlcFT, prSlcTT, slcD, storing, litD, truD, Rs.d, evAsg, evAsgT, evPar, evSeti, evAug, evApp, evExt, evPop, evDrop, evRet, tVar', tLit', tGlob', tOp', tNot', tAnd', tOr', tIfe', tChain', evalRs, setAll, ownD, putD, putSlot, slotFree, toSl, bindT, bindT.bindTs, startE, outsOf, slotD, Sl.isOwn, isLst, itemsD, itSeq, itRng1, itRng2, fin, isiD, augD, plainSlots, wipeE, backE, ix0, ix1, ix2, range1, range2, range3, applyC, permL, evalIfs, rf1, e1]
      · rw [hb] at e1
        simp [lcTurn, eVar, eLit, eGlob, eOp, eNot, eAnd, eOr, eIfe, eChain, aNil, aPeek, aVar, aLit, aGlob, aOp, aNot, aAnd, aOr, aIfe, aChain, sIfe, sAsg, sAsgT, sPar, sSeti, sAug, sApp, sExt, sPop, sDrop, sRet, sRetN, sPass, sBrk, sCont, bNil, bCons, evSeq, evIfS, evalAnd, evalOr, evalIfs, applyT, looks, look, valsOf, borOk, putBack, putBor, primD, prBin, binD, prCmp, cmpD, prIdx, prNeg, prTup, prLst, prLen, prInt1, prBool1, prStr1, prAbs1, prMin2, prMax2, prSum1, prAll1, prAny1, prSorted1, prTuple1, prList1, prIsi, prDic0, prUpper, prJoin, prDivmod, prSlcFF, prSlcTF, prSlcFT, prSlcTT, slcD, storing, litD, truD, Rs.d, evAsg, evAsgT, evPar, evSeti, evAug, evApp, evExt, evPop, evDrop, evRet, tVar', tLit', tGlob', tOp', tNot', tAnd', tOr', tIfe', tChain', evalRs, setAll, ownD, putD, putSlot, slotFree, toSl, bindT, bindT.bindTs, startE, outsOf, slotD, Sl.isOwn, isLst, itemsD, itSeq, itRng1, itRng2, fin, isiD, augD, plainSlots, wipeE, backE, ix0, ix1, ix2, range1, range2, range3, applyC, permL, evalIfs, rf1, e1])
  rw [e, fm_some (fun x => (bysL s x day).isEmpty) (fun x => x) D.str, fm_filter]
  rfl
theorem ways_len {X : List Str} {s : Sf} (ok : SOk X s) (role : Str) (day : Int) : (ways s role day).length ≤ 12 := by
  have h := ways_lay (role := role) (day := day) ok
  have := nodup_le h.nd fun x hx => (h.fx x hx).1
  have := ok.few
  have h2 : (keysF (ways s role day)).length = (ways s role day).length := by simp [keysF]
  omega
theorem acting_ok (n : Nat) {X : List Str} {s : Sf} (ok : SOk X s) (role : Str) (day : Int) : R (n + 3) 3 [s.d, .str role, .int day] = some (.val (.tup ((actL s role day).map .str)), [none, none, none]) := by
  have hl := ways_len ok role day
  have e1 := ways_ok n ok role day
  have e2 := act_L1 (n + 1) ok role day (ways s role day) (by omega)
  have e3 := soS (l := (keysF (ways s role day)).filter fun x => (bysL s x day).isEmpty) (by
    have := List.length_filter_le (fun x => (bysL s x day).isEmpty) (keysF (ways s role day))
    simp only [keysF, List.length_map] at this ⊢
    omega)
  have hR : R (n + 3) 3 [s.d, .str role, .int day] = fin f3.rf (execB (rfOf fns) (R (n + 2)) 1000 f3.body (startE f3.rf [s.d, .str role, .int day] f3.ns)) := run_fn (fd := f3) rfl rfl
  rw [hR]
  have c1 : execS (rfOf fns) (R (n + 2)) 1000 (.asg 3 (.op (.call 2) [.var 0, .var 1, .var 2])) [.val s.d, .val (.str role), .val (.int day), .emp, .emp] = some (.nx, [.val s.d, .val (.str role), .val (.int day), .own (.dic (fdD (ways s role day))), .emp]) := by
    unfold R at e1 ⊢
    simp [eVar, eLit, eGlob, eOp, eNot, eAnd, eOr, eIfe, eChain, aNil, aPeek, aVar, aLit, aGlob, aOp, aNot, aAnd, aOr, aIfe, aChain, sIfe, sAsg, sAsgT, sPar, sSeti, sAug, sApp, sExt, sPop, sDrop, sRet, sRetN, sPass, sBrk, sCont, bNil, bCons, evSeq, evIfS, evalAnd, evalOr, evalIfs, applyT, looks, look, valsOf, borOk, putBack, putBor, primD, prBin, binD, prCmp, cmpD, prIdx, prNeg, prTup, prLst, prLen, prInt1, prBool1, prStr1, prAbs1, prMin2, prMax2, prSum1, prAll1, prAny1, prSorted1, prTuple1, prList1, prIsi, prDic0, prUpper, prJoin, prDivmod, prSlcFF, prSlcTF, prSlcFT, prSlcTT, slcD, storing, litD, truD, Rs.d, evAsg, evAsgT, evPar, evSeti, evAug, evApp, evExt, evPop, evDrop, evRet, tVar', tLit', tGlob', tOp', tNot', tAnd', tOr', tIfe', tChain', evalRs, setAll, ownD, putD, putSlot, slotFree, toSl, bindT, bindT.bindTs, startE, outsOf, slotD, Sl.isOwn, isLst, itemsD, itSeq, itRng1, itRng2, fin, isiD, augD, plainSlots, wipeE, backE, ix0, ix1, ix2, range1, range2, range3, applyC, permL, rf2, e1]
  have c2 : execS (rfOf fns) (R (n + 2)) 1000 (.ret (.op .tuple1 [.op .sorted1 [f3L1]])) [.val s.d, .val (.str role), .val (.int day), .own (.dic (fdD (ways s role day))), .emp] = some (.rt (.val (.tup ((actL s role day).map .str))), [.val s.d, .val (.str role), .val (.int day), .val (.dic (fdD (ways s role day))), .emp]) := by
    exact ret_v (ev_op1 rfl rfl (ev_op1 rfl rfl e2 e3) rfl)
  have e : execB (rfOf fns) (R (n + 2)) 1000 f3.body (startE f3.rf [s.d, .str role, .int day] f3.ns) = _ := bStep c1 (bEnd c2)
  rw [e]
  rfl
/-! ### the law's own going on -/
theorem lbys_L1 (C : CallT) {X : List Str} {s : Sf} (ok : SOk X s) (hand : Str) (day : Int) : evalE (rfOf fns) C f10L1 [.val s.d, .val (.str hand), .val (.int day), .emp, .emp, .emp, .emp] = some (.fr (.lst ((bysL s hand day).map .str)), [.val s.d, .val (.str hand), .val (.int day), .emp, .emp, .emp, .emp]) := by
  have e := lc_X (rf := rfOf fns) (C := C) (ex := f10L1) rfl [.val s.d, .val (.str hand), .val (.int day), .emp, .emp, .emp, .emp] [.val s.d, .val (.str hand), .val (.int day), .emp, .emp, .emp, .emp] (xs := [.v (.tup (s.as.map Aw.d))]) (ds := [.tup (s.as.map Aw.d)]) s.as Aw.d (fun x => if bysB hand day x then some (.str x.b) else none)
    (by simp [eVar, eLit, eGlob, eOp, eNot, eAnd, eOr, eIfe, eChain, aNil, aPeek, aVar, aLit, aGlob, aOp, aNot, aAnd, aOr, aIfe, aChain, sIfe, sAsg, sAsgT, sPar, sSeti, sAug, sApp, sExt, sPop, sDrop, sRet, sRetN, sPass, sBrk, sCont, bNil, bCons, evSeq, evIfS, evalAnd, evalOr, evalIfs, applyT, looks, look, valsOf, borOk, putBack, putBor, primD, prBin, binD, prCmp, cmpD, prIdx, prNeg, prTup, prLst, prLen, prInt1, prBool1, prStr1, prAbs1, prMin2, prMax2, prSum1, prAll1, prAny1, prSorted1, prTuple1, prList1, prIsi, prDic0, prUpper, prJoin, prDivmod, prSlcFF, prSlcTF, prSlcFT, prSlcTT, slcD, storing, litD, truD, Rs.d, evAsg, evAsgT, evPar, evSeti, evAug, evApp, evExt, evPop, evDrop, evRet, tVar', tLit', tGlob', tOp', tNot', tAnd', tOr', tIfe', tChain', evalRs, setAll, ownD, putD, putSlot, slotFree, toSl, bindT, bindT.bindTs, startE, outsOf, slotD, Sl.isOwn, isLst, itemsD, itSeq, itRng1, itRng2, fin, isiD, augD, plainSlots, wipeE, backE, ix0, ix1, ix2, range1, range2, range3, applyC, permL, Sf.d]) rfl rfl rfl (sl61 (by have := ok.a60; omega)) (by
      intro x _
      unfold bysB Aw.d
      cases h1 : x.h == hand
      · simp [lcTurn, eVar, eLit, eGlob, eOp, eNot, eAnd, eOr, eIfe, eChain, aNil, aPeek, aVar, aLit, aGlob, aOp, aNot, aAnd, aOr, aIfe, aChain, sIfe, sAsg, sAsgT, sPar, sSeti, sAug, sApp, sExt, sPop, sDrop, sRet, sRetN, sPass, sBrk, sCont, bNil, bCons, evSeq, evIfS, evalAnd, evalOr, evalIfs, applyT, looks, look, valsOf, borOk, putBack, putBor, primD, prBin, binD, prCmp, cmpD, prIdx, prNeg, prTup, prLst, prLen, prInt1, prBool1, prStr1, prAbs1, prMin2, prMax2, prSum1, prAll1, prAny1, prSorted1, prTuple1, prList1, prIsi, prDic0, prUpper, prJoin, prDivmod, prSlcFF, prSlcTF, prSlcFT, prSlcTT, slcD, storing, litD, truD, Rs.d, evAsg, evAsgT, evPar, evSeti, evAug, evApp, evExt, evPop, evDrop, evRet, tVar', tLit', tGlob', tOp', tNot', tAnd', tOr', tIfe', tChain', evalRs, setAll, ownD, putD, putSlot, slotFree, toSl, bindT, bindT.bindTs, startE, outsOf, slotD, Sl.isOwn, isLst, itemsD, itSeq, itRng1, itRng2, fin, isiD, augD, plainSlots, wipeE, backE, ix0, ix1, ix2, range1, range2, range3, applyC, permL, evalIfs, eqS, h1]
      · by_cases h2 : x.lo ≤ day
        · by_cases h3 : day < x.hi <;> simp [lcTurn, eVar, eLit, eGlob, eOp, eNot, eAnd, eOr, eIfe, eChain, aNil, aPeek, aVar, aLit, aGlob, aOp, aNot, aAnd, aOr, aIfe, aChain, sIfe, sAsg, sAsgT, sPar, sSeti, sAug, sApp, sExt, sPop, sDrop, sRet, sRetN, sPass, sBrk, sCont, bNil, bCons, evSeq, evIfS, evalAnd, evalOr, evalIfs, applyT, looks, look, valsOf, borOk, putBack, putBor, primD, prBin, binD, prCmp, cmpD, prIdx, prNeg, prTup, prLst, prLen, prInt1, prBool1, prStr1, prAbs1, prMin2, prMax2, prSum1, prAll1, prAny1, prSorted1, prTuple1, prList1, prIsi, prDic0, prUpper, prJoin, prDivmod, prSlcFF, prSlcTF, prSlcFT, prSlcTT, slcD, storing, litD, truD, Rs.d, evAsg, evAsgT, evPar, evSeti, evAug, evApp, evExt, evPop, evDrop, evRet, tVar', tLit', tGlob', tOp', tNot', tAnd', tOr', tIfe', tChain', evalRs, setAll, ownD, putD, putSlot, slotFree, toSl, bindT, bindT.bindTs, startE, outsOf, slotD, Sl.isOwn, isLst, itemsD, itSeq, itRng1, itRng2, fin, isiD, augD, plainSlots, wipeE, backE, ix0, ix1, ix2, range1, range2, range3, applyC, permL, evalIfs, eqS, h1, h2, h3]
        · simp [lcTurn, eVar, eLit, eGlob, eOp, eNot, eAnd, eOr, eIfe, eChain, aNil, aPeek, aVar, aLit, aGlob, aOp, aNot, aAnd, aOr, aIfe, aChain, sIfe, sAsg, sAsgT, sPar, sSeti, sAug, sApp, sExt, sPop, sDrop, sRet, sRetN, sPass, sBrk, sCont, bNil, bCons, evSeq, evIfS, evalAnd, evalOr, evalIfs, applyT, looks, look, valsOf, borOk, putBack, putBor, primD, prBin, binD, prCmp, cmpD, prIdx, prNeg, prTup, prLst, prLen, prInt1, prBool1, prStr1, prAbs1, prMin2, prMax2, prSum1, prAll1, prAny1, prSorted1, prTuple1, prList1, prIsi, prDic0, prUpper, prJoin, prDivmod, prSlcFF, prSlcTF, prSlcFT, prSlcTT, slcD, storing, litD, truD, Rs.d, evAsg, evAsgT, evPar, evSeti, evAug, evApp, evExt, evPop, evDrop, evRet, tVar', tLit', tGlob', tOp', tNot', tAnd', tOr', tIfe', tChain', evalRs, setAll, ownD, putD, putSlot, slotFree, toSl, bindT, bindT.bindTs, startE, outsOf, slotD, Sl.isOwn, isLst, itemsD, itSeq, itRng1, itRng2, fin, isiD, augD, plainSlots, wipeE, backE, ix0, ix1, ix2, range1, range2, range3, applyC, permL, evalIfs, eqS, h1, h2])
  rw [e, fm_some]
  rfl
theorem lbys_ok (n : Nat) {X : List Str} {s : Sf} (ok : SOk X s) (hand : Str) (day : Int) : R (n + 1) 10 [s.d, .str hand, .int day] = some (.fr (.lst ((bysL s hand day).map .str)), [none, none, none]) := by
  have e := lbys_L1 (runF fns 1000 n) ok hand day
  unfold R
  rw [run_fn (fd := f10) rfl rfl]
  simp [f10, eVar, eLit, eGlob, eOp, eNot, eAnd, eOr, eIfe, eChain, aNil, aPeek, aVar, aLit, aGlob, aOp, aNot, aAnd, aOr, aIfe, aChain, sIfe, sAsg, sAsgT, sPar, sSeti, sAug, sApp, sExt, sPop, sDrop, sRet, sRetN, sPass, sBrk, sCont, bNil, bCons, evSeq, evIfS, evalAnd, evalOr, evalIfs, applyT, looks, look, valsOf, borOk, putBack, putBor, primD, prBin, binD, prCmp, cmpD, prIdx, prNeg, prTup, prLst, prLen, prInt1, prBool1, prStr1, prAbs1, prMin2, prMax2, prSum1, prAll1, prAny1, prSorted1, prTuple1, prList1, prIsi, prDic0, prUpper, prJoin, prDivmod, prSlcFF, prSlcTF, prSlcFT, prSlcTT, slcD, storing, litD, truD, Rs.d, evAsg, evAsgT, evPar, evSeti, evAug, evApp, evExt, evPop, evDrop, evRet, tVar', tLit', tGlob', tOp', tNot', tAnd', tOr', tIfe', tChain', evalRs, setAll, ownD, putD, putSlot, slotFree, toSl, bindT, bindT.bindTs, startE, outsOf, slotD, Sl.isOwn, isLst, itemsD, itSeq, itRng1, itRng2, fin, isiD, augD, plainSlots, wipeE, backE, ix0, ix1, ix2, range1, range2, range3, applyC, permL, tf10L1, e]
def addS (ks : List Str) (x : Str) : List Str := if x ∈ ks then ks else ks ++ [x]
def addA (ks l : List Str) : List Str := l.foldl addS ks
def kD (ks : List Str) : List (Key × D) := ks.map fun x => ((Sum.inr x : Key), D.bl true)
theorem put_kD (ks : List Str) (x : Str) : putKD (kD ks) (Sum.inr x) (.bl true) = kD (addS ks x) := by
  unfold putKD addS
  by_cases h : x ∈ ks
  · have : ((kD ks).any fun kv => decide (kv.1 = (Sum.inr x : Key))) = true := by
      rw [List.any_eq_true]
      exact ⟨_, List.mem_map.mpr ⟨x, h, rfl⟩, by simp⟩
    rw [if_pos this, if_pos h]
    unfold kD
    rw [List.map_map]
    congr 1
    funext y
    simp only [Function.comp_apply]
    split <;> rfl
  · have : ((kD ks).any fun kv => decide (kv.1 = (Sum.inr x : Key))) = false := by
      rw [List.any_eq_false]
      intro kv hkv
      obtain ⟨p, hp, rfl⟩ := List.mem_map.mp hkv
      simp only [decide_eq_true_eq]
      intro e
      cases e
      exact h hp
    rw [this, if_neg h]
    simp [kD]
theorem merge_kD : ∀ (l ks : List Str), mergeKD (kD ks) (kD l) = kD (addA ks l)
  | [], ks => rfl
  | x :: l, ks => by
    show mergeKD (putKD (kD ks) (Sum.inr x) (.bl true)) (kD l) = kD (addA (addS ks x) l)
    rw [put_kD, merge_kD l]
theorem mem_addS {ks : List Str} {x y : Str} : y ∈ addS ks x ↔ y ∈ ks ∨ y = x := by
  unfold addS
  split
  · exact ⟨.inl, fun h => h.elim id fun e => e ▸ ‹_›⟩
  · simp
theorem mem_addA : ∀ {l ks : List Str} {y : Str}, y ∈ addA ks l ↔ y ∈ ks ∨ y ∈ l
  | [], ks, y => by simp [addA]
  | x :: l, ks, y => by
    show y ∈ addA (addS ks x) l ↔ _
    rw [mem_addA, mem_addS, List.mem_cons, or_assoc]
theorem nd_addA : ∀ {l ks : List Str}, ks.Nodup → (addA ks l).Nodup
  | [], ks, h => h
  | x :: l, ks, h => by
    show (addA (addS ks x) l).Nodup
    refine nd_addA ?_
    unfold addS
    split
    · exact h
    · rename_i hx
      rw [List.nodup_append]
      exact ⟨h, by simp, fun a ha b hb e => hx (by rw [← List.mem_singleton.mp hb, ← e]; exact ha)⟩
theorem pre_addA : ∀ (l ks : List Str), ∃ t, addA ks l = ks ++ t
  | [], ks => ⟨[], by simp [addA]⟩
  | x :: l, ks => by
    obtain ⟨t, ht⟩ := pre_addA l (addS ks x)
    show ∃ t, addA (addS ks x) l = ks ++ t
    rw [ht]
    unfold addS
    split
    · exact ⟨t, rfl⟩
    · exact ⟨[x] ++ t, by simp⟩
theorem len_addA (l : List Str) : (addA [] l).length ≤ l.length := nodup_le (nd_addA .nil) fun x hx => by simpa using mem_addA.mp hx
abbrev frR (s : Sf) (role : Str) (day : Int) (ks : List Str) (s4 s5 s6 s7 s8 : Sl) : En := [.val s.d, .val (.str role), .val (.int day), .own (.dic (kD ks)), s4, s5, s6, s7, s8, .emp]
theorem rea_F1 (C : CallT) {X : List Str} {s : Sf} (ok : SOk X s) (role : Str) (day : Int) : ∃ ks s5 s6 s7 s8, execS (rfOf fns) C 1000 f11F1 (frR s role day [] .emp .emp .emp .emp .emp) = some (.nx, frR s role day ks .emp s5 s6 s7 s8) ∧ Vs s5 ∧ Vs s6 ∧ Vs s7 ∧ Vs s8 ∧ ks.Nodup ∧ ∀ x, x ∈ ks ↔ x ∈ holdL s role day := by
  obtain ⟨en, e, ks, s5, s6, s7, s8, rfl, v5, v6, v7, v8, nd, h1, h2, _⟩ := for_X (rf := rfOf fns) (C := C) (wf := 1000) (sx := f11F1) rfl (frR s role day [] .emp .emp .emp .emp .emp) (frR s role day [] .emp .emp .emp .emp .emp) (xs := [.v (.tup (s.hs.map Hl.d))]) (ds := [.tup (s.hs.map Hl.d)]) s.hs Hl.d
    (fun r en => ∃ ks s5 s6 s7 s8, en = frR s role day ks .emp s5 s6 s7 s8 ∧ Vs s5 ∧ Vs s6 ∧ Vs s7 ∧ Vs s8 ∧ ks.Nodup ∧ (∀ x ∈ ks, x ∈ holdL s role day) ∧ (∀ x ∈ holdL s role day, x ∈ ks ∨ ∃ y ∈ r, holdB role day y = true ∧ y.h = x) ∧ ∀ y ∈ r, y ∈ s.hs)
    (by simp [eVar, eLit, eGlob, eOp, eNot, eAnd, eOr, eIfe, eChain, aNil, aPeek, aVar, aLit, aGlob, aOp, aNot, aAnd, aOr, aIfe, aChain, sIfe, sAsg, sAsgT, sPar, sSeti, sAug, sApp, sExt, sPop, sDrop, sRet, sRetN, sPass, sBrk, sCont, bNil, bCons, evSeq, evIfS, evalAnd, evalOr, evalIfs, applyT, looks, look, valsOf, borOk, putBack, putBor, primD, prBin, binD, prCmp, cmpD, prIdx, prNeg, prTup, prLst, prLen, prInt1, prBool1, prStr1, prAbs1, prMin2, prMax2, prSum1, prAll1, prAny1, prSorted1, prTuple1, prList1, prIsi, prDic0, prUpper, prJoin, prDivmod, prSlcFF, prSlcTF, prSlcFT, prSlcTT, slcD, storing, litD, truD, Rs.d, evAsg, evAsgT, evPar, evSeti, evAug, evApp, evExt, evPop, evDrop, evRet, tVar', tLit', tGlob', tOp', tNot', tAnd', tOr', tIfe', tChain', evalRs, setAll, ownD, putD, putSlot, slotFree, toSl, bindT, bindT.bindTs, startE, outsOf, slotD, Sl.isOwn, isLst, itemsD, itSeq, itRng1, itRng2, fin, isiD, augD, plainSlots, wipeE, backE, ix0, ix1, ix2, range1, range2, range3, applyC, permL, Sf.d, frR]) rfl rfl ⟨[], _, _, _, _, rfl, .e, .e, .e, .e, .nil, fun x hx => (nomatch hx), fun x hx => .inr (mem_hold.mp hx), fun y hy => hy⟩ (by
      rintro y r en ⟨ks, s5, s6, s7, s8, rfl, v5, v6, v7, v8, nd, h1, h2, h3⟩
      have hb : bindT (.tup [5, 6, 7, 8]) y.d (frR s role day ks .emp s5 s6 s7 s8) = some (frR s role day ks .emp (.val (.str y.h)) (.val (.str y.r)) (.val (.int y.lo)) (.val (.int y.hi))) := by
        rcases v5 with rfl | ⟨_, rfl⟩ <;> rcases v6 with rfl | ⟨_, rfl⟩ <;> rcases v7 with rfl | ⟨_, rfl⟩ <;> rcases v8 with rfl | ⟨_, rfl⟩ <;> rfl
      have hks : ks.length ≤ 100 := by
        have := nodup_le nd h1
        have := holdL_len (s := s) (role := role) (day := day)
        have := ok.h60
        omega
      have hkl : (kD ks).length < sizeLine := by unfold kD; rw [List.length_map]; exact sl61 (by omega)
      have ep := put_kD ks y.h
      have et : loTurn (rfOf fns) C 1000 (.tup [5, 6, 7, 8]) f11F1B y.d (frR s role day ks .emp s5 s6 s7 s8) = some (.nx, frR s role day (if holdB role day y then addS ks y.h else ks) .emp (.val (.str y.h)) (.val (.str y.r)) (.val (.int y.lo)) (.val (.int y.hi))) := by
        unfold loTurn
        rw [hb]
        show execB (rfOf fns) C 1000 f11F1B _ = _
        unfold holdB
        cases g1 : y.r == role
        · simp [f11F1B, eVar, eLit, eGlob, eOp, eNot, eAnd, eOr, eIfe, eChain, aNil, aPeek, aVar, aLit, aGlob, aOp, aNot, aAnd, aOr, aIfe, aChain, sIfe, sAsg, sAsgT, sPar, sSeti, sAug, sApp, sExt, sPop, sDrop, sRet, sRetN, sPass, sBrk, sCont, bNil, bCons, evSeq, evIfS, evalAnd, evalOr, evalIfs, applyT, looks, look, valsOf, borOk, putBack, putBor, primD, prBin, binD, prCmp, cmpD, prIdx, prNeg, prTup, prLst, prLen, prInt1, prBool1, prStr1, prAbs1, prMin2, prMax2, prSum1, prAll1, prAny1, prSorted1, prTuple1, prList1, prIsi, prDic0, prUpper, prJoin, prDivmod, prSlcFF, prSlcTF, prSlcFT, prSlcTT, slcD, storing, litD, truD, Rs.d, evAsg, evAsgT, evPar, evSeti, evAug, evApp, evExt, evPop, evDrop, evRet, tVar', tLit', tGlob', tOp', tNot', tAnd', tOr', tIfe', tChain', evalRs, setAll, ownD, putD, putSlot, slotFree, toSl, bindT, bindT.bindTs, startE, outsOf, slotD, Sl.isOwn, isLst, itemsD, itSeq, itRng1, itRng2, fin, isiD, augD, plainSlots, wipeE, backE, ix0, ix1, ix2, range1, range2, range3, applyC, permL, eqS, g1, frR]
        · by_cases g2 : y.lo ≤ day
          · by_cases g3 : day < y.hi <;> simp [f11F1B, eVar, eLit, eGlob, eOp, eNot, eAnd, eOr, eIfe, eChain, aNil, aPeek, aVar, aLit, aGlob, aOp, aNot, aAnd, aOr, aIfe, aChain, sIfe, sAsg, sAsgT, sPar, sSeti, sAug, sApp, sExt, sPop, sDrop, sRet, sRetN, sPass, sBrk, sCont, bNil, bCons, evSeq, evIfS, evalAnd, evalOr, evalIfs, applyT, looks, look, valsOf, borOk, putBack, putBor, primD, prBin, binD, prCmp, cmpD, prIdx, prNeg, prTup, prLst, prLen, prInt1, prBool1, prStr1, prAbs1, prMin2, prMax2, prSum1, prAll1, prAny1, prSorted1, prTuple1, prList1, prIsi, prDic0, prUpper, prJoin, prDivmod, prSlcFF, prSlcTF, prSlcFT, prSlcTT, slcD, storing, litD, truD, Rs.d, evAsg, evAsgT, evPar, evSeti, evAug, evApp, evExt, evPop, evDrop, evRet, tVar', tLit', tGlob', tOp', tNot', tAnd', tOr', tIfe', tChain', evalRs, setAll, ownD, putD, putSlot, slotFree, toSl, bindT, bindT.bindTs, startE, outsOf, slotD, Sl.isOwn, isLst, itemsD, itSeq, itRng1, itRng2, fin, isiD, augD, plainSlots, wipeE, backE, ix0, ix1, ix2, range1, range2, range3, applyC, permL, eqS, g1, g2, g3, frR, ep, hkl]
          · simp [f11F1B, eVar, eLit, eGlob, eOp, eNot, eAnd, eOr, eIfe, eChain, aNil, aPeek, aVar, aLit, aGlob, aOp, aNot, aAnd, aOr, aIfe, aChain, sIfe, sAsg, sAsgT, sPar, sSeti, sAug, sApp, sExt, sPop, sDrop, sRet, sRetN, sPass, sBrk, sCont, bNil, bCons, evSeq, evIfS, evalAnd, evalOr, evalIfs, applyT, looks, look, valsOf, borOk, putBack, putBor, primD, prBin, binD, prCmp, cmpD, prIdx, prNeg, prTup, prLst, prLen, prInt1, prBool1, prStr1, prAbs1, prMin2, prMax2, prSum1, prAll1, prAny1, prSorted1, prTuple1, prList1, prIsi, prDic0, prUpper, prJoin, prDivmod, prSlcFF, prSlcTF, prSlcFT, prSlcTT, slcD, storing, litD, truD, Rs.d, evAsg, evAsgT, evPar, evSeti, evAug, evApp, evExt, evPop, evDrop, evRet, tVar', tLit', tGlob', tOp', tNot', tAnd', tOr', tIfe', tChain', evalRs, setAll, ownD, putD, putSlot, slotFree, toSl, bindT, bindT.bindTs, startE, outsOf, slotD, Sl.isOwn, isLst, itemsD, itSeq, itRng1, itRng2, fin, isiD, augD, plainSlots, wipeE, backE, ix0, ix1, ix2, range1, range2, range3, applyC, permL, eqS, g1, g2, frR]
      refine ⟨_, et, _, _, _, _, _, rfl, .v _, .v _, .v _, .v _, ?_, fun x hx => ?_, fun x hx => ?_, fun z hz => h3 z (List.mem_cons_of_mem _ hz)⟩
      · split
        · exact nd_addA (l := [y.h]) nd
        · exact nd
      · split at hx
        · rcases mem_addS.mp hx with h | rfl
          · exact h1 x h
          · exact mem_hold.mpr ⟨y, h3 y List.mem_cons_self, ‹_›, rfl⟩
        · exact h1 x hx
      · rcases h2 x hx with h | ⟨z, hz, b, rfl⟩
        · refine .inl ?_
          split
          · exact mem_addS.mpr (.inl h)
          · exact h
        · rcases List.mem_cons.mp hz with rfl | hz
          · refine .inl ?_
            rw [if_pos b]
            exact mem_addS.mpr (.inr rfl)
          · exact .inr ⟨z, hz, b, rfl⟩)
  exact ⟨ks, s5, s6, s7, s8, e, v5, v6, v7, v8, nd, fun x => ⟨h1 x, fun hx => (h2 x hx).resolve_right fun ⟨_, h, _⟩ => nomatch h⟩⟩
def ne0 (l : List Str) : List Str := l.filter (· != e0)
theorem rea_L1 (n : Nat) {X : List Str} {s : Sf} (ok : SOk X s) (role : Str) (day : Int) (ks : List Str) (s4 s6 s7 s8 : Sl) (x : Str) : evalE (rfOf fns) (R (n + 1)) f11L1 (frR s role day ks s4 (.val (.str x)) s6 s7 s8) = some (.fr (.lst ((ne0 (bysL s x day)).map fun y => .tup [.str y, .bl true])), frR s role day ks s4 (.val (.str x)) s6 s7 s8) := by
  have e1 := lbys_ok n ok x day
  have hl : (bysL s x day).length ≤ 61 := Nat.le_trans bysL_len ok.a60
  have h2 : 2 ≤ sizeLine := by decide
  have e := lc_X (rf := rfOf fns) (C := R (n + 1)) (ex := f11L1) rfl (frR s role day ks s4 (.val (.str x)) s6 s7 s8) (frR s role day ks s4 (.val (.str x)) s6 s7 s8) (xs := [.v (.lst ((bysL s x day).map .str))]) (ds := [.lst ((bysL s x day).map .str)]) (bysL s x day) D.str (fun y => if y != e0 then some (.tup [.str y, .bl true]) else none)
    (by unfold R at e1 ⊢; simp [eVar, eLit, eGlob, eOp, eNot, eAnd, eOr, eIfe, eChain, aNil, aPeek, aVar, aLit, aGlob, aOp, aNot, aAnd, aOr, aIfe, aChain, sIfe, sAsg, sAsgT, sPar, sSeti, sAug, sApp, sExt, sPop, sDrop, sRet, sRetN, sPass, sBrk, sCont, bNil, bCons, evSeq, evIfS, evalAnd, evalOr, evalIfs, applyT, looks, look, valsOf, borOk, putBack, putBor, primD, prBin, binD, prCmp, cmpD, prIdx, prNeg, prTup, prLst, prLen, prInt1, prBool1, prStr1, prAbs1, prMin2, prMax2, prSum1, prAll1, prAny1, prSorted1, prTuple1, prList1, prIsi, prDic0, prUpper, prJoin, prDivmod, prSlcFF, prSlcTF, prSlcFT, prSlcTT, slcD, storing, litD, truD, Rs.d, evAsg, evAsgT, evPar, evSeti, evAug, evApp, evExt, evPop, evDrop, evRet, tVar', tLit', tGlob', tOp', tNot', tAnd', tOr', tIfe', tChain', evalRs, setAll, ownD, putD, putSlot, slotFree, toSl, bindT, bindT.bindTs, startE, outsOf, slotD, Sl.isOwn, isLst, itemsD, itSeq, itRng1, itRng2, fin, isiD, augD, plainSlots, wipeE, backE, ix0, ix1, ix2, range1, range2, range3, applyC, permL, rf10, e1, frR]) rfl rfl rfl (sl61 (by omega)) (by
      intro y _
      unfold bne
      cases h1 : y == e0 <;> simp [lcTurn, eVar, eLit, eGlob, eOp, eNot, eAnd, eOr, eIfe, eChain, aNil, aPeek, aVar, aLit, aGlob, aOp, aNot, aAnd, aOr, aIfe, aChain, sIfe, sAsg, sAsgT, sPar, sSeti, sAug, sApp, sExt, sPop, sDrop, sRet, sRetN, sPass, sBrk, sCont, bNil, bCons, evSeq, evIfS, evalAnd, evalOr, evalIfs, applyT, looks, look, valsOf, borOk, putBack, putBor, primD, prBin, binD, prCmp, cmpD, prIdx, prNeg, prTup, prLst, prLen, prInt1, prBool1, prStr1, prAbs1, prMin2, prMax2, prSum1, prAll1, prAny1, prSorted1, prTuple1, prList1, prIsi, prDic0, prUpper, prJoin, prDivmod, prSlcFF, prSlcTF, prSlcFT, prSlcTT, slcD, storing, litD, truD, Rs.d, evAsg, evAsgT, evPar, evSeti, evAug, evApp, evExt, evPop, evDrop, evRet, tVar', tLit', tGlob', tOp', tNot', tAnd', tOr', tIfe', tChain', evalRs, setAll, ownD, putD, putSlot, slotFree, toSl, bindT, bindT.bindTs, startE, outsOf, slotD, Sl.isOwn, isLst, itemsD, itSeq, itRng1, itRng2, fin, isiD, augD, plainSlots, wipeE, backE, ix0, ix1, ix2, range1, range2, range3, applyC, permL, evalIfs, eqS, e0_eq, h1, frR, h2])
  rw [e, fm_some (fun y => y != e0) (fun y => y) (fun y => D.tup [.str y, .bl true]), fm_filter]
  rfl
theorem pairs_kD : ∀ l : List Str, pairsD (l.map fun y => .tup [.str y, .bl true]) = some (kD l)
  | [] => rfl
  | x :: l => by
    rw [List.map_cons]
    unfold pairsD
    rw [pairs_kD l]
    rfl
theorem rea_turn (n : Nat) {X : List Str} {s : Sf} (ok : SOk X s) (role : Str) (day : Int) (ks : List Str) (hks : ks.length ≤ 100) (s4 s5 s6 s7 s8 : Sl) (v5 : Vs s5) (x : Str) :
    loTurn (rfOf fns) (R (n + 1)) 1000 (.one 5) f11F2B (.str x) (frR s role day ks s4 s5 s6 s7 s8) = some (.nx, frR s role day (addA ks (addA [] (ne0 (bysL s x day)))) s4 (.val (.str x)) s6 s7 s8) := by
  have hb : bindT (.one 5) (.str x) (frR s role day ks s4 s5 s6 s7 s8) = some (frR s role day ks s4 (.val (.str x)) s6 s7 s8) := by
    rcases v5 with rfl | ⟨_, rfl⟩ <;> rfl
  have e1 := rea_L1 n ok role day ks s4 s6 s7 s8 x
  have e2 := pairs_kD (ne0 (bysL s x day))
  have e3 := merge_kD (ne0 (bysL s x day)) []
  have hl : (addA [] (ne0 (bysL s x day))).length ≤ 61 := Nat.le_trans (len_addA _) (Nat.le_trans (List.length_filter_le _ _) (Nat.le_trans bysL_len ok.a60))
  have hl2 : (kD ks).length + (kD (addA [] (ne0 (bysL s x day)))).length ≤ sizeLine := by
    unfold kD
    rw [List.length_map, List.length_map]
    exact sle (by omega)
  have e4 : evalE (rfOf fns) (R (n + 1)) (.op .dict1 [f11L1]) (frR s role day ks s4 (.val (.str x)) s6 s7 s8) = some (.fr (.dic (kD (addA [] (ne0 (bysL s x day))))), frR s role day ks s4 (.val (.str x)) s6 s7 s8) := by
    have e3 : mergeKD [] (kD (ne0 (bysL s x day))) = kD (addA [] (ne0 (bysL s x day))) := e3
    simp [eVar, eLit, eGlob, eOp, eNot, eAnd, eOr, eIfe, eChain, aNil, aPeek, aVar, aLit, aGlob, aOp, aNot, aAnd, aOr, aIfe, aChain, sIfe, sAsg, sAsgT, sPar, sSeti, sAug, sApp, sExt, sPop, sDrop, sRet, sRetN, sPass, sBrk, sCont, bNil, bCons, evSeq, evIfS, evalAnd, evalOr, evalIfs, applyT, looks, look, valsOf, borOk, putBack, putBor, primD, prBin, binD, prCmp, cmpD, prIdx, prNeg, prTup, prLst, prLen, prInt1, prBool1, prStr1, prAbs1, prMin2, prMax2, prSum1, prAll1, prAny1, prSorted1, prTuple1, prList1, prIsi, prDic0, prUpper, prJoin, prDivmod, prSlcFF, prSlcTF, prSlcFT, prSlcTT, slcD, storing, litD, truD, Rs.d, evAsg, evAsgT, evPar, evSeti, evAug, evApp, evExt, evPop, evDrop, evRet, tVar', tLit', tGlob', tOp', tNot', tAnd', tOr', tIfe', tChain', evalRs, setAll, ownD, putD, putSlot, slotFree, toSl, bindT, bindT.bindTs, startE, outsOf, slotD, Sl.isOwn, isLst, itemsD, itSeq, itRng1, itRng2, fin, isiD, augD, plainSlots, wipeE, backE, ix0, ix1, ix2, range1, range2, range3, applyC, permL, af11L1, e1, prDict1, e2, e3]
  unfold loTurn
  rw [hb]
  show execB (rfOf fns) (R (n + 1)) 1000 f11F2B _ = _
  unfold f11F2B
  refine bStep ?_ (bNil _ _ _ _)
  show execS (rfOf fns) (R (n + 1)) 1000 (.upd 3 (.op .dict1 [f11L1])) _ = _
  simp only [execS]
  unfold evUpd
  rw [e4]
  simp only [ownD, frR, Rs.d, List.getElem?_cons_succ, List.getElem?_cons_zero, isDic]
  rw [if_pos ⟨hl2, trivial⟩, merge_kD]
  rfl
theorem reached_ok (n : Nat) {X : List Str} {s : Sf} (ok : SOk X s) (role : Str) (day : Int) : ∃ ks, R (n + 2) 11 [s.d, .str role, .int day] = some (.fr (.dic (kD ks)), [none, none, none]) ∧ ks.Nodup ∧ ∀ x, x ∈ ks ↔ Reach s role day x := by
  have c1 : execS (rfOf fns) (R (n + 1)) 1000 (.asg 3 (.op (.dic 0) [])) [.val s.d, .val (.str role), .val (.int day), .emp, .emp, .emp, .emp, .emp, .emp, .emp] = some (.nx, frR s role day [] .emp .emp .emp .emp .emp) := by
    simp [eVar, eLit, eGlob, eOp, eNot, eAnd, eOr, eIfe, eChain, aNil, aPeek, aVar, aLit, aGlob, aOp, aNot, aAnd, aOr, aIfe, aChain, sIfe, sAsg, sAsgT, sPar, sSeti, sAug, sApp, sExt, sPop, sDrop, sRet, sRetN, sPass, sBrk, sCont, bNil, bCons, evSeq, evIfS, evalAnd, evalOr, evalIfs, applyT, looks, look, valsOf, borOk, putBack, putBor, primD, prBin, binD, prCmp, cmpD, prIdx, prNeg, prTup, prLst, prLen, prInt1, prBool1, prStr1, prAbs1, prMin2, prMax2, prSum1, prAll1, prAny1, prSorted1, prTuple1, prList1, prIsi, prDic0, prUpper, prJoin, prDivmod, prSlcFF, prSlcTF, prSlcFT, prSlcTT, slcD, storing, litD, truD, Rs.d, evAsg, evAsgT, evPar, evSeti, evAug, evApp, evExt, evPop, evDrop, evRet, tVar', tLit', tGlob', tOp', tNot', tAnd', tOr', tIfe', tChain', evalRs, setAll, ownD, putD, putSlot, slotFree, toSl, bindT, bindT.bindTs, startE, outsOf, slotD, Sl.isOwn, isLst, itemsD, itSeq, itRng1, itRng2, fin, isiD, augD, plainSlots, wipeE, backE, ix0, ix1, ix2, range1, range2, range3, applyC, permL, frR, kD]
  obtain ⟨k0, s5, s6, s7, s8, c2, v5, v6, v7, v8, nd0, hk0⟩ := rea_F1 (R (n + 1)) ok role day
  have c3 : execS (rfOf fns) (R (n + 1)) 1000 (.asg 4 (.op .neg [.lit (.int 1)])) (frR s role day k0 .emp s5 s6 s7 s8) = some (.nx, frR s role day k0 (.val (.int (-1))) s5 s6 s7 s8) := by
    simp [eVar, eLit, eGlob, eOp, eNot, eAnd, eOr, eIfe, eChain, aNil, aPeek, aVar, aLit, aGlob, aOp, aNot, aAnd, aOr, aIfe, aChain, sIfe, sAsg, sAsgT, sPar, sSeti, sAug, sApp, sExt, sPop, sDrop, sRet, sRetN, sPass, sBrk, sCont, bNil, bCons, evSeq, evIfS, evalAnd, evalOr, evalIfs, applyT, looks, look, valsOf, borOk, putBack, putBor, primD, prBin, binD, prCmp, cmpD, prIdx, prNeg, prTup, prLst, prLen, prInt1, prBool1, prStr1, prAbs1, prMin2, prMax2, prSum1, prAll1, prAny1, prSorted1, prTuple1, prList1, prIsi, prDic0, prUpper, prJoin, prDivmod, prSlcFF, prSlcTF, prSlcFT, prSlcTT, slcD, storing, litD, truD, Rs.d, evAsg, evAsgT, evPar, evSeti, evAug, evApp, evExt, evPop, evDrop, evRet, tVar', tLit', tGlob', tOp', tNot', tAnd', tOr', tIfe', tChain', evalRs, setAll, ownD, putD, putSlot, slotFree, toSl, bindT, bindT.bindTs, startE, outsOf, slotD, Sl.isOwn, isLst, itemsD, itSeq, itRng1, itRng2, fin, isiD, augD, plainSlots, wipeE, backE, ix0, ix1, ix2, range1, range2, range3, applyC, permL, frR]
  have lenK : ∀ ks : List Str, (kD ks).length = ks.length := fun ks => by simp [kD]
  obtain ⟨en, c4, ks, s4, q5, rfl, nd, hk⟩ := while_or (c := evalE (rfOf fns) (R (n + 1)) (.op (.cmp .Lt) [.peek 4, .op .len [.peek 3]])) (f := execB (rfOf fns) (R (n + 1)) 1000 f11W1B)
    (fun k en => ∃ (ks : List Str) (m : Int) (q5 : Sl), en = frR s role day ks (.val (.int m)) q5 s6 s7 s8 ∧ Vs q5 ∧ ks.Nodup ∧ (∀ x ∈ ks, Reach s role day x) ∧ (∀ x ∈ holdL s role day, x ∈ ks) ∧ ((m = -1 ∧ k = 20) ∨ (0 ≤ m ∧ m ≤ ks.length ∧ (m = ks.length → ∀ x ∈ ks, ∀ y ∈ stIn s day x, y ∈ ks) ∧ m ≤ 12 ∧ (k : Int) = 15 - m)))
    (fun en => ∃ (ks : List Str) (s4 q5 : Sl), en = frR s role day ks s4 q5 s6 s7 s8 ∧ ks.Nodup ∧ ∀ x, x ∈ ks ↔ Reach s role day x)
    (by
      rintro k en ⟨ks, m, q5, rfl, w5, nd, h1, h2, h3⟩
      have hks : ks.length ≤ 12 := by
        have := nodup_le nd fun x hx => (h1 x hx).mem ok
        have := ok.few
        omega
      by_cases hm : m < ks.length
      · refine .inr ?_
        have a1 : execS (rfOf fns) (R (n + 1)) 1000 (.asg 4 (.op .len [.peek 3])) (frR s role day ks (.val (.int m)) q5 s6 s7 s8) = some (.nx, frR s role day ks (.val (.int ks.length)) q5 s6 s7 s8) := by
          simp [eVar, eLit, eGlob, eOp, eNot, eAnd, eOr, eIfe, eChain, aNil, aPeek, aVar, aLit, aGlob, aOp, aNot, aAnd, aOr, aIfe, aChain, sIfe, sAsg, sAsgT, sPar, sSeti, sAug, sApp, sExt, sPop, sDrop, sRet, sRetN, sPass, sBrk, sCont, bNil, bCons, evSeq, evIfS, evalAnd, evalOr, evalIfs, applyT, looks, look, valsOf, borOk, putBack, putBor, primD, prBin, binD, prCmp, cmpD, prIdx, prNeg, prTup, prLst, prLen, prInt1, prBool1, prStr1, prAbs1, prMin2, prMax2, prSum1, prAll1, prAny1, prSorted1, prTuple1, prList1, prIsi, prDic0, prUpper, prJoin, prDivmod, prSlcFF, prSlcTF, prSlcFT, prSlcTT, slcD, storing, litD, truD, Rs.d, evAsg, evAsgT, evPar, evSeti, evAug, evApp, evExt, evPop, evDrop, evRet, tVar', tLit', tGlob', tOp', tNot', tAnd', tOr', tIfe', tChain', evalRs, setAll, ownD, putD, putSlot, slotFree, toSl, bindT, bindT.bindTs, startE, outsOf, slotD, Sl.isOwn, isLst, itemsD, itSeq, itRng1, itRng2, fin, isiD, augD, plainSlots, wipeE, backE, ix0, ix1, ix2, range1, range2, range3, applyC, permL, frR, lenK]
        obtain ⟨en, a2, k', p5, rfl, x5, nd', g1, g2, g3, g4⟩ := for_X (rf := rfOf fns) (C := R (n + 1)) (wf := 1000) (sx := f11F2) rfl (frR s role day ks (.val (.int ks.length)) q5 s6 s7 s8) (frR s role day ks (.val (.int ks.length)) q5 s6 s7 s8) (xs := [.v (.lst (ks.map .str))]) (ds := [.lst (ks.map .str)]) ks D.str
          (fun r en => ∃ k' p5, en = frR s role day k' (.val (.int ks.length)) p5 s6 s7 s8 ∧ Vs p5 ∧ k'.Nodup ∧ (∀ x ∈ k', Reach s role day x) ∧ (∃ t, k' = ks ++ t) ∧ (∀ x ∈ ks, x ∈ r ∨ ∀ y ∈ stIn s day x, y ∈ k') ∧ ∀ x ∈ r, x ∈ ks)
          (by simp [eVar, eLit, eGlob, eOp, eNot, eAnd, eOr, eIfe, eChain, aNil, aPeek, aVar, aLit, aGlob, aOp, aNot, aAnd, aOr, aIfe, aChain, sIfe, sAsg, sAsgT, sPar, sSeti, sAug, sApp, sExt, sPop, sDrop, sRet, sRetN, sPass, sBrk, sCont, bNil, bCons, evSeq, evIfS, evalAnd, evalOr, evalIfs, applyT, looks, look, valsOf, borOk, putBack, putBor, primD, prBin, binD, prCmp, cmpD, prIdx, prNeg, prTup, prLst, prLen, prInt1, prBool1, prStr1, prAbs1, prMin2, prMax2, prSum1, prAll1, prAny1, prSorted1, prTuple1, prList1, prIsi, prDic0, prUpper, prJoin, prDivmod, prSlcFF, prSlcTF, prSlcFT, prSlcTT, slcD, storing, litD, truD, Rs.d, evAsg, evAsgT, evPar, evSeti, evAug, evApp, evExt, evPop, evDrop, evRet, tVar', tLit', tGlob', tOp', tNot', tAnd', tOr', tIfe', tChain', evalRs, setAll, ownD, putD, putSlot, slotFree, toSl, bindT, bindT.bindTs, startE, outsOf, slotD, Sl.isOwn, isLst, itemsD, itSeq, itRng1, itRng2, fin, isiD, augD, plainSlots, wipeE, backE, ix0, ix1, ix2, range1, range2, range3, applyC, permL, frR, kD, keyD, List.map_map, Function.comp_def]) rfl rfl ⟨ks, q5, rfl, w5, nd, h1, ⟨[], by simp⟩, fun x hx => .inl hx, fun x hx => hx⟩ (by
            rintro x r en ⟨k', p5, rfl, x5, nd', g1, ⟨t, rfl⟩, g3, g4⟩
            have hk' : (ks ++ t).length ≤ 12 := by
              have := nodup_le nd' fun x hx => (g1 x hx).mem ok
              have := ok.few
              omega
            have hr : Reach s role day x := h1 x (g4 x List.mem_cons_self)
            have hst : ∀ y, y ∈ ne0 (bysL s x day) ↔ y ∈ stIn s day x := fun y => by
              unfold ne0
              rw [mem_stIn, List.mem_filter]
              simp
            obtain ⟨t', ht'⟩ := pre_addA (addA [] (ne0 (bysL s x day))) (ks ++ t)
            refine ⟨_, rea_turn n ok role day (ks ++ t) (by omega) _ p5 s6 s7 s8 x5 x, _, _, rfl, .v _, nd_addA nd', fun y hy => ?_, ⟨t ++ t', by rw [ht', List.append_assoc]⟩, fun z hz => ?_, fun z hz => g4 z (List.mem_cons_of_mem _ hz)⟩
            · rcases mem_addA.mp hy with h | h
              · exact g1 y h
              · rcases mem_addA.mp h with h | h
                · cases h
                · exact .step hr ((hst y).mp h)
            · rcases g3 z hz with h | h
              · rcases List.mem_cons.mp h with rfl | h
                · exact .inr fun y hy => mem_addA.mpr (.inr (mem_addA.mpr (.inr ((hst y).mpr hy))))
                · exact .inl h
              · exact .inr fun y hy => mem_addA.mpr (.inl (h y hy)))
        obtain ⟨t, rfl⟩ := g2
        have hk' : (ks ++ t).length ≤ 12 := by
          have := nodup_le nd' fun x hx => (g1 x hx).mem ok
          have := ok.few
          omega
        refine ⟨.val (.bl true), frR s role day ks (.val (.int m)) q5 s6 s7 s8, _, 15 - ks.length, ?_, rfl, bStep a1 (bStep a2 (bNil _ _ _ _)), by omega, _, _, _, rfl, x5, nd', g1, fun x hx => List.mem_append_left _ (h2 x hx), .inr ⟨by omega, by simp; omega, fun hm => ?_, by omega, by omega⟩⟩
        · simp [eVar, eLit, eGlob, eOp, eNot, eAnd, eOr, eIfe, eChain, aNil, aPeek, aVar, aLit, aGlob, aOp, aNot, aAnd, aOr, aIfe, aChain, sIfe, sAsg, sAsgT, sPar, sSeti, sAug, sApp, sExt, sPop, sDrop, sRet, sRetN, sPass, sBrk, sCont, bNil, bCons, evSeq, evIfS, evalAnd, evalOr, evalIfs, applyT, looks, look, valsOf, borOk, putBack, putBor, primD, prBin, binD, prCmp, cmpD, prIdx, prNeg, prTup, prLst, prLen, prInt1, prBool1, prStr1, prAbs1, prMin2, prMax2, prSum1, prAll1, prAny1, prSorted1, prTuple1, prList1, prIsi, prDic0, prUpper, prJoin, prDivmod, prSlcFF, prSlcTF, prSlcFT, prSlcTT, slcD, storing, litD, truD, Rs.d, evAsg, evAsgT, evPar, evSeti, evAug, evApp, evExt, evPop, evDrop, evRet, tVar', tLit', tGlob', tOp', tNot', tAnd', tOr', tIfe', tChain', evalRs, setAll, ownD, putD, putSlot, slotFree, toSl, bindT, bindT.bindTs, startE, outsOf, slotD, Sl.isOwn, isLst, itemsD, itSeq, itRng1, itRng2, fin, isiD, augD, plainSlots, wipeE, backE, ix0, ix1, ix2, range1, range2, range3, applyC, permL, frR, lenK, hm]
        · have ht : t = [] := by
            rw [List.length_append] at hm
            exact List.length_eq_zero_iff.mp (by omega)
          subst ht
          rw [List.append_nil] at g3 ⊢
          intro x hx y hy
          exact (g3 x hx).resolve_left (fun h => nomatch h) y hy
      · refine .inl ⟨.val (.bl false), frR s role day ks (.val (.int m)) q5 s6 s7 s8, by simp [eVar, eLit, eGlob, eOp, eNot, eAnd, eOr, eIfe, eChain, aNil, aPeek, aVar, aLit, aGlob, aOp, aNot, aAnd, aOr, aIfe, aChain, sIfe, sAsg, sAsgT, sPar, sSeti, sAug, sApp, sExt, sPop, sDrop, sRet, sRetN, sPass, sBrk, sCont, bNil, bCons, evSeq, evIfS, evalAnd, evalOr, evalIfs, applyT, looks, look, valsOf, borOk, putBack, putBor, primD, prBin, binD, prCmp, cmpD, prIdx, prNeg, prTup, prLst, prLen, prInt1, prBool1, prStr1, prAbs1, prMin2, prMax2, prSum1, prAll1, prAny1, prSorted1, prTuple1, prList1, prIsi, prDic0, prUpper, prJoin, prDivmod, prSlcFF, prSlcTF, prSlcFT, prSlcTT, slcD, storing, litD, truD, Rs.d, evAsg, evAsgT, evPar, evSeti, evAug, evApp, evExt, evPop, evDrop, evRet, tVar', tLit', tGlob', tOp', tNot', tAnd', tOr', tIfe', tChain', evalRs, setAll, ownD, putD, putSlot, slotFree, toSl, bindT, bindT.bindTs, startE, outsOf, slotD, Sl.isOwn, isLst, itemsD, itSeq, itRng1, itRng2, fin, isiD, augD, plainSlots, wipeE, backE, ix0, ix1, ix2, range1, range2, range3, applyC, permL, frR, lenK, hm], rfl, ks, _, q5, rfl, nd, fun x => ⟨h1 x, fun hx => ?_⟩⟩
        rcases h3 with ⟨rfl, _⟩ | ⟨m0, m1, hc, _, _⟩
        · omega
        · have hc := hc (by omega)
          induction hx with
          | hold hx => exact h2 _ hx
          | step _ hy ih => exact hc _ ih _ hy)
    1000 20 (frR s role day k0 (.val (.int (-1))) s5 s6 s7 s8) ⟨k0, -1, s5, rfl, v5, nd0, fun x hx => .hold ((hk0 x).mp hx), fun x hx => (hk0 x).mpr hx, .inl ⟨rfl, rfl⟩⟩ (by decide)
  have c4' : execS (rfOf fns) (R (n + 1)) 1000 f11W1 (frR s role day k0 (.val (.int (-1))) s5 s6 s7 s8) = some (.nx, frR s role day ks s4 q5 s6 s7 s8) := by
    unfold f11W1
    simp only [execS]
    exact c4
  have c5 : execS (rfOf fns) (R (n + 1)) 1000 (.ret (.var 3)) (frR s role day ks s4 q5 s6 s7 s8) = some (.rt (.fr (.dic (kD ks))), [.val s.d, .val (.str role), .val (.int day), .emp, s4, q5, s6, s7, s8, .emp]) := by
    simp [eVar, eLit, eGlob, eOp, eNot, eAnd, eOr, eIfe, eChain, aNil, aPeek, aVar, aLit, aGlob, aOp, aNot, aAnd, aOr, aIfe, aChain, sIfe, sAsg, sAsgT, sPar, sSeti, sAug, sApp, sExt, sPop, sDrop, sRet, sRetN, sPass, sBrk, sCont, bNil, bCons, evSeq, evIfS, evalAnd, evalOr, evalIfs, applyT, looks, look, valsOf, borOk, putBack, putBor, primD, prBin, binD, prCmp, cmpD, prIdx, prNeg, prTup, prLst, prLen, prInt1, prBool1, prStr1, prAbs1, prMin2, prMax2, prSum1, prAll1, prAny1, prSorted1, prTuple1, prList1, prIsi, prDic0, prUpper, prJoin, prDivmod, prSlcFF, prSlcTF, prSlcFT, prSlcTT, slcD, storing, litD, truD, Rs.d, evAsg, evAsgT, evPar, evSeti, evAug, evApp, evExt, evPop, evDrop, evRet, tVar', tLit', tGlob', tOp', tNot', tAnd', tOr', tIfe', tChain', evalRs, setAll, ownD, putD, putSlot, slotFree, toSl, bindT, bindT.bindTs, startE, outsOf, slotD, Sl.isOwn, isLst, itemsD, itSeq, itRng1, itRng2, fin, isiD, augD, plainSlots, wipeE, backE, ix0, ix1, ix2, range1, range2, range3, applyC, permL, frR]
  refine ⟨ks, ?_, nd, hk⟩
  have hR : R (n + 2) 11 [s.d, .str role, .int day] = fin f11.rf (execB (rfOf fns) (R (n + 1)) 1000 f11.body (startE f11.rf [s.d, .str role, .int day] f11.ns)) := run_fn (fd := f11) rfl rfl
  rw [hR]
  have e : execB (rfOf fns) (R (n + 1)) 1000 f11.body (startE f11.rf [s.d, .str role, .int day] f11.ns) = _ := bStep c1 (bStep c2 (bStep c3 (bStep c4' (bEnd c5))))
  rw [e]
  rfl
theorem law_acting_ok (n : Nat) {X : List Str} {s : Sf} (ok : SOk X s) (role : Str) (day : Int) : R (n + 3) 12 [s.d, .str role, .int day] = some (.val (.tup ((actL s role day).map .str)), [none, none, none]) := by
  obtain ⟨ks, e1, nd, hk⟩ := reached_ok n ok role day
  have hks : ks.length ≤ 12 := by
    have := nodup_le nd fun x hx => ((hk x).mp hx).mem ok
    have := ok.few
    omega
  have e2 := lc_X (rf := rfOf fns) (C := R (n + 2)) (ex := f12L1) rfl [.val s.d, .val (.str role), .val (.int day), .emp] [.val s.d, .val (.str role), .val (.int day), .emp] (xs := [.v (.dic (kD ks))]) (ds := [.dic (kD ks)]) ks D.str (fun x => if (bysL s x day).isEmpty then some (.str x) else none)
    (by unfold R at e1 ⊢; simp [eVar, eLit, eGlob, eOp, eNot, eAnd, eOr, eIfe, eChain, aNil, aPeek, aVar, aLit, aGlob, aOp, aNot, aAnd, aOr, aIfe, aChain, sIfe, sAsg, sAsgT, sPar, sSeti, sAug, sApp, sExt, sPop, sDrop, sRet, sRetN, sPass, sBrk, sCont, bNil, bCons, evSeq, evIfS, evalAnd, evalOr, evalIfs, applyT, looks, look, valsOf, borOk, putBack, putBor, primD, prBin, binD, prCmp, cmpD, prIdx, prNeg, prTup, prLst, prLen, prInt1, prBool1, prStr1, prAbs1, prMin2, prMax2, prSum1, prAll1, prAny1, prSorted1, prTuple1, prList1, prIsi, prDic0, prUpper, prJoin, prDivmod, prSlcFF, prSlcTF, prSlcFT, prSlcTT, slcD, storing, litD, truD, Rs.d, evAsg, evAsgT, evPar, evSeti, evAug, evApp, evExt, evPop, evDrop, evRet, tVar', tLit', tGlob', tOp', tNot', tAnd', tOr', tIfe', tChain', evalRs, setAll, ownD, putD, putSlot, slotFree, toSl, bindT, bindT.bindTs, startE, outsOf, slotD, Sl.isOwn, isLst, itemsD, itSeq, itRng1, itRng2, fin, isiD, augD, plainSlots, wipeE, backE, ix0, ix1, ix2, range1, range2, range3, applyC, permL, rf11, e1]) rfl (by simp [itemsD, itKeys, kD, keyD, List.map_map, Function.comp_def]) rfl (sl61 (by omega)) (by
      intro x _
      have e1 := lbys_ok (n + 1) ok x day
      have e4 := eq_nil (bys_ok ok (hand := x) (day := day))
      have z0 : 0 ≤ sizeLine := Nat.zero_le _
      unfold R at e1 ⊢
      cases hb : (bysL s x day).isEmpty
      · rw [hb] at e4
        simp [lcTurn, eVar, eLit, eGlob, eOp, eNot, eAnd, eOr, eIfe, eChain, aNil, aPeek, aVar, aLit, aGlob, aOp, aNot, aAnd, aOr, aIfe, aChain, sIfe, sAsg, sAsgT, sPar, sSeti, sAug, sApp, sExt, sPop, sDrop, sRet, sRetN, sPass, sBrk, sCont, bNil, bCons, evSeq, evIfS, evalAnd, evalOr, evalIfs, applyT, looks, look, valsOf, borOk, putBack, putBor, primD, prBin, binD, prCmp, cmpD, prIdx, prNeg, prTup, prLst, prLen, prInt1, prBool1, prStr1, prAbs1, prMin2, prMax2, prSum1, prAll1, prAny1, prSorted1, prTuple1, prList1, prIsi, prDic0, prUpper, prJoin, prDivmod, prSlcFF, prSlcTF, prSlcFT, prSlcTT, slcD, storing, litD, truD, Rs.d, evAsg, evAsgT, evPar, evSeti, evAug, evApp, evExt, evPop, evDrop, evRet, tVar', tLit', tGlob', tOp', tNot', tAnd', tOr', tIfe', tChain', evalRs, setAll, ownD, putD, putSlot, slotFree, toSl, bindT, bindT.bindTs, startE, outsOf, slotD, Sl.isOwn, isLst, itemsD, itSeq, itRng1, itRng2, fin, isiD, augD, plainSlots, wipeE, backE, ix0, ix1, ix2, range1, range2, range3, applyC, permL, evalIfs, rf10, e1, e4, z0]
      · rw [hb] at e4
        simp [lcTurn, eVar, eLit, eGlob, eOp, eNot, eAnd, eOr, eIfe, eChain, aNil, aPeek, aVar, aLit, aGlob, aOp, aNot, aAnd, aOr, aIfe, aChain, sIfe, sAsg, sAsgT, sPar, sSeti, sAug, sApp, sExt, sPop, sDrop, sRet, sRetN, sPass, sBrk, sCont, bNil, bCons, evSeq, evIfS, evalAnd, evalOr, evalIfs, applyT, looks, look, valsOf, borOk, putBack, putBor, primD, prBin, binD, prCmp, cmpD, prIdx, prNeg, prTup, prLst, prLen, prInt1, prBool1, prStr1, prAbs1, prMin2, prMax2, prSum1, prAll1, prAny1, prSorted1, prTuple1, prList1, prIsi, prDic0, prUpper, prJoin, prDivmod, prSlcFF, prSlcTF, prSlcFT, prSlcTT, slcD, storing, litD, truD, Rs.d, evAsg, evAsgT, evPar, evSeti, evAug, evApp, evExt, evPop, evDrop, evRet, tVar', tLit', tGlob', tOp', tNot', tAnd', tOr', tIfe', tChain', evalRs, setAll, ownD, putD, putSlot, slotFree, toSl, bindT, bindT.bindTs, startE, outsOf, slotD, Sl.isOwn, isLst, itemsD, itSeq, itRng1, itRng2, fin, isiD, augD, plainSlots, wipeE, backE, ix0, ix1, ix2, range1, range2, range3, applyC, permL, evalIfs, rf10, e1, e4, z0])
  rw [fm_some (fun x => (bysL s x day).isEmpty) (fun x => x) D.str, fm_filter] at e2
  have ea : sortS (ks.filter fun x => (bysL s x day).isEmpty) = actL s role day := (acts_sort (nd.filter _) fun x => by
    rw [List.mem_filter, hk]
    simp).unique (actL_acts ok)
  have e3 := soS (l := ks.filter fun x => (bysL s x day).isEmpty) (by
    have := List.length_filter_le (fun x => (bysL s x day).isEmpty) ks
    omega)
  have hR : R (n + 3) 12 [s.d, .str role, .int day] = fin f12.rf (execB (rfOf fns) (R (n + 2)) 1000 f12.body (startE f12.rf [s.d, .str role, .int day] f12.ns)) := run_fn (fd := f12) rfl rfl
  rw [hR]
  rw [ea] at e3
  exact fin_ret (ret_v (ev_op1 rfl rfl (ev_op1 rfl rfl e2 e3) rfl))
end Lk06
/-! staff: names and staff drawn -/
namespace Lk06
open PySem L2 Ofw Stf
abbrev BB : Int := 1000000000000000000000000000000000000000000
def bK : Ak := [.int (-BB) BB]
def hlK : Ak := [.tup [[.nam 1 0], [.str 8], bK, bK]]
def awK : Ak := [.tup [[.nam 1 0], bK, bK, [.nam 1 0, .txt ""]]]
def Bd (i : Int) : Prop := -BB ≤ i ∧ i ≤ BB
/-- few rows, of days that are not too far -/
structure SB (s : Sf) : Prop where
  l1 : s.hs.length ≤ 60
  l2 : s.as.length ≤ 60
  hb : ∀ x ∈ s.hs, Bd x.lo ∧ Bd x.hi
  ab : ∀ x ∈ s.as, Bd x.lo ∧ Bd x.hi
def sfK : Ak := [.tup [[.tupN hlK 0 60], [.tupN awK 0 60]]]
def V : Vw := fun k _ => match k with
  | 0 => vHd
  | 1 => [.str 8]
  | 2 => [.lstN [.nam 1 0] 1 12]
  | _ => []
structure XOk (X : List Str) : Prop where
  nm : ∀ x ∈ X, Tx 8 x
  one : 1 ≤ X.length
  few : X.length ≤ 12
def Nb (base : Nat) (X : List Str) : Nm := ⟨fun k c d => match k with
  | 0 => Hd ((base + c : Nat) : Int) d
  | 1 => ∃ x ∈ X, d = .str x
  | 2 => d = .lst (X.map .str)
  | _ => False, V⟩
section
variable {base : Nat} {X : List Str}
theorem nb_ok (hX : XOk X) : NmOk (Nb base X) where
  view := fun k c d h => by
    match k, h with
    | 0, h => exact Hd.view (N := Nb base X) h
    | 1, h =>
      obtain ⟨x, hx, rfl⟩ := h
      exact .one (.str (hX.nm x hx))
    | 2, h =>
      have h : d = .lst (X.map .str) := h
      subst h
      refine .one (.lstN (fun d hd => ?_) (by rw [List.length_map]; exact hX.one) (by rw [List.length_map]; exact hX.few))
      obtain ⟨x, hx, rfl⟩ := List.mem_map.mp hd
      exact .one (.nam ⟨x, hx, rfl⟩)
  mono := fun k c c' d h l => by
    match k, h with
    | 0, h => exact Hd.mono (show Hd ((base + c : Nat) : Int) d from h) (by omega)
    | 1, h => exact h
    | 2, h => exact h
theorem man_ok (hX : XOk X) (hb : base ≤ 536870912) (n : Nat) (hn : 2 ≤ n) : HOk (Nb base X) (R n) (manB V) :=
  manB_ok (N := Nb base X) (nb_ok hX) (base := base) (fun _ _ => Iff.rfl) hb n hn
theorem run_ok (hX : XOk X) (hb : base ≤ 536870912) (m n : Nat) (hn : 2 + m ≤ n) : HOk (Nb base X) (R n) (aRun V fns (manB V) m) :=
  aRun_ok (nb_ok hX) (ps := fns) (wf := 1000) (man := manB V) (K0 := 2) (fun n hn => man_ok hX hb n hn) m n (by omega)
end
theorem x1 : XOk [e0] := ⟨by intro x hx; rw [List.mem_singleton.mp hx]; exact ⟨by decide +kernel, by decide +kernel⟩, by decide, by decide⟩
section
variable {base : Nat} {X : List Str}
theorem nam1 {d : D} {c : Nat} (h : GA (Nb base X) [.nam 1 c] d) : ∃ x, d = .str x ∧ x ∈ X := by
  cases h.of1 with
  | nam h => obtain ⟨x, hx, rfl⟩ := h; exact ⟨x, rfl, hx⟩
theorem hl_of {d : D} (h : GA (Nb base X) hlK d) : ∃ x : Hl, d = x.d ∧ (x.h ∈ X ∧ Tx 8 x.r) ∧ Bd x.lo ∧ Bd x.hi := by
  cases h.of1 with
  | tup gl =>
    obtain ⟨a, b, c, e, rfl, g1, g2, g3, g4⟩ := GL.four gl
    obtain ⟨x, rfl, hx⟩ := nam1 g1
    obtain ⟨i, rfl, i0, i1⟩ := int_of' g3
    obtain ⟨j, rfl, j0, j1⟩ := int_of' g4
    cases g2.of1 with
    | str t => exact ⟨⟨x, _, i, j⟩, rfl, ⟨hx, t⟩, ⟨i0, i1⟩, j0, j1⟩
theorem aw_of {d : D} (h : GA (Nb base X) awK d) : ∃ x : Aw, d = x.d ∧ (x.h ∈ X ∧ (x.b ∈ X ∨ x.b = e0)) ∧ Bd x.lo ∧ Bd x.hi := by
  cases h.of1 with
  | tup gl =>
    obtain ⟨a, b, c, e, rfl, g1, g2, g3, g4⟩ := GL.four gl
    obtain ⟨x, rfl, hx⟩ := nam1 g1
    obtain ⟨i, rfl, i0, i1⟩ := int_of' g2
    obtain ⟨j, rfl, j0, j1⟩ := int_of' g3
    cases g4 with
    | mk m g =>
      simp only [List.mem_cons, List.not_mem_nil, or_false] at m
      rcases m with rfl | rfl
      · obtain ⟨y, rfl, hy⟩ := nam1 (GA.one g)
        exact ⟨⟨x, i, j, y⟩, rfl, ⟨hx, .inl hy⟩, ⟨i0, i1⟩, j0, j1⟩
      · cases g
        exact ⟨⟨x, i, j, e0⟩, rfl, ⟨hx, .inr rfl⟩, ⟨i0, i1⟩, j0, j1⟩
theorem sf_of (hX : XOk X) {d : D} (h : GA (Nb base X) sfK d) : ∃ s : Sf, d = s.d ∧ SOk X s ∧ SB s := by
  cases h.of1 with
  | tup gl =>
    obtain ⟨a, b, rfl, g1, g2⟩ := gl.two
    cases g1.of1 with
    | tupN m1 _ l1 =>
      cases g2.of1 with
      | tupN m2 _ l2 =>
        obtain ⟨hs, rfl, h1⟩ := choose_map (f := Hl.d) (P := fun x => (x.h ∈ X ∧ Tx 8 x.r) ∧ Bd x.lo ∧ Bd x.hi) fun d hd => hl_of (m1 d hd)
        obtain ⟨as, rfl, h2⟩ := choose_map (f := Aw.d) (P := fun x => (x.h ∈ X ∧ (x.b ∈ X ∨ x.b = e0)) ∧ Bd x.lo ∧ Bd x.hi) fun d hd => aw_of (m2 d hd)
        rw [List.length_map] at l1 l2
        exact ⟨⟨hs, as⟩, rfl, ⟨hX.nm, hX.few, Nat.le_succ_of_le l1, Nat.le_succ_of_le l2, fun x hx => (h1 x hx).1.1, fun x hx => (h1 x hx).1.2, fun x hx => (h2 x hx).1.1, fun x hx => (h2 x hx).1.2⟩, l1, l2, fun x hx => (h1 x hx).2, fun x hx => (h2 x hx).2⟩
end
theorem names_t : tells1 V (aRun V fns (manB V) 2 7 [[.nam 0 0], [.int 1 12]]) true [.lstN [.str 8] 1 12] [some [.nam 0 85], none] = true := by decide +kernel
theorem names_ok (n : Nat) {c : Int} {d : D} (h : Hd c d) (h0 : 0 ≤ c) (hc : c < 1000000) (m : Int) (m1 : 1 ≤ m) (m2 : m ≤ 12) : ∃ X d', R (n + 4) 7 [d, .int m] = some (.fr (.lst (X.map .str)), [some d', none]) ∧ XOk X ∧ Hd (c + 85) d' := by
  obtain ⟨rs, os, e, gr, go⟩ := tells1_ok (nb_ok (base := c.toNat) x1) (run_ok (base := c.toNat) x1 (by omega) 2 (n + 4) (by omega)) names_t (ds := [d, .int m]) (.cons (.one (.nam (show Hd ((c.toNat + 0 : Nat) : Int) d from h.mono (by omega)))) (.cons (.one (.int m1 m2)) .nil))
  obtain ⟨w, rfl, gw⟩ := gr.ofF
  obtain ⟨ys, rfl, l1, l2, hy⟩ := strs_lst gw
  obtain ⟨d', l, rfl, gd, go1⟩ := go.s
  obtain ⟨l, rfl, go2⟩ := go1.n
  obtain rfl := go2.e
  refine ⟨ys, d', e, ⟨hy, l1, l2⟩, ?_⟩
  cases gd.of1 with
  | nam h => exact Hd.mono (show Hd ((c.toNat + 85 : Nat) : Int) d' from h) (by omega)
theorem staff_t : tells1 V (aRun V fns (manB V) 3 9 [[.nam 0 0], [.nam 2 0], [.lstN [.str 8] 1 12], [.int (-30) 29], [.lst [[.int 0 60], [.int 0 60]]]]) false sfK [some [.nam 0 960], none, none, none, none] = true := by decide +kernel
theorem staff_ok (n : Nat) {c : Int} {d : D} (h : Hd c d) (h0 : 0 ≤ c) (hc : c < 1000000) {X Y : List Str} (hX : XOk X) (hY : XOk Y) (near a b : Int) (n1 : -30 ≤ near) (n2 : near ≤ 29) (a0 : 0 ≤ a) (a1 : a ≤ 60) (b0 : 0 ≤ b) (b1 : b ≤ 60) :
    ∃ s d', R (n + 5) 9 [d, .lst (X.map .str), .lst (Y.map .str), .int near, .lst [.int a, .int b]] = some (.val (Sf.d s), [some d', none, none, none, none]) ∧ SOk X s ∧ SB s ∧ Hd (c + 960) d' := by
  obtain ⟨rs, os, e, gr, go⟩ := tells1_ok (nb_ok (base := c.toNat) hX) (run_ok (base := c.toNat) hX (by omega) 3 (n + 5) (by omega)) staff_t (ds := [d, .lst (X.map .str), .lst (Y.map .str), .int near, .lst [.int a, .int b]])
    (.cons (.one (.nam (show Hd ((c.toNat + 0 : Nat) : Int) d from h.mono (by omega)))) (.cons (.one (.nam rfl)) (.cons (.one (.lstN (fun d hd => by
      obtain ⟨y, hy, rfl⟩ := List.mem_map.mp hd
      exact .one (.str (hY.nm y hy))) (by rw [List.length_map]; exact hY.one) (by rw [List.length_map]; exact hY.few))) (.cons (.one (.int n1 n2)) (.cons (.one (.lst (.cons (.one (.int a0 a1)) (.cons (.one (.int b0 b1)) .nil)))) .nil)))))
  obtain ⟨w, rfl, gw⟩ := gr.ofV
  obtain ⟨s, rfl, hs, hb⟩ := sf_of hX gw
  obtain ⟨d', l, rfl, gd, go1⟩ := go.s
  obtain ⟨l, rfl, go2⟩ := go1.n
  obtain ⟨l, rfl, go3⟩ := go2.n
  obtain ⟨l, rfl, go4⟩ := go3.n
  obtain ⟨l, rfl, go5⟩ := go4.n
  obtain rfl := go5.e
  refine ⟨s, d', e, hs, hb, ?_⟩
  cases gd.of1 with
  | nam h => exact Hd.mono (show Hd ((c.toNat + 960 : Nat) : Int) d' from h) (by omega)
/-- staff as a kind -/
theorem sf_k {base : Nat} {X : List Str} {s : Sf} (ok : SOk X s) (b : SB s) : GA (Nb base X) sfK s.d := by
  refine .one (.tup (.cons (.one (.tupN (fun d hd => ?_) (Nat.zero_le _) (by rw [List.length_map]; exact b.l1))) (.cons (.one (.tupN (fun d hd => ?_) (Nat.zero_le _) (by rw [List.length_map]; exact b.l2))) .nil)))
  · obtain ⟨x, hx, rfl⟩ := List.mem_map.mp hd
    exact .one (.tup (.cons (.one (.nam ⟨_, ok.hh x hx, rfl⟩)) (.cons (.one (.str (ok.hr x hx))) (.cons (.one (.int (b.hb x hx).1.1 (b.hb x hx).1.2)) (.cons (.one (.int (b.hb x hx).2.1 (b.hb x hx).2.2)) .nil)))))
  · obtain ⟨x, hx, rfl⟩ := List.mem_map.mp hd
    refine .one (.tup (.cons (.one (.nam ⟨_, ok.ah x hx, rfl⟩)) (.cons (.one (.int (b.ab x hx).1.1 (b.ab x hx).1.2)) (.cons (.one (.int (b.ab x hx).2.1 (b.ab x hx).2.2)) (.cons ?_ .nil)))))
    rcases ok.ab x hx with h | h
    · exact .mk List.mem_cons_self (.nam ⟨_, h, rfl⟩)
    · rw [h]; exact .mk (List.mem_cons_of_mem _ List.mem_cons_self) .txt
theorem repr_k : reprK V sfK = true := by decide +kernel
theorem repr_ok {X : List Str} {s : Sf} (hX : XOk X) (ok : SOk X s) (b : SB s) : prRepr1 [s.d] = some (.val (.str (toP s.d).shown)) := reprK_ok (nb_ok (base := 0) hX) repr_k (sf_k ok b) rfl
end Lk06
namespace Lk06
open PySem L2 Ofw Stf
theorem all_tr : ∀ l : List Str, blsD (l.map fun _ => .bl true) = some (l.map fun _ => true)
  | [] => rfl
  | x :: l => by rw [List.map_cons]; unfold blsD; rw [all_tr l]; rfl
theorem same_ok (n : Nat) {l : List Str} (hl : l.length ≤ 100) (h : ∀ x ∈ l, PyData.strOk x = true) : R (n + 1) 14 [.tup (l.map .str), .tup (l.map .str)] = some (.val (.bl true), [none, none]) := by
  have e := lc_X (rf := rfOf fns) (C := R n) (ex := f14L1) rfl [.val (.tup (l.map .str)), .val (.tup (l.map .str)), .emp] [.val (.tup (l.map .str)), .val (.tup (l.map .str)), .emp] (xs := [.v (.tup (l.map .str))]) (ds := [.tup (l.map .str)]) l D.str (fun _ => some (.bl true))
    (by simp [eVar, eLit, eGlob, eOp, eNot, eAnd, eOr, eIfe, eChain, aNil, aPeek, aVar, aLit, aGlob, aOp, aNot, aAnd, aOr, aIfe, aChain, sIfe, sAsg, sAsgT, sPar, sSeti, sAug, sApp, sExt, sPop, sDrop, sRet, sRetN, sPass, sBrk, sCont, bNil, bCons, evSeq, evIfS, evalAnd, evalOr, evalIfs, applyT, looks, look, valsOf, borOk, putBack, putBor, primD, prBin, binD, prCmp, cmpD, prIdx, prNeg, prTup, prLst, prLen, prInt1, prBool1, prStr1, prAbs1, prMin2, prMax2, prSum1, prAll1, prAny1, prSorted1, prTuple1, prList1, prIsi, prDic0, prUpper, prJoin, prDivmod, prSlcFF, prSlcTF, prSlcFT, prSlcTT, slcD, storing, litD, truD, Rs.d, evAsg, evAsgT, evPar, evSeti, evAug, evApp, evExt, evPop, evDrop, evRet, tVar', tLit', tGlob', tOp', tNot', tAnd', tOr', tIfe', tChain', evalRs, setAll, ownD, putD, putSlot, slotFree, toSl, bindT, bindT.bindTs, startE, outsOf, slotD, Sl.isOwn, isLst, itemsD, itSeq, itRng1, itRng2, fin, isiD, augD, plainSlots, wipeE, backE, ix0, ix1, ix2, range1, range2, range3, applyC, permL]) rfl rfl rfl (sl61 (by omega)) (by
      intro x _
      simp [lcTurn, eVar, eLit, eGlob, eOp, eNot, eAnd, eOr, eIfe, eChain, aNil, aPeek, aVar, aLit, aGlob, aOp, aNot, aAnd, aOr, aIfe, aChain, sIfe, sAsg, sAsgT, sPar, sSeti, sAug, sApp, sExt, sPop, sDrop, sRet, sRetN, sPass, sBrk, sCont, bNil, bCons, evSeq, evIfS, evalAnd, evalOr, evalIfs, applyT, looks, look, valsOf, borOk, putBack, putBor, primD, prBin, binD, prCmp, cmpD, prIdx, prNeg, prTup, prLst, prLen, prInt1, prBool1, prStr1, prAbs1, prMin2, prMax2, prSum1, prAll1, prAny1, prSorted1, prTuple1, prList1, prIsi, prDic0, prUpper, prJoin, prDivmod, prSlcFF, prSlcTF, prSlcFT, prSlcTT, slcD, storing, litD, truD, Rs.d, evAsg, evAsgT, evPar, evSeti, evAug, evApp, evExt, evPop, evDrop, evRet, tVar', tLit', tGlob', tOp', tNot', tAnd', tOr', tIfe', tChain', evalRs, setAll, ownD, putD, putSlot, slotFree, toSl, bindT, bindT.bindTs, startE, outsOf, slotD, Sl.isOwn, isLst, itemsD, itSeq, itRng1, itRng2, fin, isiD, augD, plainSlots, wipeE, backE, ix0, ix1, ix2, range1, range2, range3, applyC, permL, evalIfs])
  have e2 : evalE (rfOf fns) (R n) (.op .all1 [f14L1]) [.val (.tup (l.map .str)), .val (.tup (l.map .str)), .emp] = some (.val (.bl true), [.val (.tup (l.map .str)), .val (.tup (l.map .str)), .emp]) := by
    refine ev_op1 rfl rfl e ?_
    rw [List.filterMap_eq_map' (f := fun _ => D.bl true)]
    show prAll1 [.lst _] = _
    unfold prAll1
    simp only [all_tr]
    simp
  have e3 := eq_ts h h
  rw [beq_self_eq_true] at e3
  unfold R at e2 ⊢
  rw [run_fn (fd := f14) rfl rfl]
  simp [f14, eVar, eLit, eGlob, eOp, eNot, eAnd, eOr, eIfe, eChain, aNil, aPeek, aVar, aLit, aGlob, aOp, aNot, aAnd, aOr, aIfe, aChain, sIfe, sAsg, sAsgT, sPar, sSeti, sAug, sApp, sExt, sPop, sDrop, sRet, sRetN, sPass, sBrk, sCont, bNil, bCons, evSeq, evIfS, evalAnd, evalOr, evalIfs, applyT, looks, look, valsOf, borOk, putBack, putBor, primD, prBin, binD, prCmp, cmpD, prIdx, prNeg, prTup, prLst, prLen, prInt1, prBool1, prStr1, prAbs1, prMin2, prMax2, prSum1, prAll1, prAny1, prSorted1, prTuple1, prList1, prIsi, prDic0, prUpper, prJoin, prDivmod, prSlcFF, prSlcTF, prSlcFT, prSlcTT, slcD, storing, litD, truD, Rs.d, evAsg, evAsgT, evPar, evSeti, evAug, evApp, evExt, evPop, evDrop, evRet, tVar', tLit', tGlob', tOp', tNot', tAnd', tOr', tIfe', tChain', evalRs, setAll, ownD, putD, putSlot, slotFree, toSl, bindT, bindT.bindTs, startE, outsOf, slotD, Sl.isOwn, isLst, itemsD, itSeq, itRng1, itRng2, fin, isiD, augD, plainSlots, wipeE, backE, ix0, ix1, ix2, range1, range2, range3, applyC, permL, e2, e3]
theorem act_ok {X : List Str} {s : Sf} (ok : SOk X s) (role : Str) (day : Int) : (actL s role day).length ≤ 100 ∧ ∀ x ∈ actL s role day, PyData.strOk x = true := by
  have h := actL_acts (role := role) (day := day) ok
  have hx : ∀ x ∈ actL s role day, x ∈ X := fun x hx => ((h.2.2 x).mp hx).1.mem ok
  refine ⟨?_, fun x hx' => (ok.nm x (hx x hx')).2⟩
  have := nodup_le h.2.1 hx
  have := ok.few
  omega
theorem days_t : tells1 V (aRun V fns (manB V) 3 13 [[.nam 0 0], sfK, [.int (-30) 29]]) true [.lstN [.big] 3 9] [some [.nam 0 14], none, none] = true := by decide +kernel
theorem days_ok (n : Nat) {c : Int} {d : D} (h : Hd c d) (h0 : 0 ≤ c) (hc : c < 1000000) {X : List Str} (hX : XOk X) {s : Sf} (ok : SOk X s) (sb : SB s) (near : Int) (n1 : -30 ≤ near) (n2 : near ≤ 29) : ∃ ds d', R (n + 5) 13 [d, s.d, .int near] = some (.fr (.lst (List.map D.int ds)), [some d', none, none]) ∧ Hd (c + 14) d' := by
  obtain ⟨rs, os, e, gr, go⟩ := tells1_ok (nb_ok (base := c.toNat) hX) (run_ok (base := c.toNat) hX (by omega) 3 (n + 5) (by omega)) days_t (ds := [d, s.d, .int near])
    (.cons (.one (.nam (show Hd ((c.toNat + 0 : Nat) : Int) d from h.mono (by omega)))) (.cons (sf_k ok sb) (.cons (.one (.int n1 n2)) .nil)))
  obtain ⟨w, rfl, gw⟩ := gr.ofF
  obtain ⟨ds, rfl, _, _⟩ := ints_lst gw
  obtain ⟨d', l, rfl, gd, go1⟩ := go.s
  obtain ⟨l, rfl, go2⟩ := go1.n
  obtain ⟨l, rfl, go3⟩ := go2.n
  obtain rfl := go3.e
  refine ⟨ds, d', e, ?_⟩
  cases gd.of1 with
  | nam h => exact Hd.mono (show Hd ((c.toNat + 14 : Nat) : Int) d' from h) (by omega)
abbrev frL (ns : List Int) (k : Int) (h : D) (near a b : Int) (s : Sf) (z : Str) (X Y : List Str) (s7 s10 s12 : Sl) : En := [.val (.scr ns), .val (.int k), .own h, .val (.int near), .val (.lst [.int a, .int b]), .val s.d, .val (.str z), s7, .val (.lst (X.map .str)), .val (.lst (Y.map .str)), s10, .emp, s12]
theorem law_F1 (n : Nat) (ns : List Int) (k : Int) (h : D) (near a b : Int) {X : List Str} {s : Sf} (ok : SOk X s) (z : Str) (Y : List Str) (day : Int) (s10 s12 : Sl) (v10 : Vs s10) (v12 : Vs s12) (y : Str) :
    loTurn (rfOf fns) (R (n + 5)) 1000 (.one 10) f15F1B (.str y) (frL ns k h near a b s z X Y (.val (.int day)) s10 s12) = some (.nx, frL ns k h near a b s z X Y (.val (.int day)) (.val (.str y)) (.val (.tup ((actL s y day).map .str)))) := by
  have e1 := law_acting_ok (n + 2) ok y day
  have e2 := acting_ok (n + 2) ok y day
  obtain ⟨al, as⟩ := act_ok ok y day
  have e3 := same_ok (n + 4) al as
  have hb : bindT (.one 10) (.str y) (frL ns k h near a b s z X Y (.val (.int day)) s10 s12) = some (frL ns k h near a b s z X Y (.val (.int day)) (.val (.str y)) s12) := by
    rcases v10 with rfl | ⟨_, rfl⟩ <;> rfl
  unfold loTurn
  rw [hb]
  show execB (rfOf fns) (R (n + 5)) 1000 f15F1B _ = _
  unfold R at e1 e2 e3 ⊢
  rcases v12 with rfl | ⟨_, rfl⟩ <;> simp [f15F1B, eVar, eLit, eGlob, eOp, eNot, eAnd, eOr, eIfe, eChain, aNil, aPeek, aVar, aLit, aGlob, aOp, aNot, aAnd, aOr, aIfe, aChain, sIfe, sAsg, sAsgT, sPar, sSeti, sAug, sApp, sExt, sPop, sDrop, sRet, sRetN, sPass, sBrk, sCont, bNil, bCons, evSeq, evIfS, evalAnd, evalOr, evalIfs, applyT, looks, look, valsOf, borOk, putBack, putBor, primD, prBin, binD, prCmp, cmpD, prIdx, prNeg, prTup, prLst, prLen, prInt1, prBool1, prStr1, prAbs1, prMin2, prMax2, prSum1, prAll1, prAny1, prSorted1, prTuple1, prList1, prIsi, prDic0, prUpper, prJoin, prDivmod, prSlcFF, prSlcTF, prSlcFT, prSlcTT, slcD, storing, litD, truD, Rs.d, evAsg, evAsgT, evPar, evSeti, evAug, evApp, evExt, evPop, evDrop, evRet, tVar', tLit', tGlob', tOp', tNot', tAnd', tOr', tIfe', tChain', evalRs, setAll, ownD, putD, putSlot, slotFree, toSl, bindT, bindT.bindTs, startE, outsOf, slotD, Sl.isOwn, isLst, itemsD, itSeq, itRng1, itRng2, fin, isiD, augD, plainSlots, wipeE, backE, ix0, ix1, ix2, range1, range2, range3, applyC, permL, frL, rf12, rf3, rf14, e1, e2, e3]
theorem law_src (C : CallT) (ns : List Int) (k : Int) (h : D) (near a b : Int) {X : List Str} {s : Sf} (z : Str) {Y : List Str} (hY : XOk Y) (s7 s10 s12 : Sl) : ∃ w, evalAs (rfOf fns) C [.op (.bin .Add) [.peek 9, .op .lst [.op (.bin .Add) [.lit (.str "nobody"), .op (.slc true false) [.op .idx [.peek 9, .lit (.int 0)], .op .neg [.lit (.int 1)]]]]]] (frL ns k h near a b s z X Y s7 s10 s12) = some ([.v (.lst ((Y ++ [w]).map .str))], frL ns k h near a b s z X Y s7 s10 s12) := by
  obtain ⟨h1, h2, h3⟩ := hY
  cases Y with
  | nil => simp at h2
  | cons y r =>
    have ty := h1 y List.mem_cons_self
    have l1 : y.length ≤ sizeLine := Nat.le_trans ty.1 (by decide)
    have tc := ty.cut (some (-1)) none
    have ln : (Str.ofString "nobody").length = 6 := by decide +kernel
    have l2 : (Str.ofString "nobody").length + (⟨(cutD y.cps.toList (some (-1)) none).toArray⟩ : Str).length ≤ sizeLine := by
      rw [ln]
      have := tc.1
      exact sle (by omega)
    have l3 : 1 ≤ sizeLine := by decide
    have l4 : r.length + 1 + 1 ≤ sizeLine := by
      simp only [List.length_cons] at h3
      exact sle (by omega)
    exact ⟨Str.ofString "nobody" ++ ⟨(cutD y.cps.toList (some (-1)) none).toArray⟩, by simp [eVar, eLit, eGlob, eOp, eNot, eAnd, eOr, eIfe, eChain, aNil, aPeek, aVar, aLit, aGlob, aOp, aNot, aAnd, aOr, aIfe, aChain, sIfe, sAsg, sAsgT, sPar, sSeti, sAug, sApp, sExt, sPop, sDrop, sRet, sRetN, sPass, sBrk, sCont, bNil, bCons, evSeq, evIfS, evalAnd, evalOr, evalIfs, applyT, looks, look, valsOf, borOk, putBack, putBor, primD, prBin, binD, prCmp, cmpD, prIdx, prNeg, prTup, prLst, prLen, prInt1, prBool1, prStr1, prAbs1, prMin2, prMax2, prSum1, prAll1, prAny1, prSorted1, prTuple1, prList1, prIsi, prDic0, prUpper, prJoin, prDivmod, prSlcFF, prSlcTF, prSlcFT, prSlcTT, slcD, storing, litD, truD, Rs.d, evAsg, evAsgT, evPar, evSeti, evAug, evApp, evExt, evPop, evDrop, evRet, tVar', tLit', tGlob', tOp', tNot', tAnd', tOr', tIfe', tChain', evalRs, setAll, ownD, putD, putSlot, slotFree, toSl, bindT, bindT.bindTs, startE, outsOf, slotD, Sl.isOwn, isLst, itemsD, itSeq, itRng1, itRng2, fin, isiD, augD, plainSlots, wipeE, backE, ix0, ix1, ix2, range1, range2, range3, applyC, permL, frL, l1, l2, l3, l4]⟩
theorem law_F2 (n : Nat) (ns : List Int) (k : Int) (h : D) (near a b : Int) {X : List Str} {s : Sf} (ok : SOk X s) (z : Str) {Y : List Str} (hY : XOk Y) (s7 s10 s12 : Sl) (v7 : Vs s7) (v10 : Vs s10) (v12 : Vs s12) (day : Int) :
    ∃ q10 q12, loTurn (rfOf fns) (R (n + 5)) 1000 (.one 7) f15F2B (.int day) (frL ns k h near a b s z X Y s7 s10 s12) = some (.nx, frL ns k h near a b s z X Y (.val (.int day)) q10 q12) ∧ Vs q10 ∧ Vs q12 := by
  have hb : bindT (.one 7) (.int day) (frL ns k h near a b s z X Y s7 s10 s12) = some (frL ns k h near a b s z X Y (.val (.int day)) s10 s12) := by
    rcases v7 with rfl | ⟨_, rfl⟩ <;> rfl
  obtain ⟨w, hw⟩ := law_src (R (n + 5)) ns k h near a b (X := X) (s := s) z hY (.val (.int day)) s10 s12
  obtain ⟨en, e, q10, q12, rfl, w10, w12⟩ := for_X (rf := rfOf fns) (C := R (n + 5)) (wf := 1000) (sx := f15F1) rfl (frL ns k h near a b s z X Y (.val (.int day)) s10 s12) (frL ns k h near a b s z X Y (.val (.int day)) s10 s12) (xs := [.v (.lst ((Y ++ [w]).map .str))]) (ds := [.lst ((Y ++ [w]).map .str)]) (Y ++ [w]) D.str
    (fun _ en => ∃ q10 q12, en = frL ns k h near a b s z X Y (.val (.int day)) q10 q12 ∧ Vs q10 ∧ Vs q12) hw rfl rfl ⟨_, _, rfl, v10, v12⟩ (by
      rintro y r en ⟨q10, q12, rfl, w10, w12⟩
      exact ⟨_, law_F1 n ns k h near a b ok z Y day q10 q12 w10 w12 y, _, _, rfl, .v _, .v _⟩)
  refine ⟨q10, q12, ?_, w10, w12⟩
  unfold loTurn
  rw [hb]
  exact bStep e (bNil _ _ _ _)
abbrev frI (ns : List Int) (s1 s2 s3 s4 s5 s6 s7 s8 s9 s10 s12 : Sl) : En := [.val (.scr ns), s1, s2, s3, s4, s5, s6, s7, s8, s9, s10, .emp, s12]
def sizesA (n : Nat) : True := trivial
theorem law_sz (n : Nat) {c : Int} {h : D} (hh : Hd c h) (h0 : 0 ≤ c) (hc : c < 1000000) (ns : List Int) (k near : Int) (s4 s5 s6 s7 s10 s12 : Sl) (X Y : List Str) : ∃ a b h', evalE (rfOf fns) (R (n + 2)) f15L1 [.val (.scr ns), .val (.int k), .own h, .val (.int near), s4, s5, s6, s7, .own (.lst (X.map .str)), .own (.lst (Y.map .str)), s10, .emp, s12] = some (.fr (.lst [.int a, .int b]), [.val (.scr ns), .val (.int k), .own h', .val (.int near), s4, s5, s6, s7, .own (.lst (X.map .str)), .own (.lst (Y.map .str)), s10, .emp, s12]) ∧ 0 ≤ a ∧ a ≤ 60 ∧ 0 ≤ b ∧ b ≤ 60 ∧ Hd (c + 6) h' := by
  have five : 5 ≤ sizeLine := by decide
  obtain ⟨out, en, e, hq, hl, h', rfl, hh'⟩ := lc_run (rf := rfOf fns) (C := R (n + 2)) (ex := f15L1) rfl [.val (.scr ns), .val (.int k), .own h, .val (.int near), s4, s5, s6, s7, .own (.lst (X.map .str)), .own (.lst (Y.map .str)), s10, .emp, s12] [.val (.scr ns), .val (.int k), .own h, .val (.int near), s4, s5, s6, s7, .own (.lst (X.map .str)), .own (.lst (Y.map .str)), s10, .emp, s12] (xs := [.v (.int 2)]) (ds := [.int 2]) (rngD 0 2)
    (fun i en => ∃ h', en = [.val (.scr ns), .val (.int k), .own h', .val (.int near), s4, s5, s6, s7, .own (.lst (X.map .str)), .own (.lst (Y.map .str)), s10, .emp, s12] ∧ Hd (c + 3 * i) h') (fun x => ∃ j : Int, x = .int j ∧ 0 ≤ j ∧ j ≤ 60) (by simp [eVar, eLit, eGlob, eOp, eNot, eAnd, eOr, eIfe, eChain, aNil, aPeek, aVar, aLit, aGlob, aOp, aNot, aAnd, aOr, aIfe, aChain, sIfe, sAsg, sAsgT, sPar, sSeti, sAug, sApp, sExt, sPop, sDrop, sRet, sRetN, sPass, sBrk, sCont, bNil, bCons, evSeq, evIfS, evalAnd, evalOr, evalIfs, applyT, looks, look, valsOf, borOk, putBack, putBor, primD, prBin, binD, prCmp, cmpD, prIdx, prNeg, prTup, prLst, prLen, prInt1, prBool1, prStr1, prAbs1, prMin2, prMax2, prSum1, prAll1, prAny1, prSorted1, prTuple1, prList1, prIsi, prDic0, prUpper, prJoin, prDivmod, prSlcFF, prSlcTF, prSlcFT, prSlcTT, slcD, storing, litD, truD, Rs.d, evAsg, evAsgT, evPar, evSeti, evAug, evApp, evExt, evPop, evDrop, evRet, tVar', tLit', tGlob', tOp', tNot', tAnd', tOr', tIfe', tChain', evalRs, setAll, ownD, putD, putSlot, slotFree, toSl, bindT, bindT.bindTs, startE, outsOf, slotD, Sl.isOwn, isLst, itemsD, itSeq, itRng1, itRng2, fin, isiD, augD, plainSlots, wipeE, backE, ix0, ix1, ix2, range1, range2, range3, applyC, permL]) rfl (by simp [eVar, eLit, eGlob, eOp, eNot, eAnd, eOr, eIfe, eChain, aNil, aPeek, aVar, aLit, aGlob, aOp, aNot, aAnd, aOr, aIfe, aChain, sIfe, sAsg, sAsgT, sPar, sSeti, sAug, sApp, sExt, sPop, sDrop, sRet, sRetN, sPass, sBrk, sCont, bNil, bCons, evSeq, evIfS, evalAnd, evalOr, evalIfs, applyT, looks, look, valsOf, borOk, putBack, putBor, primD, prBin, binD, prCmp, cmpD, prIdx, prNeg, prTup, prLst, prLen, prInt1, prBool1, prStr1, prAbs1, prMin2, prMax2, prSum1, prAll1, prAny1, prSorted1, prTuple1, prList1, prIsi, prDic0, prUpper, prJoin, prDivmod, prSlcFF, prSlcTF, prSlcFT, prSlcTT, slcD, storing, litD, truD, Rs.d, evAsg, evAsgT, evPar, evSeti, evAug, evApp, evExt, evPop, evDrop, evRet, tVar', tLit', tGlob', tOp', tNot', tAnd', tOr', tIfe', tChain', evalRs, setAll, ownD, putD, putSlot, slotFree, toSl, bindT, bindT.bindTs, startE, outsOf, slotD, Sl.isOwn, isLst, itemsD, itSeq, itRng1, itRng2, fin, isiD, augD, plainSlots, wipeE, backE, ix0, ix1, ix2, range1, range2, range3, applyC, permL, smallI]) rfl (by decide) ⟨h, rfl, by simpa using hh⟩ (by
      intro i x en hi hp
      obtain ⟨h1, rfl, hh1⟩ := hp
      have hil : i < 2 := (List.getElem?_eq_some_iff.mp hi).1
      obtain ⟨rfl, hlt⟩ := rngD_get hi
      obtain ⟨p, h2, e2, p0, p1, hh2⟩ := take_ok (n + 1) hh1 (by omega) (m := 12) (by decide) (by decide)
      obtain ⟨q, h3, e3, q0, q1, hh3⟩ := take_ok (n + 1) hh2 (by omega) (m := 61) (by decide) (by decide)
      obtain ⟨x, h4, e4, hx, hh4⟩ := of_seq n hh3 (by omega) (s := .lst [.int 1, .int 3, .int 60, .int p, .int q]) (.inl rfl) (by simp) (by simp)
      refine ⟨x, _, ?_, ?_, h4, rfl, hh4.mono (by omega)⟩
      · unfold R at e2 e3 e4
        simp [lcTurn, eVar, eLit, eGlob, eOp, eNot, eAnd, eOr, eIfe, eChain, aNil, aPeek, aVar, aLit, aGlob, aOp, aNot, aAnd, aOr, aIfe, aChain, sIfe, sAsg, sAsgT, sPar, sSeti, sAug, sApp, sExt, sPop, sDrop, sRet, sRetN, sPass, sBrk, sCont, bNil, bCons, evSeq, evIfS, evalAnd, evalOr, evalIfs, applyT, looks, look, valsOf, borOk, putBack, putBor, primD, prBin, binD, prCmp, cmpD, prIdx, prNeg, prTup, prLst, prLen, prInt1, prBool1, prStr1, prAbs1, prMin2, prMax2, prSum1, prAll1, prAny1, prSorted1, prTuple1, prList1, prIsi, prDic0, prUpper, prJoin, prDivmod, prSlcFF, prSlcTF, prSlcFT, prSlcTT, slcD, storing, litD, truD, Rs.d, evAsg, evAsgT, evPar, evSeti, evAug, evApp, evExt, evPop, evDrop, evRet, tVar', tLit', tGlob', tOp', tNot', tAnd', tOr', tIfe', tChain', evalRs, setAll, ownD, putD, putSlot, slotFree, toSl, bindT, bindT.bindTs, startE, outsOf, slotD, Sl.isOwn, isLst, itemsD, itSeq, itRng1, itRng2, fin, isiD, augD, plainSlots, wipeE, backE, ix0, ix1, ix2, range1, range2, range3, applyC, permL, evalIfs, rf5, rf6, e2, e3, e4, five]
      · simp only [List.mem_cons, List.not_mem_nil, or_false] at hx
        rcases hx with rfl | rfl | rfl | rfl | rfl
        · exact ⟨_, rfl, by omega, by omega⟩
        · exact ⟨_, rfl, by omega, by omega⟩
        · exact ⟨_, rfl, by omega, by omega⟩
        · exact ⟨_, rfl, by omega, by omega⟩
        · exact ⟨_, rfl, by omega, by omega⟩)
  have e4 : (rngD 0 2).length = 2 := by decide
  rw [e4] at hl hh'
  match out, hl with
  | [x, y], _ =>
    obtain ⟨a, rfl, a0, a1⟩ := hq x (by simp)
    obtain ⟨b, rfl, b0, b1⟩ := hq y (by simp)
    exact ⟨a, b, h', e, a0, a1, b0, b1, hh'.mono (by omega)⟩
theorem law_turn (n : Nat) (ns : List Int) (i : Int) (i0 : 0 ≤ i) (i4 : i < 10) {s1 s2 s3 s4 s5 s6 s7 s8 s9 s10 s12 : Sl} (v1 : Vs s1) (v2 : Us s2) (v3 : Vs s3) (v4 : Us s4) (v5 : Vs s5) (v6 : Vs s6) (v7 : Vs s7) (v8 : Us s8) (v9 : Us s9) (v10 : Vs s10) (v12 : Vs s12) :
    ∃ h near a b s z X Y q7 q10 q12, loTurn (rfOf fns) (R (n + 20)) 1000 (.one 1) f15F3B (.int i) (frI ns s1 s2 s3 s4 s5 s6 s7 s8 s9 s10 s12) = some (.nx, frL ns i h near a b s z X Y q7 q10 q12) ∧ Vs q7 ∧ Vs q10 ∧ Vs q12 := by
  obtain ⟨h, e1, hh⟩ := hand_ok (n + 19) ns i i0 (by omega)
  obtain ⟨p, h1, e2, p0, p1, hh1⟩ := take_ok (n + 19) hh (by omega) (m := 12) (by decide) (by decide)
  obtain ⟨X, h2, e3, hX, hh2⟩ := names_ok (n + 16) hh1 (by omega) (by omega) (1 + p) (by omega) (by omega)
  obtain ⟨q, h3, e4, q0, q1, hh3⟩ := take_ok (n + 19) hh2 (by omega) (m := 3) (by decide) (by decide)
  obtain ⟨Y, h4, e5, hY, hh4⟩ := names_ok (n + 16) hh3 (by omega) (by omega) (1 + q) (by omega) (by omega)
  obtain ⟨t, h5, e6, t0, t1, hh5⟩ := take_ok (n + 19) hh4 (by omega) (m := 60) (by decide) (by decide)
  obtain ⟨a, b, h6, e7, a0, a1, b0, b1, hh6⟩ := law_sz (n + 18) hh5 (by omega) (by omega) ns i (t - 30) s4 s5 s6 s7 s10 s12 X Y
  obtain ⟨s, h7, e8, ok, sb, hh7⟩ := staff_ok (n + 15) hh6 (by omega) (by omega) hX hY (t - 30) a b (by omega) (by omega) a0 a1 b0 b1
  obtain ⟨ds, h8, e9, hh8⟩ := days_ok (n + 15) hh7 (by omega) (by omega) hX ok sb (t - 30) (by omega) (by omega)
  have er := repr_ok hX ok sb
  obtain ⟨z, hz⟩ : ∃ z, z = (toP s.d).shown := ⟨_, rfl⟩
  rw [← hz] at er
  have hb : bindT (.one 1) (.int i) (frI ns s1 s2 s3 s4 s5 s6 s7 s8 s9 s10 s12) = some (frI ns (.val (.int i)) s2 s3 s4 s5 s6 s7 s8 s9 s10 s12) := by
    rcases v1 with rfl | ⟨_, rfl⟩ <;> rfl
  have a1' : execS (rfOf fns) (R (n + 20)) 1000 (.asg 2 (.op (.call 4) [.var 0, .var 1])) (frI ns (.val (.int i)) s2 s3 s4 s5 s6 s7 s8 s9 s10 s12) = some (.nx, frI ns (.val (.int i)) (.own h) s3 s4 s5 s6 s7 s8 s9 s10 s12) := by
    unfold R at e1 ⊢
    rcases v2 with (rfl | ⟨_, rfl⟩) | ⟨_, rfl⟩ <;> simp [eVar, eLit, eGlob, eOp, eNot, eAnd, eOr, eIfe, eChain, aNil, aPeek, aVar, aLit, aGlob, aOp, aNot, aAnd, aOr, aIfe, aChain, sIfe, sAsg, sAsgT, sPar, sSeti, sAug, sApp, sExt, sPop, sDrop, sRet, sRetN, sPass, sBrk, sCont, bNil, bCons, evSeq, evIfS, evalAnd, evalOr, evalIfs, applyT, looks, look, valsOf, borOk, putBack, putBor, primD, prBin, binD, prCmp, cmpD, prIdx, prNeg, prTup, prLst, prLen, prInt1, prBool1, prStr1, prAbs1, prMin2, prMax2, prSum1, prAll1, prAny1, prSorted1, prTuple1, prList1, prIsi, prDic0, prUpper, prJoin, prDivmod, prSlcFF, prSlcTF, prSlcFT, prSlcTT, slcD, storing, litD, truD, Rs.d, evAsg, evAsgT, evPar, evSeti, evAug, evApp, evExt, evPop, evDrop, evRet, tVar', tLit', tGlob', tOp', tNot', tAnd', tOr', tIfe', tChain', evalRs, setAll, ownD, putD, putSlot, slotFree, toSl, bindT, bindT.bindTs, startE, outsOf, slotD, Sl.isOwn, isLst, itemsD, itSeq, itRng1, itRng2, fin, isiD, augD, plainSlots, wipeE, backE, ix0, ix1, ix2, range1, range2, range3, applyC, permL, rf4, e1, frI]
  have a2 : execS (rfOf fns) (R (n + 20)) 1000 (.par [8, 9] [.op (.call 7) [.peek 2, .op (.bin .Add) [.lit (.int 1), .op (.call 5) [.peek 2, .lit (.int 12)]]], .op (.call 7) [.peek 2, .op (.bin .Add) [.lit (.int 1), .op (.call 5) [.peek 2, .lit (.int 3)]]]]) (frI ns (.val (.int i)) (.own h) s3 s4 s5 s6 s7 s8 s9 s10 s12) = some (.nx, frI ns (.val (.int i)) (.own h4) s3 s4 s5 s6 s7 (.own (.lst (X.map .str))) (.own (.lst (Y.map .str))) s10 s12) := by
    have f8 : slotFree (frI ns (.val (.int i)) (.own h4) s3 s4 s5 s6 s7 s8 s9 s10 s12) 8 = true := by rcases v8 with (rfl | ⟨_, rfl⟩) | ⟨_, rfl⟩ <;> rfl
    have f9 : slotFree (frI ns (.val (.int i)) (.own h4) s3 s4 s5 s6 s7 (.own (.lst (X.map .str))) s9 s10 s12) 9 = true := by rcases v9 with (rfl | ⟨_, rfl⟩) | ⟨_, rfl⟩ <;> rfl
    have ev : evalRs (rfOf fns) (R (n + 20)) [.op (.call 7) [.peek 2, .op (.bin .Add) [.lit (.int 1), .op (.call 5) [.peek 2, .lit (.int 12)]]], .op (.call 7) [.peek 2, .op (.bin .Add) [.lit (.int 1), .op (.call 5) [.peek 2, .lit (.int 3)]]]] (frI ns (.val (.int i)) (.own h) s3 s4 s5 s6 s7 s8 s9 s10 s12) = some ([.fr (.lst (X.map .str)), .fr (.lst (Y.map .str))], frI ns (.val (.int i)) (.own h4) s3 s4 s5 s6 s7 s8 s9 s10 s12) := by
      unfold R at e2 e3 e4 e5 ⊢
      simp [eVar, eLit, eGlob, eOp, eNot, eAnd, eOr, eIfe, eChain, aNil, aPeek, aVar, aLit, aGlob, aOp, aNot, aAnd, aOr, aIfe, aChain, sIfe, sAsg, sAsgT, sPar, sSeti, sAug, sApp, sExt, sPop, sDrop, sRet, sRetN, sPass, sBrk, sCont, bNil, bCons, evSeq, evIfS, evalAnd, evalOr, evalIfs, applyT, looks, look, valsOf, borOk, putBack, putBor, primD, prBin, binD, prCmp, cmpD, prIdx, prNeg, prTup, prLst, prLen, prInt1, prBool1, prStr1, prAbs1, prMin2, prMax2, prSum1, prAll1, prAny1, prSorted1, prTuple1, prList1, prIsi, prDic0, prUpper, prJoin, prDivmod, prSlcFF, prSlcTF, prSlcFT, prSlcTT, slcD, storing, litD, truD, Rs.d, evAsg, evAsgT, evPar, evSeti, evAug, evApp, evExt, evPop, evDrop, evRet, tVar', tLit', tGlob', tOp', tNot', tAnd', tOr', tIfe', tChain', evalRs, setAll, ownD, putD, putSlot, slotFree, toSl, bindT, bindT.bindTs, startE, outsOf, slotD, Sl.isOwn, isLst, itemsD, itSeq, itRng1, itRng2, fin, isiD, augD, plainSlots, wipeE, backE, ix0, ix1, ix2, range1, range2, range3, applyC, permL, rf5, rf7, e2, e3, e4, e5, frI]
    rw [sPar]
    unfold evPar
    rw [ev]
    simp only [setAll, f8, if_true, toSl, frI, List.set]
    rw [show slotFree _ 9 = true from f9]
    rfl
  have a3 : execS (rfOf fns) (R (n + 20)) 1000 (.asg 3 (.op (.bin .Sub) [.op (.call 5) [.peek 2, .lit (.int 60)], .lit (.int 30)])) (frI ns (.val (.int i)) (.own h4) s3 s4 s5 s6 s7 (.own (.lst (X.map .str))) (.own (.lst (Y.map .str))) s10 s12) = some (.nx, frI ns (.val (.int i)) (.own h5) (.val (.int (t - 30))) s4 s5 s6 s7 (.own (.lst (X.map .str))) (.own (.lst (Y.map .str))) s10 s12) := by
    unfold R at e6 ⊢
    rcases v3 with rfl | ⟨_, rfl⟩ <;> simp [eVar, eLit, eGlob, eOp, eNot, eAnd, eOr, eIfe, eChain, aNil, aPeek, aVar, aLit, aGlob, aOp, aNot, aAnd, aOr, aIfe, aChain, sIfe, sAsg, sAsgT, sPar, sSeti, sAug, sApp, sExt, sPop, sDrop, sRet, sRetN, sPass, sBrk, sCont, bNil, bCons, evSeq, evIfS, evalAnd, evalOr, evalIfs, applyT, looks, look, valsOf, borOk, putBack, putBor, primD, prBin, binD, prCmp, cmpD, prIdx, prNeg, prTup, prLst, prLen, prInt1, prBool1, prStr1, prAbs1, prMin2, prMax2, prSum1, prAll1, prAny1, prSorted1, prTuple1, prList1, prIsi, prDic0, prUpper, prJoin, prDivmod, prSlcFF, prSlcTF, prSlcFT, prSlcTT, slcD, storing, litD, truD, Rs.d, evAsg, evAsgT, evPar, evSeti, evAug, evApp, evExt, evPop, evDrop, evRet, tVar', tLit', tGlob', tOp', tNot', tAnd', tOr', tIfe', tChain', evalRs, setAll, ownD, putD, putSlot, slotFree, toSl, bindT, bindT.bindTs, startE, outsOf, slotD, Sl.isOwn, isLst, itemsD, itSeq, itRng1, itRng2, fin, isiD, augD, plainSlots, wipeE, backE, ix0, ix1, ix2, range1, range2, range3, applyC, permL, rf5, e6, frI]
  have a4 : execS (rfOf fns) (R (n + 20)) 1000 (.asg 4 f15L1) (frI ns (.val (.int i)) (.own h5) (.val (.int (t - 30))) s4 s5 s6 s7 (.own (.lst (X.map .str))) (.own (.lst (Y.map .str))) s10 s12) = some (.nx, frI ns (.val (.int i)) (.own h6) (.val (.int (t - 30))) (.own (.lst [.int a, .int b])) s5 s6 s7 (.own (.lst (X.map .str))) (.own (.lst (Y.map .str))) s10 s12) :=
    asg_o e7 (by rcases v4 with (rfl | ⟨_, rfl⟩) | ⟨_, rfl⟩ <;> rfl)
  have a5 : execS (rfOf fns) (R (n + 20)) 1000 (.asg 5 (.op (.call 9) [.peek 2, .var 8, .var 9, .var 3, .var 4])) (frI ns (.val (.int i)) (.own h6) (.val (.int (t - 30))) (.own (.lst [.int a, .int b])) s5 s6 s7 (.own (.lst (X.map .str))) (.own (.lst (Y.map .str))) s10 s12) = some (.nx, frI ns (.val (.int i)) (.own h7) (.val (.int (t - 30))) (.val (.lst [.int a, .int b])) (.val s.d) s6 s7 (.val (.lst (X.map .str))) (.val (.lst (Y.map .str))) s10 s12) := by
    unfold R at e8 ⊢
    rcases v5 with rfl | ⟨_, rfl⟩ <;> simp [eVar, eLit, eGlob, eOp, eNot, eAnd, eOr, eIfe, eChain, aNil, aPeek, aVar, aLit, aGlob, aOp, aNot, aAnd, aOr, aIfe, aChain, sIfe, sAsg, sAsgT, sPar, sSeti, sAug, sApp, sExt, sPop, sDrop, sRet, sRetN, sPass, sBrk, sCont, bNil, bCons, evSeq, evIfS, evalAnd, evalOr, evalIfs, applyT, looks, look, valsOf, borOk, putBack, putBor, primD, prBin, binD, prCmp, cmpD, prIdx, prNeg, prTup, prLst, prLen, prInt1, prBool1, prStr1, prAbs1, prMin2, prMax2, prSum1, prAll1, prAny1, prSorted1, prTuple1, prList1, prIsi, prDic0, prUpper, prJoin, prDivmod, prSlcFF, prSlcTF, prSlcFT, prSlcTT, slcD, storing, litD, truD, Rs.d, evAsg, evAsgT, evPar, evSeti, evAug, evApp, evExt, evPop, evDrop, evRet, tVar', tLit', tGlob', tOp', tNot', tAnd', tOr', tIfe', tChain', evalRs, setAll, ownD, putD, putSlot, slotFree, toSl, bindT, bindT.bindTs, startE, outsOf, slotD, Sl.isOwn, isLst, itemsD, itSeq, itRng1, itRng2, fin, isiD, augD, plainSlots, wipeE, backE, ix0, ix1, ix2, range1, range2, range3, applyC, permL, rf9, e8, frI]
  have a6 : execS (rfOf fns) (R (n + 20)) 1000 (.asg 6 (.op .repr1 [.peek 5])) (frI ns (.val (.int i)) (.own h7) (.val (.int (t - 30))) (.val (.lst [.int a, .int b])) (.val s.d) s6 s7 (.val (.lst (X.map .str))) (.val (.lst (Y.map .str))) s10 s12) = some (.nx, frL ns i h7 (t - 30) a b s z X Y s7 s10 s12) := by
    rcases v6 with rfl | ⟨_, rfl⟩ <;> simp [eVar, eLit, eGlob, eOp, eNot, eAnd, eOr, eIfe, eChain, aNil, aPeek, aVar, aLit, aGlob, aOp, aNot, aAnd, aOr, aIfe, aChain, sIfe, sAsg, sAsgT, sPar, sSeti, sAug, sApp, sExt, sPop, sDrop, sRet, sRetN, sPass, sBrk, sCont, bNil, bCons, evSeq, evIfS, evalAnd, evalOr, evalIfs, applyT, looks, look, valsOf, borOk, putBack, putBor, primD, prBin, binD, prCmp, cmpD, prIdx, prNeg, prTup, prLst, prLen, prInt1, prBool1, prStr1, prAbs1, prMin2, prMax2, prSum1, prAll1, prAny1, prSorted1, prTuple1, prList1, prIsi, prDic0, prUpper, prJoin, prDivmod, prSlcFF, prSlcTF, prSlcFT, prSlcTT, slcD, storing, litD, truD, Rs.d, evAsg, evAsgT, evPar, evSeti, evAug, evApp, evExt, evPop, evDrop, evRet, tVar', tLit', tGlob', tOp', tNot', tAnd', tOr', tIfe', tChain', evalRs, setAll, ownD, putD, putSlot, slotFree, toSl, bindT, bindT.bindTs, startE, outsOf, slotD, Sl.isOwn, isLst, itemsD, itSeq, itRng1, itRng2, fin, isiD, augD, plainSlots, wipeE, backE, ix0, ix1, ix2, range1, range2, range3, applyC, permL, er, frI, frL]
  obtain ⟨en, a7, q7, q10, q12, rfl, w7, w10, w12⟩ := for_X (rf := rfOf fns) (C := R (n + 20)) (wf := 1000) (sx := f15F2) rfl (frL ns i h7 (t - 30) a b s z X Y s7 s10 s12) (frL ns i h8 (t - 30) a b s z X Y s7 s10 s12) (xs := [.v (.lst (ds.map .int))]) (ds := [.lst (ds.map .int)]) ds D.int
    (fun _ en => ∃ q7 q10 q12, en = frL ns i h8 (t - 30) a b s z X Y q7 q10 q12 ∧ Vs q7 ∧ Vs q10 ∧ Vs q12)
    (by unfold R at e9 ⊢; simp [eVar, eLit, eGlob, eOp, eNot, eAnd, eOr, eIfe, eChain, aNil, aPeek, aVar, aLit, aGlob, aOp, aNot, aAnd, aOr, aIfe, aChain, sIfe, sAsg, sAsgT, sPar, sSeti, sAug, sApp, sExt, sPop, sDrop, sRet, sRetN, sPass, sBrk, sCont, bNil, bCons, evSeq, evIfS, evalAnd, evalOr, evalIfs, applyT, looks, look, valsOf, borOk, putBack, putBor, primD, prBin, binD, prCmp, cmpD, prIdx, prNeg, prTup, prLst, prLen, prInt1, prBool1, prStr1, prAbs1, prMin2, prMax2, prSum1, prAll1, prAny1, prSorted1, prTuple1, prList1, prIsi, prDic0, prUpper, prJoin, prDivmod, prSlcFF, prSlcTF, prSlcFT, prSlcTT, slcD, storing, litD, truD, Rs.d, evAsg, evAsgT, evPar, evSeti, evAug, evApp, evExt, evPop, evDrop, evRet, tVar', tLit', tGlob', tOp', tNot', tAnd', tOr', tIfe', tChain', evalRs, setAll, ownD, putD, putSlot, slotFree, toSl, bindT, bindT.bindTs, startE, outsOf, slotD, Sl.isOwn, isLst, itemsD, itSeq, itRng1, itRng2, fin, isiD, augD, plainSlots, wipeE, backE, ix0, ix1, ix2, range1, range2, range3, applyC, permL, rf13, e9, frL]) rfl rfl ⟨_, _, _, rfl, v7, v10, v12⟩ (by
      rintro day r en ⟨q7, q10, q12, rfl, w7, w10, w12⟩
      obtain ⟨p10, p12, e, x10, x12⟩ := law_F2 (n + 15) ns i h8 (t - 30) a b ok z hY q7 q10 q12 w7 w10 w12 day
      exact ⟨_, e, _, _, _, rfl, .v _, x10, x12⟩)
  have a8 : execS (rfOf fns) (R (n + 20)) 1000 (.ife (.op (.cmp .NotEq) [.op .repr1 [.peek 5], .peek 6]) [.ret (.lit (.bool false))] []) (frL ns i h8 (t - 30) a b s z X Y q7 q10 q12) = some (.nx, frL ns i h8 (t - 30) a b s z X Y q7 q10 q12) := by
    simp [eVar, eLit, eGlob, eOp, eNot, eAnd, eOr, eIfe, eChain, aNil, aPeek, aVar, aLit, aGlob, aOp, aNot, aAnd, aOr, aIfe, aChain, sIfe, sAsg, sAsgT, sPar, sSeti, sAug, sApp, sExt, sPop, sDrop, sRet, sRetN, sPass, sBrk, sCont, bNil, bCons, evSeq, evIfS, evalAnd, evalOr, evalIfs, applyT, looks, look, valsOf, borOk, putBack, putBor, primD, prBin, binD, prCmp, cmpD, prIdx, prNeg, prTup, prLst, prLen, prInt1, prBool1, prStr1, prAbs1, prMin2, prMax2, prSum1, prAll1, prAny1, prSorted1, prTuple1, prList1, prIsi, prDic0, prUpper, prJoin, prDivmod, prSlcFF, prSlcTF, prSlcFT, prSlcTT, slcD, storing, litD, truD, Rs.d, evAsg, evAsgT, evPar, evSeti, evAug, evApp, evExt, evPop, evDrop, evRet, tVar', tLit', tGlob', tOp', tNot', tAnd', tOr', tIfe', tChain', evalRs, setAll, ownD, putD, putSlot, slotFree, toSl, bindT, bindT.bindTs, startE, outsOf, slotD, Sl.isOwn, isLst, itemsD, itSeq, itRng1, itRng2, fin, isiD, augD, plainSlots, wipeE, backE, ix0, ix1, ix2, range1, range2, range3, applyC, permL, er, frL, eqS]
  refine ⟨h8, t - 30, a, b, s, z, X, Y, q7, q10, q12, ?_, w7, w10, w12⟩
  unfold loTurn
  rw [hb]
  exact bStep a1' (bStep a2 (bStep a3 (bStep a4 (bStep a5 (bStep a6 (bStep a7 (bStep a8 (bNil _ _ _ _))))))))
theorem tells (ns : List Int) (hl : ns.length ≤ 63) (_hb : ∀ z ∈ ns, Builtin.Int.intBits z ≤ 1048576) : runF fns 1000 61 15 [.scr ns] = some (.val (.bl true), [none]) := by
  obtain ⟨m, em, m0, m4⟩ : ∃ m : Int, (1 + if (ns.length : Int) < 2 then (ns.length : Int) else 2) = m ∧ 0 ≤ m ∧ m ≤ 6 := ⟨_, rfl, by split <;> omega, by split <;> omega⟩
  have sm : smallI m = true := by unfold smallI; simp; omega
  obtain ⟨en, e1, g⟩ := for_run (rf := rfOf fns) (C := R 60) (wf := 1000) (sx := f15F3) rfl (frI ns .emp .emp .emp .emp .emp .emp .emp .emp .emp .emp .emp) (frI ns .emp .emp .emp .emp .emp .emp .emp .emp .emp .emp .emp) (xs := [.v (.int m)]) (ds := [.int m]) (rngD 0 m)
    (fun _ en => ∃ s1 s2 s3 s4 s5 s6 s7 s8 s9 s10 s12, en = frI ns s1 s2 s3 s4 s5 s6 s7 s8 s9 s10 s12 ∧ Vs s1 ∧ Us s2 ∧ Vs s3 ∧ Us s4 ∧ Vs s5 ∧ Vs s6 ∧ Vs s7 ∧ Us s8 ∧ Us s9 ∧ Vs s10 ∧ Vs s12) (by simp [eVar, eLit, eGlob, eOp, eNot, eAnd, eOr, eIfe, eChain, aNil, aPeek, aVar, aLit, aGlob, aOp, aNot, aAnd, aOr, aIfe, aChain, sIfe, sAsg, sAsgT, sPar, sSeti, sAug, sApp, sExt, sPop, sDrop, sRet, sRetN, sPass, sBrk, sCont, bNil, bCons, evSeq, evIfS, evalAnd, evalOr, evalIfs, applyT, looks, look, valsOf, borOk, putBack, putBor, primD, prBin, binD, prCmp, cmpD, prIdx, prNeg, prTup, prLst, prLen, prInt1, prBool1, prStr1, prAbs1, prMin2, prMax2, prSum1, prAll1, prAny1, prSorted1, prTuple1, prList1, prIsi, prDic0, prUpper, prJoin, prDivmod, prSlcFF, prSlcTF, prSlcFT, prSlcTT, slcD, storing, litD, truD, Rs.d, evAsg, evAsgT, evPar, evSeti, evAug, evApp, evExt, evPop, evDrop, evRet, tVar', tLit', tGlob', tOp', tNot', tAnd', tOr', tIfe', tChain', evalRs, setAll, ownD, putD, putSlot, slotFree, toSl, bindT, bindT.bindTs, startE, outsOf, slotD, Sl.isOwn, isLst, itemsD, itSeq, itRng1, itRng2, fin, isiD, augD, plainSlots, wipeE, backE, ix0, ix1, ix2, range1, range2, range3, applyC, permL, em, frI]) rfl (by simp [eVar, eLit, eGlob, eOp, eNot, eAnd, eOr, eIfe, eChain, aNil, aPeek, aVar, aLit, aGlob, aOp, aNot, aAnd, aOr, aIfe, aChain, sIfe, sAsg, sAsgT, sPar, sSeti, sAug, sApp, sExt, sPop, sDrop, sRet, sRetN, sPass, sBrk, sCont, bNil, bCons, evSeq, evIfS, evalAnd, evalOr, evalIfs, applyT, looks, look, valsOf, borOk, putBack, putBor, primD, prBin, binD, prCmp, cmpD, prIdx, prNeg, prTup, prLst, prLen, prInt1, prBool1, prStr1, prAbs1, prMin2, prMax2, prSum1, prAll1, prAny1, prSorted1, prTuple1, prList1, prIsi, prDic0, prUpper, prJoin, prDivmod, prSlcFF, prSlcTF, prSlcFT, prSlcTT, slcD, storing, litD, truD, Rs.d, evAsg, evAsgT, evPar, evSeti, evAug, evApp, evExt, evPop, evDrop, evRet, tVar', tLit', tGlob', tOp', tNot', tAnd', tOr', tIfe', tChain', evalRs, setAll, ownD, putD, putSlot, slotFree, toSl, bindT, bindT.bindTs, startE, outsOf, slotD, Sl.isOwn, isLst, itemsD, itSeq, itRng1, itRng2, fin, isiD, augD, plainSlots, wipeE, backE, ix0, ix1, ix2, range1, range2, range3, applyC, permL, sm])
    ⟨_, _, _, _, _, _, _, _, _, _, _, rfl, .e, .e, .e, .e, .e, .e, .e, .e, .e, .e, .e⟩ (by
      intro i x en hi hp
      obtain ⟨s1, s2, s3, s4, s5, s6, s7, s8, s9, s10, s12, rfl, v1, v2, v3, v4, v5, v6, v7, v8, v9, v10, v12⟩ := hp
      obtain ⟨rfl, hlt⟩ := rngD_get hi
      obtain ⟨h, near, a, b, s, z, X, Y, q7, q10, q12, e, w7, w10, w12⟩ := law_turn 40 ns (0 + i) (by omega) (by omega) v1 v2 v3 v4 v5 v6 v7 v8 v9 v10 v12
      exact ⟨_, e, _, _, _, _, _, _, _, _, _, _, _, rfl, .v _, .o _, .v _, .v _, .v _, .v _, w7, .v _, .v _, w10, w12⟩)
  rw [show (61 : Nat) = 60 + 1 from rfl, run_fn (fd := f15) rfl rfl]
  simp [f15, eVar, eLit, eGlob, eOp, eNot, eAnd, eOr, eIfe, eChain, aNil, aPeek, aVar, aLit, aGlob, aOp, aNot, aAnd, aOr, aIfe, aChain, sIfe, sAsg, sAsgT, sPar, sSeti, sAug, sApp, sExt, sPop, sDrop, sRet, sRetN, sPass, sBrk, sCont, bNil, bCons, evSeq, evIfS, evalAnd, evalOr, evalIfs, applyT, looks, look, valsOf, borOk, putBack, putBor, primD, prBin, binD, prCmp, cmpD, prIdx, prNeg, prTup, prLst, prLen, prInt1, prBool1, prStr1, prAbs1, prMin2, prMax2, prSum1, prAll1, prAny1, prSorted1, prTuple1, prList1, prIsi, prDic0, prUpper, prJoin, prDivmod, prSlcFF, prSlcTF, prSlcFT, prSlcTT, slcD, storing, litD, truD, Rs.d, evAsg, evAsgT, evPar, evSeti, evAug, evApp, evExt, evPop, evDrop, evRet, tVar', tLit', tGlob', tOp', tNot', tAnd', tOr', tIfe', tChain', evalRs, setAll, ownD, putD, putSlot, slotFree, toSl, bindT, bindT.bindTs, startE, outsOf, slotD, Sl.isOwn, isLst, itemsD, itSeq, itRng1, itRng2, fin, isiD, augD, plainSlots, wipeE, backE, ix0, ix1, ix2, range1, range2, range3, applyC, permL, e1]
end Lk06
namespace Lk06
open PySem L2 Ofw
open PySem.Spec PyProof.Rows
theorem sc0 : FnScope ["staff", "role", "day", "hand", "held", "low", "high"] ["staff", "role", "day"] (defScope (top 1)) := ⟨rfl, rfl, rfl, by decide +kernel, rfl, by decide +kernel, by decide +kernel⟩
theorem ck0 : chkB tab ["staff", "role", "day", "hand", "held", "low", "high"] (defScope (top 1)) f0.body (defBody (top 1)) = true := by decide +kernel
theorem sc1 : FnScope ["staff", "hand", "day", "found", "one", "low", "high", "by"] ["staff", "hand", "day"] (defScope (top 2)) := ⟨rfl, rfl, rfl, by decide +kernel, rfl, by decide +kernel, by decide +kernel⟩
theorem ck1 : chkB tab ["staff", "hand", "day", "found", "one", "low", "high", "by"] (defScope (top 2)) f1.body (defBody (top 2)) = true := by decide +kernel
theorem sc2 : FnScope ["staff", "role", "day", "found", "row", "longer", "one", "hand", "by"] ["staff", "role", "day"] (defScope (top 3)) := ⟨rfl, rfl, rfl, by decide +kernel, rfl, by decide +kernel, by decide +kernel⟩
theorem ck2 : chkB tab ["staff", "role", "day", "found", "row", "longer", "one", "hand", "by"] (defScope (top 3)) f2.body (defBody (top 3)) = true := by decide +kernel
theorem sc3 : FnScope ["staff", "role", "day", "found", "hand"] ["staff", "role", "day"] (defScope (top 4)) := ⟨rfl, rfl, rfl, by decide +kernel, rfl, by decide +kernel, by decide +kernel⟩
theorem ck3 : chkB tab ["staff", "role", "day", "found", "hand"] (defScope (top 4)) f3.body (defBody (top 4)) = true := by decide +kernel
theorem sc4 : FnScope ["_law_script", "_law_k", "_law_cell", "_law_own"] ["_law_script", "_law_k"] (defScope (top 6)) := ⟨rfl, rfl, rfl, by decide +kernel, rfl, by decide +kernel, by decide +kernel⟩
theorem ck4 : chkB tab ["_law_script", "_law_k", "_law_cell", "_law_own"] (defScope (top 6)) f4.body (defBody (top 6)) = true := by decide +kernel
theorem sc5 : FnScope ["_law_hand_here", "_law_many", "_law_mixed", "_law_digit"] ["_law_hand_here", "_law_many"] (defScope (top 7)) := ⟨rfl, rfl, rfl, by decide +kernel, rfl, by decide +kernel, by decide +kernel⟩
theorem ck5 : chkB tab ["_law_hand_here", "_law_many", "_law_mixed", "_law_digit"] (defScope (top 7)) f5.body (defBody (top 7)) = true := by decide +kernel
theorem sc6 : FnScope ["_law_hand_here", "_law_some"] ["_law_hand_here", "_law_some"] (defScope (top 8)) := ⟨rfl, rfl, rfl, by decide +kernel, rfl, by decide +kernel, by decide +kernel⟩
theorem ck6 : chkB tab ["_law_hand_here", "_law_some"] (defScope (top 8)) f6.body (defBody (top 8)) = true := by decide +kernel
theorem sc7 : FnScope ["_law_hand_here", "_law_many", "_law_k", "_law_found", "_law_turn", "_law_name", "_law_letter"] ["_law_hand_here", "_law_many"] (defScope (top 9)) := ⟨rfl, rfl, rfl, by decide +kernel, rfl, by decide +kernel, by decide +kernel⟩
theorem ck7 : chkB tab ["_law_hand_here", "_law_many", "_law_k", "_law_found", "_law_turn", "_law_name", "_law_letter"] (defScope (top 9)) f7.body (defBody (top 9)) = true := by decide +kernel
theorem sc8 : FnScope ["_law_hand_here", "_law_near", "_law_low", "_law_high"] ["_law_hand_here", "_law_near"] (defScope (top 10)) := ⟨rfl, rfl, rfl, by decide +kernel, rfl, by decide +kernel, by decide +kernel⟩
theorem ck8 : chkB tab ["_law_hand_here", "_law_near", "_law_low", "_law_high"] (defScope (top 10)) f8.body (defBody (top 10)) = true := by decide +kernel
theorem sc9 : FnScope ["_law_hand_here", "_law_names_here", "_law_roles", "_law_near", "_law_sizes", "_law_k", "_law_helds", "_law_aways", "_law_low", "_law_high"] ["_law_hand_here", "_law_names_here", "_law_roles", "_law_near", "_law_sizes"] (defScope (top 11)) := ⟨rfl, rfl, rfl, by decide +kernel, rfl, by decide +kernel, by decide +kernel⟩
theorem ck9 : chkB tab ["_law_hand_here", "_law_names_here", "_law_roles", "_law_near", "_law_sizes", "_law_k", "_law_helds", "_law_aways", "_law_low", "_law_high"] (defScope (top 11)) f9.body (defBody (top 11)) = true := by decide +kernel
theorem sc10 : FnScope ["_law_folk", "_law_hand_here", "_law_date", "_law_one", "_law_low", "_law_high", "_law_by"] ["_law_folk", "_law_hand_here", "_law_date"] (defScope (top 12)) := ⟨rfl, rfl, rfl, by decide +kernel, rfl, by decide +kernel, by decide +kernel⟩
theorem ck10 : chkB tab ["_law_folk", "_law_hand_here", "_law_date", "_law_one", "_law_low", "_law_high", "_law_by"] (defScope (top 12)) f10.body (defBody (top 12)) = true := by decide +kernel
theorem sc11 : FnScope ["_law_folk", "_law_duty", "_law_date", "_law_found", "_law_many", "_law_hand_here", "_law_held", "_law_low", "_law_high", "_law_by"] ["_law_folk", "_law_duty", "_law_date"] (defScope (top 13)) := ⟨rfl, rfl, rfl, by decide +kernel, rfl, by decide +kernel, by decide +kernel⟩
theorem ck11 : chkB tab ["_law_folk", "_law_duty", "_law_date", "_law_found", "_law_many", "_law_hand_here", "_law_held", "_law_low", "_law_high", "_law_by"] (defScope (top 13)) f11.body (defBody (top 13)) = true := by decide +kernel
theorem sc12 : FnScope ["_law_folk", "_law_duty", "_law_date", "_law_hand_here"] ["_law_folk", "_law_duty", "_law_date"] (defScope (top 14)) := ⟨rfl, rfl, rfl, by decide +kernel, rfl, by decide +kernel, by decide +kernel⟩
theorem ck12 : chkB tab ["_law_folk", "_law_duty", "_law_date", "_law_hand_here"] (defScope (top 14)) f12.body (defBody (top 14)) = true := by decide +kernel
theorem sc13 : FnScope ["_law_hand_here", "_law_folk", "_law_near", "_law_found", "_law_edges", "_law_row", "_law_turn"] ["_law_hand_here", "_law_folk", "_law_near"] (defScope (top 15)) := ⟨rfl, rfl, rfl, by decide +kernel, rfl, by decide +kernel, by decide +kernel⟩
theorem ck13 : chkB tab ["_law_hand_here", "_law_folk", "_law_near", "_law_found", "_law_edges", "_law_row", "_law_turn"] (defScope (top 15)) f13.body (defBody (top 15)) = true := by decide +kernel
theorem sc14 : FnScope ["_law_found", "_law_due", "_law_one"] ["_law_found", "_law_due"] (defScope (top 16)) := ⟨rfl, rfl, rfl, by decide +kernel, rfl, by decide +kernel, by decide +kernel⟩
theorem ck14 : chkB tab ["_law_found", "_law_due", "_law_one"] (defScope (top 16)) f14.body (defBody (top 16)) = true := by decide +kernel
theorem sc15 : FnScope ["_law_script", "_law_k", "_law_hand_here", "_law_near", "_law_sizes", "_law_folk", "_law_before", "_law_date", "_law_names_here", "_law_roles", "_law_duty", "_law_turn", "_law_due"] ["_law_script"] (defScope (top 17)) := ⟨rfl, rfl, rfl, by decide +kernel, rfl, by decide +kernel, by decide +kernel⟩
theorem ck15 : chkB tab ["_law_script", "_law_k", "_law_hand_here", "_law_near", "_law_sizes", "_law_folk", "_law_before", "_law_date", "_law_names_here", "_law_roles", "_law_duty", "_law_turn", "_law_due"] (defScope (top 17)) f15.body (defBody (top 17)) = true := by decide +kernel
theorem at0 {K : PySem.W.Frag} {h : Heap} {mg : Str → Option Value} {a : Addr} {od an : Option Addr} {osl : Array (Option Value)} {oc kV doc pm cdv ct : Value} (X : K.In h) (G : h.Ns mainGlobals mg)
    (n : PySem.W.nsIn K mainGlobals "holders" = some (some (.ref a))) (l : K.lookup a = some ⟨oc, od, .func (PySem.W.fnOf "holders" "holders" (defArgs (top 1)) (defBody (top 1)) (defScope (top 1)) .none kV doc pm an cdv ct), osl⟩)
    (c : PySem.W.codeIn K cdv "holders" = true) (k : PySem.W.keepIn K (.ref a) = true) : ∃ a fd, FnAt K mg tab fns 0 "holders" a fd ["staff", "role", "day"] :=
  ⟨a, fn_at X G n l c k (fun _ _ _ _ _ _ us hl => match us, hl with | [_, _, _], _ => rfl) sc0 rfl rfl rfl ck0 (fun _ _ _ _ _ _ p (h : p ∈ ([] : List (Nat × List Str × List Nat))) => nomatch h)⟩
theorem at1 {K : PySem.W.Frag} {h : Heap} {mg : Str → Option Value} {a : Addr} {od an : Option Addr} {osl : Array (Option Value)} {oc kV doc pm cdv ct : Value} (X : K.In h) (G : h.Ns mainGlobals mg)
    (n : PySem.W.nsIn K mainGlobals "stand_ins" = some (some (.ref a))) (l : K.lookup a = some ⟨oc, od, .func (PySem.W.fnOf "stand_ins" "stand_ins" (defArgs (top 2)) (defBody (top 2)) (defScope (top 2)) .none kV doc pm an cdv ct), osl⟩)
    (c : PySem.W.codeIn K cdv "stand_ins" = true) (k : PySem.W.keepIn K (.ref a) = true) : ∃ a fd, FnAt K mg tab fns 1 "stand_ins" a fd ["staff", "hand", "day"] :=
  ⟨a, fn_at X G n l c k (fun _ _ _ _ _ _ us hl => match us, hl with | [_, _, _], _ => rfl) sc1 rfl rfl rfl ck1 (fun _ _ _ _ _ _ p (h : p ∈ ([] : List (Nat × List Str × List Nat))) => nomatch h)⟩
theorem at2 {K : PySem.W.Frag} {h : Heap} {mg : Str → Option Value} {a : Addr} {od an : Option Addr} {osl : Array (Option Value)} {oc kV doc pm cdv ct : Value} (X : K.In h) (G : h.Ns mainGlobals mg)
    (n : PySem.W.nsIn K mainGlobals "shortest_ways" = some (some (.ref a))) (l : K.lookup a = some ⟨oc, od, .func (PySem.W.fnOf "shortest_ways" "shortest_ways" (defArgs (top 3)) (defBody (top 3)) (defScope (top 3)) .none kV doc pm an cdv ct), osl⟩)
    (c : PySem.W.codeIn K cdv "shortest_ways" = true) (k : PySem.W.keepIn K (.ref a) = true) : ∃ a fd, FnAt K mg tab fns 2 "shortest_ways" a fd ["staff", "role", "day"] :=
  ⟨a, fn_at X G n l c k (fun _ _ _ _ _ _ us hl => match us, hl with | [_, _, _], _ => rfl) sc2 rfl rfl rfl ck2 (fun _ _ _ _ _ _ p (h : p ∈ ([] : List (Nat × List Str × List Nat))) => nomatch h)⟩
theorem at3 {K : PySem.W.Frag} {h : Heap} {mg : Str → Option Value} {a : Addr} {od an : Option Addr} {osl : Array (Option Value)} {oc kV doc pm cdv ct : Value} (X : K.In h) (G : h.Ns mainGlobals mg)
    (n : PySem.W.nsIn K mainGlobals "acting" = some (some (.ref a))) (l : K.lookup a = some ⟨oc, od, .func (PySem.W.fnOf "acting" "acting" (defArgs (top 4)) (defBody (top 4)) (defScope (top 4)) .none kV doc pm an cdv ct), osl⟩)
    (c : PySem.W.codeIn K cdv "acting" = true) (k : PySem.W.keepIn K (.ref a) = true) : ∃ a fd, FnAt K mg tab fns 3 "acting" a fd ["staff", "role", "day"] :=
  ⟨a, fn_at X G n l c k (fun _ _ _ _ _ _ us hl => match us, hl with | [_, _, _], _ => rfl) sc3 rfl rfl rfl ck3 (fun kV doc pm an cdv ct p h => Each.mem (p := fun (p : Nat × List Str × List Nat) => ∀ us ws : List Value, us.length = p.1 → ws.length = p.2.1.length → ∃ zs, permL p.2.2 (us ++ ws) = some zs ∧ bindArgs (PySem.W.fnOf "acting" "acting" (defArgs (top 4)) (defBody (top 4)) (defScope (top 4)) .none kV doc pm an cdv ct) ⟨us, p.2.1.zip ws⟩ = pure (List.zip (["staff", "role", "day"] : List Str) zs)) (l := [(0, ["day", "role", "staff"], [2, 1, 0])]) ⟨(fun us ws h1 h2 => match us, ws, h1, h2 with | [], [_, _, _], _, _ => ⟨_, rfl, rfl⟩), trivial⟩ h)⟩
theorem at4 {K : PySem.W.Frag} {h : Heap} {mg : Str → Option Value} {a : Addr} {od an : Option Addr} {osl : Array (Option Value)} {oc kV doc pm cdv ct : Value} (X : K.In h) (G : h.Ns mainGlobals mg)
    (n : PySem.W.nsIn K mainGlobals "_law_hand" = some (some (.ref a))) (l : K.lookup a = some ⟨oc, od, .func (PySem.W.fnOf "_law_hand" "_law_hand" (defArgs (top 6)) (defBody (top 6)) (defScope (top 6)) .none kV doc pm an cdv ct), osl⟩)
    (c : PySem.W.codeIn K cdv "_law_hand" = true) (k : PySem.W.keepIn K (.ref a) = true) : ∃ a fd, FnAt K mg tab fns 4 "_law_hand" a fd ["_law_script", "_law_k"] :=
  ⟨a, fn_at X G n l c k (fun _ _ _ _ _ _ us hl => match us, hl with | [_, _], _ => rfl) sc4 rfl rfl rfl ck4 (fun _ _ _ _ _ _ p (h : p ∈ ([] : List (Nat × List Str × List Nat))) => nomatch h)⟩
theorem at5 {K : PySem.W.Frag} {h : Heap} {mg : Str → Option Value} {a : Addr} {od an : Option Addr} {osl : Array (Option Value)} {oc kV doc pm cdv ct : Value} (X : K.In h) (G : h.Ns mainGlobals mg)
    (n : PySem.W.nsIn K mainGlobals "_law_take" = some (some (.ref a))) (l : K.lookup a = some ⟨oc, od, .func (PySem.W.fnOf "_law_take" "_law_take" (defArgs (top 7)) (defBody (top 7)) (defScope (top 7)) .none kV doc pm an cdv ct), osl⟩)
    (c : PySem.W.codeIn K cdv "_law_take" = true) (k : PySem.W.keepIn K (.ref a) = true) : ∃ a fd, FnAt K mg tab fns 5 "_law_take" a fd ["_law_hand_here", "_law_many"] :=
  ⟨a, fn_at X G n l c k (fun _ _ _ _ _ _ us hl => match us, hl with | [_, _], _ => rfl) sc5 rfl rfl rfl ck5 (fun _ _ _ _ _ _ p (h : p ∈ ([] : List (Nat × List Str × List Nat))) => nomatch h)⟩
theorem at6 {K : PySem.W.Frag} {h : Heap} {mg : Str → Option Value} {a : Addr} {od an : Option Addr} {osl : Array (Option Value)} {oc kV doc pm cdv ct : Value} (X : K.In h) (G : h.Ns mainGlobals mg)
    (n : PySem.W.nsIn K mainGlobals "_law_of" = some (some (.ref a))) (l : K.lookup a = some ⟨oc, od, .func (PySem.W.fnOf "_law_of" "_law_of" (defArgs (top 8)) (defBody (top 8)) (defScope (top 8)) .none kV doc pm an cdv ct), osl⟩)
    (c : PySem.W.codeIn K cdv "_law_of" = true) (k : PySem.W.keepIn K (.ref a) = true) : ∃ a fd, FnAt K mg tab fns 6 "_law_of" a fd ["_law_hand_here", "_law_some"] :=
  ⟨a, fn_at X G n l c k (fun _ _ _ _ _ _ us hl => match us, hl with | [_, _], _ => rfl) sc6 rfl rfl rfl ck6 (fun _ _ _ _ _ _ p (h : p ∈ ([] : List (Nat × List Str × List Nat))) => nomatch h)⟩
theorem at7 {K : PySem.W.Frag} {h : Heap} {mg : Str → Option Value} {a : Addr} {od an : Option Addr} {osl : Array (Option Value)} {oc kV doc pm cdv ct : Value} (X : K.In h) (G : h.Ns mainGlobals mg)
    (n : PySem.W.nsIn K mainGlobals "_law_names" = some (some (.ref a))) (l : K.lookup a = some ⟨oc, od, .func (PySem.W.fnOf "_law_names" "_law_names" (defArgs (top 9)) (defBody (top 9)) (defScope (top 9)) .none kV doc pm an cdv ct), osl⟩)
    (c : PySem.W.codeIn K cdv "_law_names" = true) (k : PySem.W.keepIn K (.ref a) = true) : ∃ a fd, FnAt K mg tab fns 7 "_law_names" a fd ["_law_hand_here", "_law_many"] :=
  ⟨a, fn_at X G n l c k (fun _ _ _ _ _ _ us hl => match us, hl with | [_, _], _ => rfl) sc7 rfl rfl rfl ck7 (fun _ _ _ _ _ _ p (h : p ∈ ([] : List (Nat × List Str × List Nat))) => nomatch h)⟩
theorem at8 {K : PySem.W.Frag} {h : Heap} {mg : Str → Option Value} {a : Addr} {od an : Option Addr} {osl : Array (Option Value)} {oc kV doc pm cdv ct : Value} (X : K.In h) (G : h.Ns mainGlobals mg)
    (n : PySem.W.nsIn K mainGlobals "_law_span" = some (some (.ref a))) (l : K.lookup a = some ⟨oc, od, .func (PySem.W.fnOf "_law_span" "_law_span" (defArgs (top 10)) (defBody (top 10)) (defScope (top 10)) .none kV doc pm an cdv ct), osl⟩)
    (c : PySem.W.codeIn K cdv "_law_span" = true) (k : PySem.W.keepIn K (.ref a) = true) : ∃ a fd, FnAt K mg tab fns 8 "_law_span" a fd ["_law_hand_here", "_law_near"] :=
  ⟨a, fn_at X G n l c k (fun _ _ _ _ _ _ us hl => match us, hl with | [_, _], _ => rfl) sc8 rfl rfl rfl ck8 (fun _ _ _ _ _ _ p (h : p ∈ ([] : List (Nat × List Str × List Nat))) => nomatch h)⟩
theorem at9 {K : PySem.W.Frag} {h : Heap} {mg : Str → Option Value} {a : Addr} {od an : Option Addr} {osl : Array (Option Value)} {oc kV doc pm cdv ct : Value} (X : K.In h) (G : h.Ns mainGlobals mg)
    (n : PySem.W.nsIn K mainGlobals "_law_staff" = some (some (.ref a))) (l : K.lookup a = some ⟨oc, od, .func (PySem.W.fnOf "_law_staff" "_law_staff" (defArgs (top 11)) (defBody (top 11)) (defScope (top 11)) .none kV doc pm an cdv ct), osl⟩)
    (c : PySem.W.codeIn K cdv "_law_staff" = true) (k : PySem.W.keepIn K (.ref a) = true) : ∃ a fd, FnAt K mg tab fns 9 "_law_staff" a fd ["_law_hand_here", "_law_names_here", "_law_roles", "_law_near", "_law_sizes"] :=
  ⟨a, fn_at X G n l c k (fun _ _ _ _ _ _ us hl => match us, hl with | [_, _, _, _, _], _ => rfl) sc9 rfl rfl rfl ck9 (fun _ _ _ _ _ _ p (h : p ∈ ([] : List (Nat × List Str × List Nat))) => nomatch h)⟩
theorem at10 {K : PySem.W.Frag} {h : Heap} {mg : Str → Option Value} {a : Addr} {od an : Option Addr} {osl : Array (Option Value)} {oc kV doc pm cdv ct : Value} (X : K.In h) (G : h.Ns mainGlobals mg)
    (n : PySem.W.nsIn K mainGlobals "_law_bys" = some (some (.ref a))) (l : K.lookup a = some ⟨oc, od, .func (PySem.W.fnOf "_law_bys" "_law_bys" (defArgs (top 12)) (defBody (top 12)) (defScope (top 12)) .none kV doc pm an cdv ct), osl⟩)
    (c : PySem.W.codeIn K cdv "_law_bys" = true) (k : PySem.W.keepIn K (.ref a) = true) : ∃ a fd, FnAt K mg tab fns 10 "_law_bys" a fd ["_law_folk", "_law_hand_here", "_law_date"] :=
  ⟨a, fn_at X G n l c k (fun _ _ _ _ _ _ us hl => match us, hl with | [_, _, _], _ => rfl) sc10 rfl rfl rfl ck10 (fun _ _ _ _ _ _ p (h : p ∈ ([] : List (Nat × List Str × List Nat))) => nomatch h)⟩
theorem at11 {K : PySem.W.Frag} {h : Heap} {mg : Str → Option Value} {a : Addr} {od an : Option Addr} {osl : Array (Option Value)} {oc kV doc pm cdv ct : Value} (X : K.In h) (G : h.Ns mainGlobals mg)
    (n : PySem.W.nsIn K mainGlobals "_law_reached" = some (some (.ref a))) (l : K.lookup a = some ⟨oc, od, .func (PySem.W.fnOf "_law_reached" "_law_reached" (defArgs (top 13)) (defBody (top 13)) (defScope (top 13)) .none kV doc pm an cdv ct), osl⟩)
    (c : PySem.W.codeIn K cdv "_law_reached" = true) (k : PySem.W.keepIn K (.ref a) = true) : ∃ a fd, FnAt K mg tab fns 11 "_law_reached" a fd ["_law_folk", "_law_duty", "_law_date"] :=
  ⟨a, fn_at X G n l c k (fun _ _ _ _ _ _ us hl => match us, hl with | [_, _, _], _ => rfl) sc11 rfl rfl rfl ck11 (fun _ _ _ _ _ _ p (h : p ∈ ([] : List (Nat × List Str × List Nat))) => nomatch h)⟩
theorem at12 {K : PySem.W.Frag} {h : Heap} {mg : Str → Option Value} {a : Addr} {od an : Option Addr} {osl : Array (Option Value)} {oc kV doc pm cdv ct : Value} (X : K.In h) (G : h.Ns mainGlobals mg)
    (n : PySem.W.nsIn K mainGlobals "_law_acting" = some (some (.ref a))) (l : K.lookup a = some ⟨oc, od, .func (PySem.W.fnOf "_law_acting" "_law_acting" (defArgs (top 14)) (defBody (top 14)) (defScope (top 14)) .none kV doc pm an cdv ct), osl⟩)
    (c : PySem.W.codeIn K cdv "_law_acting" = true) (k : PySem.W.keepIn K (.ref a) = true) : ∃ a fd, FnAt K mg tab fns 12 "_law_acting" a fd ["_law_folk", "_law_duty", "_law_date"] :=
  ⟨a, fn_at X G n l c k (fun _ _ _ _ _ _ us hl => match us, hl with | [_, _, _], _ => rfl) sc12 rfl rfl rfl ck12 (fun _ _ _ _ _ _ p (h : p ∈ ([] : List (Nat × List Str × List Nat))) => nomatch h)⟩
theorem at13 {K : PySem.W.Frag} {h : Heap} {mg : Str → Option Value} {a : Addr} {od an : Option Addr} {osl : Array (Option Value)} {oc kV doc pm cdv ct : Value} (X : K.In h) (G : h.Ns mainGlobals mg)
    (n : PySem.W.nsIn K mainGlobals "_law_days" = some (some (.ref a))) (l : K.lookup a = some ⟨oc, od, .func (PySem.W.fnOf "_law_days" "_law_days" (defArgs (top 15)) (defBody (top 15)) (defScope (top 15)) .none kV doc pm an cdv ct), osl⟩)
    (c : PySem.W.codeIn K cdv "_law_days" = true) (k : PySem.W.keepIn K (.ref a) = true) : ∃ a fd, FnAt K mg tab fns 13 "_law_days" a fd ["_law_hand_here", "_law_folk", "_law_near"] :=
  ⟨a, fn_at X G n l c k (fun _ _ _ _ _ _ us hl => match us, hl with | [_, _, _], _ => rfl) sc13 rfl rfl rfl ck13 (fun _ _ _ _ _ _ p (h : p ∈ ([] : List (Nat × List Str × List Nat))) => nomatch h)⟩
theorem at14 {K : PySem.W.Frag} {h : Heap} {mg : Str → Option Value} {a : Addr} {od an : Option Addr} {osl : Array (Option Value)} {oc kV doc pm cdv ct : Value} (X : K.In h) (G : h.Ns mainGlobals mg)
    (n : PySem.W.nsIn K mainGlobals "_law_same" = some (some (.ref a))) (l : K.lookup a = some ⟨oc, od, .func (PySem.W.fnOf "_law_same" "_law_same" (defArgs (top 16)) (defBody (top 16)) (defScope (top 16)) .none kV doc pm an cdv ct), osl⟩)
    (c : PySem.W.codeIn K cdv "_law_same" = true) (k : PySem.W.keepIn K (.ref a) = true) : ∃ a fd, FnAt K mg tab fns 14 "_law_same" a fd ["_law_found", "_law_due"] :=
  ⟨a, fn_at X G n l c k (fun _ _ _ _ _ _ us hl => match us, hl with | [_, _], _ => rfl) sc14 rfl rfl rfl ck14 (fun _ _ _ _ _ _ p (h : p ∈ ([] : List (Nat × List Str × List Nat))) => nomatch h)⟩
theorem at15 {K : PySem.W.Frag} {h : Heap} {mg : Str → Option Value} {a : Addr} {od an : Option Addr} {osl : Array (Option Value)} {oc kV doc pm cdv ct : Value} (X : K.In h) (G : h.Ns mainGlobals mg)
    (n : PySem.W.nsIn K mainGlobals "law" = some (some (.ref a))) (l : K.lookup a = some ⟨oc, od, .func (PySem.W.fnOf "law" "law" (defArgs (top 17)) (defBody (top 17)) (defScope (top 17)) .none kV doc pm an cdv ct), osl⟩)
    (c : PySem.W.codeIn K cdv "law" = true) (k : PySem.W.keepIn K (.ref a) = true) : ∃ a fd, FnAt K mg tab fns 15 "law" a fd ["_law_script"] :=
  ⟨a, fn_at X G n l c k (fun _ _ _ _ _ _ us hl => match us, hl with | [_], _ => rfl) sc15 rfl rfl rfl ck15 (fun _ _ _ _ _ _ p (h : p ∈ ([] : List (Nat × List Str × List Nat))) => nomatch h)⟩
structure Txt (K : PySem.W.Frag) (mg : Str → Option Value) : Prop where
  d0 : ∃ a fd, FnAt K mg tab fns 0 "holders" a fd ["staff", "role", "day"]
  d1 : ∃ a fd, FnAt K mg tab fns 1 "stand_ins" a fd ["staff", "hand", "day"]
  d2 : ∃ a fd, FnAt K mg tab fns 2 "shortest_ways" a fd ["staff", "role", "day"]
  d3 : ∃ a fd, FnAt K mg tab fns 3 "acting" a fd ["staff", "role", "day"]
  d4 : ∃ a fd, FnAt K mg tab fns 4 "_law_hand" a fd ["_law_script", "_law_k"]
  d5 : ∃ a fd, FnAt K mg tab fns 5 "_law_take" a fd ["_law_hand_here", "_law_many"]
  d6 : ∃ a fd, FnAt K mg tab fns 6 "_law_of" a fd ["_law_hand_here", "_law_some"]
  d7 : ∃ a fd, FnAt K mg tab fns 7 "_law_names" a fd ["_law_hand_here", "_law_many"]
  d8 : ∃ a fd, FnAt K mg tab fns 8 "_law_span" a fd ["_law_hand_here", "_law_near"]
  d9 : ∃ a fd, FnAt K mg tab fns 9 "_law_staff" a fd ["_law_hand_here", "_law_names_here", "_law_roles", "_law_near", "_law_sizes"]
  d10 : ∃ a fd, FnAt K mg tab fns 10 "_law_bys" a fd ["_law_folk", "_law_hand_here", "_law_date"]
  d11 : ∃ a fd, FnAt K mg tab fns 11 "_law_reached" a fd ["_law_folk", "_law_duty", "_law_date"]
  d12 : ∃ a fd, FnAt K mg tab fns 12 "_law_acting" a fd ["_law_folk", "_law_duty", "_law_date"]
  d13 : ∃ a fd, FnAt K mg tab fns 13 "_law_days" a fd ["_law_hand_here", "_law_folk", "_law_near"]
  d14 : ∃ a fd, FnAt K mg tab fns 14 "_law_same" a fd ["_law_found", "_law_due"]
  d15 : ∃ a fd, FnAt K mg tab fns 15 "law" a fd ["_law_script"]
  b : Each (fun x => mg x = none) blts
theorem fns_ok {K : PySem.W.Frag} {mg : Str → Option Value} (t : Txt K mg) (x : Str) (g : Nat) (e : tab.fn x = some g) : ∃ a fd prs, FnAt K mg tab fns g x a fd prs :=
  Each.lookup (p := fun p => ∃ a fd prs, FnAt K mg tab fns p.2 p.1 a fd prs) (l := tbl) ⟨(let ⟨a, fd, F⟩ := t.d0; ⟨a, fd, _, F⟩), (let ⟨a, fd, F⟩ := t.d1; ⟨a, fd, _, F⟩), (let ⟨a, fd, F⟩ := t.d2; ⟨a, fd, _, F⟩), (let ⟨a, fd, F⟩ := t.d3; ⟨a, fd, _, F⟩), (let ⟨a, fd, F⟩ := t.d4; ⟨a, fd, _, F⟩), (let ⟨a, fd, F⟩ := t.d5; ⟨a, fd, _, F⟩), (let ⟨a, fd, F⟩ := t.d6; ⟨a, fd, _, F⟩), (let ⟨a, fd, F⟩ := t.d7; ⟨a, fd, _, F⟩), (let ⟨a, fd, F⟩ := t.d8; ⟨a, fd, _, F⟩), (let ⟨a, fd, F⟩ := t.d9; ⟨a, fd, _, F⟩), (let ⟨a, fd, F⟩ := t.d10; ⟨a, fd, _, F⟩), (let ⟨a, fd, F⟩ := t.d11; ⟨a, fd, _, F⟩), (let ⟨a, fd, F⟩ := t.d12; ⟨a, fd, _, F⟩), (let ⟨a, fd, F⟩ := t.d13; ⟨a, fd, _, F⟩), (let ⟨a, fd, F⟩ := t.d14; ⟨a, fd, _, F⟩), (let ⟨a, fd, F⟩ := t.d15; ⟨a, fd, _, F⟩), trivial⟩ e
theorem csts_ok {K : PySem.W.Frag} {mg : Str → Option Value} (t : Txt K mg) : ∀ (x : Str) (c : Const), tab.cst x = some c → ∃ u, mg x = some u ∧ match c with
      | .int i => ∃ t, u = .int i t
      | .str s => ∃ t, u = .str s t
      | .bool b => u = .bool b
      | _ => False := by
  intro x c e
  cases e
theorem walk {l : PySem.W.OpenLaw} {q : Program} {loose : List Str} {XP : (Str → Option Value) → Heap → Prop} {YP : World → Heap → Prop} {d : DefRec} {K : Params → PySem.W.Frag} (hn : l.most = some 63) (hdf : d.params.defaults = []) (hd : d.name = "law")
    (hY : ∀ (w : World) (h : Heap), YP w h → (K w.params).In h) (F : ∀ (w : World) (mg : Str → Option Value) (h : Heap), (K w.params).In h → h.Ns mainGlobals mg → Txt (K w.params) mg) :
    PySem.W.WalkO q loose XP YP l.row.toRowW d [] (fun f vs => PySem.call f vs) := by
  refine walk_run (T := tab) (ps := fns) (wf := 1000) (kk := 61) (f := 15) (px := "_law_script") hn hdf ⟨rfl, by decide, by decide⟩ hY rfl (fun w mg fa h X G e => ?_) tells
  have t := F w mg h X G
  refine ⟨?_, fns_ok t, fun x hx => Each.mem (p := fun x => mg x = none) (l := blts) t.b (List.contains_iff_mem.mp hx), csts_ok t⟩
  obtain ⟨a, fd, A⟩ := t.d15
  rw [hd] at e ⊢
  have := A.mg.symm.trans e
  cases this
  exact ⟨fd, A⟩
end Lk06
open PySem PySem.W PyProof.Rows
set_option maxRecDepth 100000 in
set_option maxHeartbeats 0 in
theorem PySem.Challenge.cw_officewords_k06_acting_reached_holds : PySem.Challenge.rw_officewords_k06_acting_reached.Holds := by
  w_on; o_law; k_head; (case hw => w_witness2)
  k_fill
  refine Lk06.walk (l := PySem.Challenge.rw_officewords_k06_acting_reached) rfl rfl rfl (fun w h Y => PySem.W.kIn_of Y) ?F
  case F =>
    intro w mg h KX G
    refine Lk06.Txt.mk ?d0 ?d1 ?d2 ?d3 ?d4 ?d5 ?d6 ?d7 ?d8 ?d9 ?d10 ?d11 ?d12 ?d13 ?d14 ?d15 ?b 
    case d0 =>
      refine' Lk06.at0 KX G ?n0 ?l0 ?e0 ?k0; (case n0 => k_is); (case l0 => k_is); (case e0 => k_is); (case k0 => k_is)
    case d1 =>
      refine' Lk06.at1 KX G ?n1 ?l1 ?e1 ?k1; (case n1 => k_is); (case l1 => k_is); (case e1 => k_is); (case k1 => k_is)
    case d2 =>
      refine' Lk06.at2 KX G ?n2 ?l2 ?e2 ?k2; (case n2 => k_is); (case l2 => k_is); (case e2 => k_is); (case k2 => k_is)
    case d3 =>
      refine' Lk06.at3 KX G ?n3 ?l3 ?e3 ?k3; (case n3 => k_is); (case l3 => k_is); (case e3 => k_is); (case k3 => k_is)
    case d4 =>
      refine' Lk06.at4 KX G ?n4 ?l4 ?e4 ?k4; (case n4 => k_is); (case l4 => k_is); (case e4 => k_is); (case k4 => k_is)
    case d5 =>
      refine' Lk06.at5 KX G ?n5 ?l5 ?e5 ?k5; (case n5 => k_is); (case l5 => k_is); (case e5 => k_is); (case k5 => k_is)
    case d6 =>
      refine' Lk06.at6 KX G ?n6 ?l6 ?e6 ?k6; (case n6 => k_is); (case l6 => k_is); (case e6 => k_is); (case k6 => k_is)
    case d7 =>
      refine' Lk06.at7 KX G ?n7 ?l7 ?e7 ?k7; (case n7 => k_is); (case l7 => k_is); (case e7 => k_is); (case k7 => k_is)
    case d8 =>
      refine' Lk06.at8 KX G ?n8 ?l8 ?e8 ?k8; (case n8 => k_is); (case l8 => k_is); (case e8 => k_is); (case k8 => k_is)
    case d9 =>
      refine' Lk06.at9 KX G ?n9 ?l9 ?e9 ?k9; (case n9 => k_is); (case l9 => k_is); (case e9 => k_is); (case k9 => k_is)
    case d10 =>
      refine' Lk06.at10 KX G ?n10 ?l10 ?e10 ?k10; (case n10 => k_is); (case l10 => k_is); (case e10 => k_is); (case k10 => k_is)
    case d11 =>
      refine' Lk06.at11 KX G ?n11 ?l11 ?e11 ?k11; (case n11 => k_is); (case l11 => k_is); (case e11 => k_is); (case k11 => k_is)
    case d12 =>
      refine' Lk06.at12 KX G ?n12 ?l12 ?e12 ?k12; (case n12 => k_is); (case l12 => k_is); (case e12 => k_is); (case k12 => k_is)
    case d13 =>
      refine' Lk06.at13 KX G ?n13 ?l13 ?e13 ?k13; (case n13 => k_is); (case l13 => k_is); (case e13 => k_is); (case k13 => k_is)
    case d14 =>
      refine' Lk06.at14 KX G ?n14 ?l14 ?e14 ?k14; (case n14 => k_is); (case l14 => k_is); (case e14 => k_is); (case k14 => k_is)
    case d15 =>
      refine' Lk06.at15 KX G ?n15 ?l15 ?e15 ?k15; (case n15 => k_is); (case l15 => k_is); (case e15 => k_is); (case k15 => k_is)
    case b =>
      refine ⟨PySem.W.mg_none_of KX G ?z0, PySem.W.mg_none_of KX G ?z1, PySem.W.mg_none_of KX G ?z2, PySem.W.mg_none_of KX G ?z3, PySem.W.mg_none_of KX G ?z4, PySem.W.mg_none_of KX G ?z5, PySem.W.mg_none_of KX G ?z6, PySem.W.mg_none_of KX G ?z7, PySem.W.mg_none_of KX G ?z8, PySem.W.mg_none_of KX G ?z9, PySem.W.mg_none_of KX G ?z10, PySem.W.mg_none_of KX G ?z11, PySem.W.mg_none_of KX G ?z12, trivial⟩
      (case z0 => k_is)
      (case z1 => k_is)
      (case z2 => k_is)
      (case z3 => k_is)
      (case z4 => k_is)
      (case z5 => k_is)
      (case z6 => k_is)
      (case z7 => k_is)
      (case z8 => k_is)
      (case z9 => k_is)
      (case z10 => k_is)
      (case z11 => k_is)
      (case z12 => k_is)
