import PyProof.Rows.All
import Wide.All
import OpenK.AllK
import Wide.FinOn
import HandS.ForMost
import HandS.ForExc
import HandS.Style
import HandS.Wide
import HandS.Flow
import HandS.IsInst
import HandS.Deep
import HandS.More
import HandS.TupLen
import PySem.Challenge.RW_feastfall_k03_the_higher_of_two
set_option Elab.async false
set_option linter.all false
set_option maxRecDepth 100000
/-! DL, part 1: values as trees, slots, what a heap bears of them -/
namespace DL
open PySem PySem.Spec PyProof.Rows L2

/-- a value as a tree -/
inductive D where
  | non | bl (b : Bool) | int (i : Int) | str (s : Str)
  | tup (ds : List D) | lst (ds : List D)
  | dk (kds : List (L2.Key × D)) | dt (kds : List (List L2.Key × D))

mutual
/-- the value v is, in the heap S, the tree d -/
inductive Rep (K : PySem.W.Frag) (S : Hp) : V → D → Prop
  | non : Rep K S .non .non
  | bl {b : Bool} : Rep K S (.bl b) (.bl b)
  | int {i : Int} : Rep K S (.int i) (.int i)
  | str {s : Str} : Rep K S (.str s) (.str s)
  | tup {a : Addr} {vs : List V} {ds : List D} : S a = some (.tup vs) → Reps K S vs ds → Rep K S (.ref a) (.tup ds)
  | lst {a : Addr} {vs : List V} {ds : List D} : SqL K S a vs → Reps K S vs ds → Rep K S (.ref a) (.lst ds)
  | dk {a : Addr} {kvs : List (L2.Key × V)} {kds : List (L2.Key × D)} : Rd S a (.dK kvs) → kvs.map Prod.fst = kds.map Prod.fst →
      Reps K S (kvs.map Prod.snd) (kds.map Prod.snd) → Rep K S (.ref a) (.dk kds)
  | dt {a : Addr} {kvs : List (List L2.Key × V)} {kds : List (List L2.Key × D)} : S a = some (.dT kvs) → kvs.map Prod.fst = kds.map Prod.fst →
      Reps K S (kvs.map Prod.snd) (kds.map Prod.snd) → Rep K S (.ref a) (.dt kds)
inductive Reps (K : PySem.W.Frag) (S : Hp) : List V → List D → Prop
  | nil : Reps K S [] []
  | cons {v : V} {d : D} {vs : List V} {ds : List D} : Rep K S v d → Reps K S vs ds → Reps K S (v :: vs) (d :: ds)
end

section
variable {K : PySem.W.Frag} {S S' H : Hp}
theorem rd_mono {a : Addr} {u : HO} (e : Same S S') (h : Rd S a u) : Rd S' a u := by
  rcases h with h | ⟨o, h⟩
  · exact .inl (e _ _ h)
  · exact .inr ⟨o, e _ _ h⟩
theorem sqT_mono {a : Addr} {xs : List V} (e : Same S S') (h : SqT K S a xs) : SqT K S' a xs := by
  rcases h with h | h
  · exact .inl (rd_mono e h)
  · exact .inr h
theorem sqL_mono {a : Addr} {xs : List V} (e : Same S S') (h : SqL K S a xs) : SqL K S' a xs := e.seq h
mutual
theorem Rep.mono (e : Same S S') : ∀ {v : V} {d : D}, Rep K S v d → Rep K S' v d
  | _, _, .non => .non
  | _, _, .bl => .bl
  | _, _, .int => .int
  | _, _, .str => .str
  | _, _, .tup h r => .tup (e _ _ h) (Reps.mono e r)
  | _, _, .lst h r => .lst (sqL_mono e h) (Reps.mono e r)
  | _, _, .dk h k r => .dk (rd_mono e h) k (Reps.mono e r)
  | _, _, .dt h k r => .dt (e _ _ h) k (Reps.mono e r)
theorem Reps.mono (e : Same S S') : ∀ {vs : List V} {ds : List D}, Reps K S vs ds → Reps K S' vs ds
  | _, _, .nil => .nil
  | _, _, .cons h r => .cons (Rep.mono e h) (Reps.mono e r)
end
theorem Reps.len : ∀ {vs : List V} {ds : List D}, Reps K S vs ds → vs.length = ds.length
  | _, _, .nil => rfl
  | _, _, .cons _ r => congrArg (· + 1) (Reps.len r)
theorem Reps.get : ∀ {vs : List V} {ds : List D} {i : Nat} {d : D}, Reps K S vs ds → ds[i]? = some d → ∃ v, vs[i]? = some v ∧ Rep K S v d
  | _, _, i, d, .nil, h => by simp at h
  | _, _, 0, d, .cons r _, h => by
    simp at h; subst h
    exact ⟨_, rfl, r⟩
  | _, _, i + 1, d, .cons _ r, h => by
    obtain ⟨v, h1, h2⟩ := Reps.get (i := i) (d := d) r (by simpa using h)
    exact ⟨v, by simpa using h1, h2⟩
theorem Reps.getV : ∀ {vs : List V} {ds : List D} {i : Nat} {v : V}, Reps K S vs ds → vs[i]? = some v → ∃ d, ds[i]? = some d ∧ Rep K S v d
  | _, _, i, d, .nil, h => by simp at h
  | _, _, 0, d, .cons r _, h => by
    simp at h; subst h
    exact ⟨_, rfl, r⟩
  | _, _, i + 1, d, .cons _ r, h => by
    obtain ⟨v, h1, h2⟩ := Reps.getV (i := i) (v := d) r (by simpa using h)
    exact ⟨v, by simpa using h1, h2⟩
theorem Reps.app : ∀ {vs ws : List V} {ds es : List D}, Reps K S vs ds → Reps K S ws es → Reps K S (vs ++ ws) (ds ++ es)
  | _, _, _, _, .nil, r => r
  | _, _, _, _, .cons h t, r => .cons h (Reps.app t r)
theorem Reps.take : ∀ {vs : List V} {ds : List D} (n : Nat), Reps K S vs ds → Reps K S (vs.take n) (ds.take n)
  | _, _, 0, _ => by simpa using Reps.nil
  | _, _, _ + 1, .nil => by simpa using Reps.nil
  | _, _, n + 1, .cons h r => .cons h (Reps.take n r)
theorem Reps.drop : ∀ {vs : List V} {ds : List D} (n : Nat), Reps K S vs ds → Reps K S (vs.drop n) (ds.drop n)
  | _, _, 0, r => r
  | _, _, _ + 1, .nil => .nil
  | _, _, n + 1, .cons _ r => Reps.drop n r
theorem Reps.rev : ∀ {vs : List V} {ds : List D}, Reps K S vs ds → Reps K S vs.reverse ds.reverse
  | _, _, .nil => .nil
  | _, _, .cons h r => by
    rw [List.reverse_cons, List.reverse_cons]
    exact Reps.app (Reps.rev r) (.cons h .nil)
theorem Reps.set : ∀ {vs : List V} {ds : List D} {v : V} {d : D} (i : Nat), Reps K S vs ds → Rep K S v d → Reps K S (vs.set i v) (ds.set i d)
  | _, _, _, _, _, .nil, _ => .nil
  | _, _, _, _, 0, .cons _ r, q => .cons q r
  | _, _, _, _, i + 1, .cons h r, q => .cons h (Reps.set i r q)
theorem Reps.erase : ∀ {vs : List V} {ds : List D} (i : Nat), Reps K S vs ds → Reps K S (vs.eraseIdx i) (ds.eraseIdx i)
  | _, _, _, .nil => .nil
  | _, _, 0, .cons _ r => r
  | _, _, i + 1, .cons h r => .cons h (Reps.erase i r)
theorem Reps.dropLast {vs : List V} {ds : List D} (h : Reps K S vs ds) : Reps K S vs.dropLast ds.dropLast := by
  rw [List.dropLast_eq_take, List.dropLast_eq_take, h.len]
  exact h.take _
theorem Reps.ints : ∀ {vs : List V} {ns : List Int}, Reps K S vs (ns.map D.int) → vs = ns.map V.int
  | _, [], .nil => rfl
  | _, n :: ns, .cons h r => by
    cases h
    rw [Reps.ints r]; rfl
theorem Reps.ofInts : ∀ (ns : List Int), Reps K S (ns.map V.int) (ns.map D.int)
  | [] => .nil
  | _ :: r => .cons .int (Reps.ofInts r)
theorem Reps.strs : ∀ {vs : List V} {ns : List Str}, Reps K S vs (ns.map D.str) → vs = ns.map V.str
  | _, [], .nil => rfl
  | _, n :: ns, .cons h r => by
    cases h
    rw [Reps.strs r]; rfl
theorem Reps.ofStrs : ∀ (ns : List Str), Reps K S (ns.map V.str) (ns.map D.str)
  | [] => .nil
  | _ :: r => .cons .str (Reps.ofStrs r)
end

/-- what a name (or a temporary) holds: nothing; a value that nobody changes; a container of one's own, of such values; a container that a caller owns; one's own container, looked at -/
inductive Slot where
  | un | sh (d : D) | ow (d : D) | bo (d : D) | bt (d : D)
def Slot.dat : Slot → Option D
  | .un => none
  | .sh d => some d
  | .ow d => some d
  | .bo d => some d
  | .bt d => some d
/-- may stand in a name -/
def Slot.env : Slot → Prop
  | .bt _ => False
  | _ => True
/-- nobody changes it while this def runs -/
def Slot.still : Slot → Prop
  | .sh _ => True
  | .bo _ => True
  | _ => False

/-- the def's own frame: the heap at its entry, the part of it that nobody changes -/
structure Fr where
  K : PySem.W.Frag
  mg : Str → Option Value
  H0 : Hp
  S0 : Hp
structure GS (F : Fr) (S H : Hp) : Prop where
  s0 : Same F.S0 S
  sh : Same S H
  h0 : Same F.H0 H
  fr : ∀ a, S a ≠ none → F.S0 a ≠ none ∨ F.H0 a = none
/-- a container whose items stand in S -/
def RC (K : PySem.W.Frag) (S : Hp) (o : Option HO) : D → Prop
  | .lst ds => ∃ vs, o = some (.lst vs) ∧ Reps K S vs ds
  | .dk kds => ∃ kvs, o = some (.dK kvs) ∧ kvs.map Prod.fst = kds.map Prod.fst ∧ Reps K S (kvs.map Prod.snd) (kds.map Prod.snd)
  | .dt kds => ∃ kvs, o = some (.dT kvs) ∧ kvs.map Prod.fst = kds.map Prod.fst ∧ Reps K S (kvs.map Prod.snd) (kds.map Prod.snd)
  | _ => False
abbrev Cell := Slot × Option V
def SC (F : Fr) (S H : Hp) : Cell → Prop
  | (.un, _) => True
  | (.sh d, v) => ∃ u, v = some u ∧ Rep F.K S u d
  | (.ow d, v) => ∃ a, v = some (.ref a) ∧ F.H0 a = none ∧ S a = none ∧ RC F.K S (H a) d
  | (.bo d, v) => ∃ a, v = some (.ref a) ∧ F.H0 a ≠ none ∧ RC F.K S (H a) d
  | (.bt d, v) => ∃ a, v = some (.ref a) ∧ RC F.K S (H a) d
def Slot.isOw : Slot → Prop
  | .ow _ => True
  | _ => False
def Apart (p q : Cell) : Prop := p.1.isOw → q.1.isOw → p.2 ≠ q.2
def C (F : Fr) (l : List Cell) (H : Hp) : Prop := ∃ S, GS F S H ∧ (∀ p ∈ l, SC F S H p) ∧ l.Pairwise Apart

section
variable {F : Fr} {S S' H H' : Hp} {l l' : List Cell} {p q : Cell}
theorem Apart.symm (h : Apart p q) : Apart q p := fun a b e => h b a e.symm
theorem C.perm (h : C F l H) (e : l.Perm l') : C F l' H := by
  obtain ⟨S, g, a, b⟩ := h
  refine ⟨S, g, fun p hp => a p (e.mem_iff.mpr hp), ?_⟩
  exact (e.pairwise_iff (R := Apart) (fun h => h.symm)).mp b
theorem C.sub (h : C F l H) (e : l'.Sublist l) : C F l' H := by
  obtain ⟨S, g, a, b⟩ := h
  exact ⟨S, g, fun p hp => a p (e.subset hp), b.sublist e⟩
theorem C.tail (h : C F (p :: l) H) : C F l H := h.sub (List.sublist_cons_self _ _)
theorem C.right {a : List Cell} (h : C F (a ++ l) H) : C F l H := h.sub (List.sublist_append_right _ _)
theorem C.left {a : List Cell} (h : C F (a ++ l) H) : C F a H := h.sub (List.sublist_append_left _ _)
theorem C.swap (h : C F (p :: q :: l) H) : C F (q :: p :: l) H := h.perm (List.Perm.swap _ _ _)
theorem C.front {a : List Cell} (h : C F (a ++ p :: l) H) : C F (p :: (a ++ l)) H := h.perm List.perm_middle
theorem C.back {a : List Cell} (h : C F (p :: (a ++ l)) H) : C F (a ++ p :: l) H := h.perm List.perm_middle.symm
theorem C.same (h : C F l H) : Same F.H0 H := by
  obtain ⟨S, g, _⟩ := h
  exact g.h0
/-- a slot that is no owner may be put beside -/
theorem pw_cons_noOw (hp : ¬ p.1.isOw) (h : l.Pairwise Apart) : (p :: l).Pairwise Apart := List.pairwise_cons.mpr ⟨fun _ _ a => (hp a).elim, h⟩
theorem C.put (h : C F l H) (hp : ¬ p.1.isOw) (hs : ∀ S, GS F S H → (∀ q ∈ l, SC F S H q) → SC F S H p) : C F (p :: l) H := by
  obtain ⟨S, g, a, b⟩ := h
  refine ⟨S, g, fun q hq => ?_, pw_cons_noOw hp b⟩
  rcases List.mem_cons.mp hq with rfl | hq
  · exact hs S g a
  · exact a q hq
theorem C.int (h : C F l H) (i : Int) : C F ((.sh (.int i), some (.int i)) :: l) H := h.put (fun z => z) fun _ _ _ => ⟨_, rfl, .int⟩
theorem C.bl (h : C F l H) (b : Bool) : C F ((.sh (.bl b), some (.bl b)) :: l) H := h.put (fun z => z) fun _ _ _ => ⟨_, rfl, .bl⟩
theorem C.str (h : C F l H) (s : Str) : C F ((.sh (.str s), some (.str s)) :: l) H := h.put (fun z => z) fun _ _ _ => ⟨_, rfl, .str⟩
theorem C.non (h : C F l H) : C F ((.sh .non, some .non) :: l) H := h.put (fun z => z) fun _ _ _ => ⟨_, rfl, .non⟩
theorem C.un (h : C F l H) (v : Option V) : C F ((.un, v) :: l) H := h.put (fun z => z) fun _ _ _ => trivial
/-- a shared value twice -/
theorem C.dup {d : D} {v : Option V} (h : C F l H) (hm : (.sh d, v) ∈ l) : C F ((.sh d, v) :: l) H := h.put (fun z => z) fun _ _ a => a _ hm
theorem C.dupB {d : D} {v : Option V} (h : C F l H) (hm : (.bo d, v) ∈ l) : C F ((.bo d, v) :: l) H := h.put (fun z => z) fun _ _ a => a _ hm
theorem C.look {d : D} {v : Option V} (h : C F l H) (hm : (.ow d, v) ∈ l) : C F ((.bt d, v) :: l) H := h.put (fun z => z) fun _ _ a => by
  obtain ⟨a, e, _, _, r⟩ := a _ hm
  exact ⟨a, e, r⟩
theorem C.val {d : D} {v : Option V} (h : C F ((.sh d, v) :: l) H) : ∃ u, v = some u := by
  obtain ⟨S, g, a, b⟩ := h
  obtain ⟨u, e, _⟩ := a _ List.mem_cons_self
  exact ⟨u, e⟩
/-- a new object: tracked at p, in the part that nobody changes -/
theorem GS.new {a : Addr} {o : HO} (g : GS F S H) (ha : H a = none) : GS F (upd S a o) (upd H a o) := by
  have hS : S a = none := g.sh.free ha
  have h0 : F.H0 a = none := g.h0.free ha
  refine ⟨fun b u e => ?_, fun b u e => ?_, fun b u e => ?_, fun b e => ?_⟩
  · rw [upd_ne (ne_of_none (g.s0 b u e) hS)]; exact g.s0 b u e
  · by_cases hb : b = a
    · subst hb; rw [upd_same] at e ⊢; exact e
    · rw [upd_ne hb] at e ⊢; exact g.sh b u e
  · rw [upd_ne (ne_of_none (g.h0 b u e) ha)]; exact g.h0 b u e
  · by_cases hb : b = a
    · subst hb; exact .inr h0
    · rw [upd_ne hb] at e; exact g.fr b e
theorem same_new {a : Addr} {o : HO} (ha : H a = none) : Same H (upd H a o) := fun b u e => by
  rw [upd_ne (ne_of_none e ha)]; exact e
theorem RC.mono {K : PySem.W.Frag} {o : Option HO} {d : D} (e : Same S S') (h : RC K S o d) : RC K S' o d := by
  cases d with
  | lst ds => obtain ⟨vs, e1, r⟩ := h; exact ⟨vs, e1, r.mono e⟩
  | dk kds => obtain ⟨vs, e1, k, r⟩ := h; exact ⟨vs, e1, k, r.mono e⟩
  | dt kds => obtain ⟨vs, e1, k, r⟩ := h; exact ⟨vs, e1, k, r.mono e⟩
  | _ => exact h.elim
theorem RC.nn {K : PySem.W.Frag} {o : Option HO} {d : D} (h : RC K S o d) : o ≠ none := by
  cases d with
  | lst ds => obtain ⟨vs, e1, r⟩ := h; rw [e1]; simp
  | dk kds => obtain ⟨vs, e1, k, r⟩ := h; rw [e1]; simp
  | dt kds => obtain ⟨vs, e1, k, r⟩ := h; rw [e1]; simp
  | _ => exact h.elim
/-- the heaps grow, what this slot leans on stays -/
theorem SC.grow (s : SC F S H p) (e : Same S S') (e2 : Same H H') (n : ∀ a, S' a ≠ none → S a ≠ none ∨ H a = none) : SC F S' H' p := by
  have keep : ∀ {a : Addr} {d : D}, RC F.K S (H a) d → RC F.K S' (H' a) d := fun {a d} r => by
    cases q : H a with
    | none => exact (r.nn q).elim
    | some o =>
      rw [e2 a o q]
      rw [q] at r
      exact r.mono e
  obtain ⟨x, v⟩ := p
  cases x with
  | un => trivial
  | sh d => obtain ⟨u, e1, r⟩ := s; exact ⟨u, e1, r.mono e⟩
  | ow d =>
    obtain ⟨a, e1, h0, hS, r⟩ := s
    refine ⟨a, e1, h0, ?_, keep r⟩
    cases q : S' a with
    | none => rfl
    | some o =>
      rcases n a (by rw [q]; simp) with z | z
      · exact (z hS).elim
      · exact (r.nn z).elim
  | bo d => obtain ⟨a, e1, h0, r⟩ := s; exact ⟨a, e1, h0, keep r⟩
  | bt d => obtain ⟨a, e1, r⟩ := s; exact ⟨a, e1, keep r⟩
/-- a new object of shared items: a tuple, a list, a dict -/
theorem C.newSh {a : Addr} {o : HO} {d : D} (h : C F l H) (ha : H a = none) (hr : ∀ S, GS F S H → (∀ q ∈ l, SC F S H q) → Rep F.K (upd S a o) (.ref a) d) : C F ((.sh d, some (.ref a)) :: l) (upd H a o) := by
  obtain ⟨S, g, c, b⟩ := h
  have hS : S a = none := g.sh.free ha
  refine ⟨upd S a o, g.new ha, fun q hq => ?_, pw_cons_noOw (fun z => z) b⟩
  rcases List.mem_cons.mp hq with rfl | hq
  · exact ⟨_, rfl, hr S g c⟩
  · refine (c q hq).grow (same_new hS) (same_new ha) fun b hb => ?_
    by_cases e : b = a
    · subst e; exact .inr ha
    · rw [upd_ne e] at hb; exact .inl hb
/-- a new container of one's own -/
theorem C.newOw {a : Addr} {o : HO} {d : D} (h : C F l H) (ha : H a = none) (hr : ∀ S, GS F S H → (∀ q ∈ l, SC F S H q) → RC F.K S (some o) d) : C F ((.ow d, some (.ref a)) :: l) (upd H a o) := by
  obtain ⟨S, g, c, b⟩ := h
  have hS : S a = none := g.sh.free ha
  have g' : GS F S (upd H a o) := ⟨g.s0, g.sh.trans (same_new ha), g.h0.trans (same_new ha), g.fr⟩
  refine ⟨S, g', fun q hq => ?_, List.pairwise_cons.mpr ⟨fun q hq _ oq => ?_, b⟩⟩
  · rcases List.mem_cons.mp hq with rfl | hq
    · exact ⟨a, rfl, g.h0.free ha, hS, by rw [upd_same]; exact hr S g c⟩
    · exact (c q hq).grow (Same.refl S) (same_new ha) fun b hb => .inl hb
  · obtain ⟨x, v⟩ := q
    cases x with
    | ow e =>
      obtain ⟨b, e1, _, _, r⟩ := c _ hq
      intro z
      have z' : some (V.ref a) = v := z
      rw [← z'] at e1
      cases e1
      exact r.nn ha
    | _ => exact oq.elim
/-- one's own container is shared from now on -/
theorem RC.rep {K : PySem.W.Frag} {a : Addr} {o : HO} {d : D} (h : RC K S (some o) d) (ha : S a = none) : Rep K (upd S a o) (.ref a) d := by
  have m : Same S (upd S a o) := same_new ha
  cases d with
  | lst ds => obtain ⟨vs, e1, r⟩ := h; cases e1; exact .lst (SqL.of upd_same) (r.mono m)
  | dk kds => obtain ⟨vs, e1, k, r⟩ := h; cases e1; exact .dk (.inl upd_same) k (r.mono m)
  | dt kds => obtain ⟨vs, e1, k, r⟩ := h; cases e1; exact .dt upd_same k (r.mono m)
  | _ => exact h.elim
theorem C.frz {d : D} {v : Option V} (h : C F ((.ow d, v) :: l) H) : C F ((.sh d, v) :: l) H := by
  obtain ⟨S, g, c, b⟩ := h
  obtain ⟨a, e1, h0, hS, r⟩ := c _ List.mem_cons_self
  cases q : H a with
  | none => exact (r.nn q).elim
  | some o =>
    rw [q] at r
    have m : Same S (upd S a o) := same_new hS
    obtain ⟨b1, b2⟩ := List.pairwise_cons.mp b
    refine ⟨upd S a o, ⟨g.s0.trans m, fun b u e => ?_, g.h0, fun b e => ?_⟩, fun p hp => ?_, pw_cons_noOw (fun z => z) b2⟩
    · by_cases hb : b = a
      · subst hb; rw [upd_same] at e; cases e; exact q
      · rw [upd_ne hb] at e; exact g.sh b u e
    · by_cases hb : b = a
      · subst hb; exact .inr h0
      · rw [upd_ne hb] at e; exact g.fr b e
    · rcases List.mem_cons.mp hp with rfl | hp
      · exact ⟨_, e1, r.rep hS⟩
      · have s := c p (List.mem_cons_of_mem _ hp)
        have ap := b1 p hp
        obtain ⟨x, w⟩ := p
        cases x with
        | un => trivial
        | sh d' => obtain ⟨u, e2, r2⟩ := s; exact ⟨u, e2, r2.mono m⟩
        | ow d' =>
          obtain ⟨a', e2, h2, hS2, r2⟩ := s
          refine ⟨a', e2, h2, ?_, r2.mono m⟩
          have ne : a' ≠ a := fun z => by
            subst z
            exact ap trivial trivial (by rw [e1]; exact e2.symm)
          rw [upd_ne ne]; exact hS2
        | bo d' => obtain ⟨a', e2, h2, r2⟩ := s; exact ⟨a', e2, h2, r2.mono m⟩
        | bt d' => obtain ⟨a', e2, r2⟩ := s; exact ⟨a', e2, r2.mono m⟩
/-- one's own container is changed -/
theorem C.mut {a : Addr} {d : D} (h : C F ((.ow d, some (.ref a)) :: l) H) (nb : ∀ p ∈ l, p.1.env) :
    ∃ S, GS F S H ∧ RC F.K S (H a) d ∧ (∀ p ∈ l, SC F S H p) ∧ ∀ o' d', RC F.K S (some o') d' → C F ((.ow d', some (.ref a)) :: l) (upd H a o') := by
  obtain ⟨S, g, c, b⟩ := h
  obtain ⟨a', e1, h0, hS, r⟩ := c _ List.mem_cons_self
  cases e1
  obtain ⟨b1, b2⟩ := List.pairwise_cons.mp b
  refine ⟨S, g, r, fun p hp => c p (List.mem_cons_of_mem _ hp), fun o' d' r' => ⟨S, ⟨g.s0, fun b u e => ?_, fun b u e => ?_, g.fr⟩, fun p hp => ?_, List.pairwise_cons.mpr ⟨fun p hp _ => b1 p hp trivial, b2⟩⟩⟩
  · rw [upd_ne (ne_of_none e hS)]; exact g.sh b u e
  · rw [upd_ne (ne_of_none e h0)]; exact g.h0 b u e
  · rcases List.mem_cons.mp hp with rfl | hp
    · exact ⟨a, rfl, h0, hS, by rw [upd_same]; exact r'⟩
    · have s := c p (List.mem_cons_of_mem _ hp)
      have ap := b1 p hp
      have nn := nb p hp
      obtain ⟨x, w⟩ := p
      cases x with
      | un => trivial
      | sh d2 => exact s
      | ow d2 =>
        obtain ⟨a2, e2, h2, hS2, r2⟩ := s
        have ne : a2 ≠ a := fun z => by
          subst z
          exact ap trivial trivial e2.symm
        exact ⟨a2, e2, h2, hS2, by rw [upd_ne ne]; exact r2⟩
      | bo d2 =>
        obtain ⟨a2, e2, h2, r2⟩ := s
        have ne : a2 ≠ a := fun z => by
          subst z
          exact h2 h0
        exact ⟨a2, e2, h2, by rw [upd_ne ne]; exact r2⟩
      | bt d2 => exact nn.elim

/-! ### reading -/
/-- a sequence that may be read -/
theorem C.seqL {x : Slot} {v : Option V} {ds : List D} (h : C F ((x, v) :: l) H) (hx : x.dat = some (.lst ds)) : ∃ a vs, v = some (.ref a) ∧ SqL F.K H a vs ∧ vs.length = ds.length ∧ ∃ S, GS F S H ∧ Reps F.K S vs ds ∧ (∀ p ∈ (x, v) :: l, SC F S H p) ∧ l.Pairwise Apart := by
  obtain ⟨S, g, c, b⟩ := h
  have b2 := (List.pairwise_cons.mp b).2
  have s := c _ List.mem_cons_self
  cases x with
  | un => cases hx
  | sh d =>
    cases hx
    obtain ⟨u, e, r⟩ := s
    cases r with
    | lst hq r => exact ⟨_, _, e, sqL_mono g.sh hq, r.len, S, g, r, c, b2⟩
  | ow d => cases hx; obtain ⟨a, e, _, _, vs, e2, r⟩ := s; exact ⟨a, vs, e, SqL.of e2, r.len, S, g, r, c, b2⟩
  | bo d => cases hx; obtain ⟨a, e, _, vs, e2, r⟩ := s; exact ⟨a, vs, e, SqL.of e2, r.len, S, g, r, c, b2⟩
  | bt d => cases hx; obtain ⟨a, e, vs, e2, r⟩ := s; exact ⟨a, vs, e, SqL.of e2, r.len, S, g, r, c, b2⟩
theorem C.seqT {x : Slot} {v : Option V} {ds : List D} (h : C F ((x, v) :: l) H) (hx : x.dat = some (.tup ds)) : ∃ a vs, v = some (.ref a) ∧ SqT F.K H a vs ∧ vs.length = ds.length ∧ ∃ S, GS F S H ∧ Reps F.K S vs ds ∧ (∀ p ∈ (x, v) :: l, SC F S H p) ∧ l.Pairwise Apart := by
  obtain ⟨S, g, c, b⟩ := h
  have b2 := (List.pairwise_cons.mp b).2
  have s := c _ List.mem_cons_self
  cases x with
  | un => cases hx
  | sh d =>
    cases hx
    obtain ⟨u, e, r⟩ := s
    cases r with
    | tup hq r => exact ⟨_, _, e, SqT.of (g.sh _ _ hq), r.len, S, g, r, c, b2⟩
  | ow d => cases hx; obtain ⟨a, e, _, _, r⟩ := s; exact r.elim
  | bo d => cases hx; obtain ⟨a, e, _, r⟩ := s; exact r.elim
  | bt d => cases hx; obtain ⟨a, e, r⟩ := s; exact r.elim
/-- an item of a sequence that was read -/
theorem C.itemL {x : Slot} {v : Option V} {ds : List D} {i : Nat} {d : D} (h : C F ((x, v) :: l) H) (hx : x.dat = some (.lst ds)) (hi : ds[i]? = some d) : ∃ a vs u, v = some (.ref a) ∧ SqL F.K H a vs ∧ vs.length = ds.length ∧ vs[i]? = some u ∧ C F ((.sh d, some u) :: (x, v) :: l) H := by
  have h' := h
  obtain ⟨a, vs, e, hq, hl, S, g, r, c, b⟩ := h.seqL hx
  obtain ⟨u, hu, ru⟩ := r.get hi
  refine ⟨a, vs, u, e, hq, hl, hu, S, g, fun p hp => ?_, ?_⟩
  · rcases List.mem_cons.mp hp with rfl | hp
    · exact ⟨u, rfl, ru⟩
    · exact c p hp
  · obtain ⟨_, _, _, b'⟩ := h'
    exact pw_cons_noOw (fun z => z) b'
theorem C.itemT {x : Slot} {v : Option V} {ds : List D} {i : Nat} {d : D} (h : C F ((x, v) :: l) H) (hx : x.dat = some (.tup ds)) (hi : ds[i]? = some d) : ∃ a vs u, v = some (.ref a) ∧ SqT F.K H a vs ∧ vs.length = ds.length ∧ vs[i]? = some u ∧ C F ((.sh d, some u) :: (x, v) :: l) H := by
  have h' := h
  obtain ⟨a, vs, e, hq, hl, S, g, r, c, b⟩ := h.seqT hx
  obtain ⟨u, hu, ru⟩ := r.get hi
  refine ⟨a, vs, u, e, hq, hl, hu, S, g, fun p hp => ?_, ?_⟩
  · rcases List.mem_cons.mp hp with rfl | hp
    · exact ⟨u, rfl, ru⟩
    · exact c p hp
  · obtain ⟨_, _, _, b'⟩ := h'
    exact pw_cons_noOw (fun z => z) b'
theorem C.shInt {v : Option V} {i : Int} (h : C F ((.sh (.int i), v) :: l) H) : v = some (.int i) := by
  obtain ⟨S, g, c, b⟩ := h
  obtain ⟨u, e, r⟩ := c _ List.mem_cons_self
  cases r; exact e
theorem C.shBl {v : Option V} {i : Bool} (h : C F ((.sh (.bl i), v) :: l) H) : v = some (.bl i) := by
  obtain ⟨S, g, c, b⟩ := h
  obtain ⟨u, e, r⟩ := c _ List.mem_cons_self
  cases r; exact e
theorem C.shStr {v : Option V} {i : Str} (h : C F ((.sh (.str i), v) :: l) H) : v = some (.str i) := by
  obtain ⟨S, g, c, b⟩ := h
  obtain ⟨u, e, r⟩ := c _ List.mem_cons_self
  cases r; exact e
theorem C.shNon {v : Option V} (h : C F ((.sh .non, v) :: l) H) : v = some .non := by
  obtain ⟨S, g, c, b⟩ := h
  obtain ⟨u, e, r⟩ := c _ List.mem_cons_self
  cases r; exact e
end

/-! ### lists of names -/
section
variable {α β : Type}
theorem zip_get : ∀ {xs : List α} {ys : List β} {i : Nat} {x : α}, xs.length = ys.length → xs[i]? = some x → ∃ y, ys[i]? = some y ∧ (xs.zip ys)[i]? = some (x, y)
  | [], _, _, _, _, h => by simp at h
  | a :: xs, [], _, _, h, _ => by simp at h
  | a :: xs, b :: ys, 0, x, _, h => by simp at h; subst h; exact ⟨b, rfl, rfl⟩
  | a :: xs, b :: ys, i + 1, x, hl, h => by
    obtain ⟨y, h1, h2⟩ := zip_get (xs := xs) (ys := ys) (i := i) (x := x) (by simpa using hl) (by simpa using h)
    exact ⟨y, by simpa using h1, by simpa using h2⟩
theorem zip_set : ∀ {xs : List α} {ys : List β} (i : Nat) (x : α) (y : β), (xs.set i x).zip (ys.set i y) = (xs.zip ys).set i (x, y)
  | [], _, i, x, y => by simp
  | a :: xs, [], i, x, y => by cases i <;> simp
  | a :: xs, b :: ys, 0, x, y => rfl
  | a :: xs, b :: ys, i + 1, x, y => by
    show (a, b) :: (xs.set i x).zip (ys.set i y) = (a, b) :: (xs.zip ys).set i (x, y)
    rw [zip_set]
theorem perm_erase : ∀ {l : List α} {i : Nat} {x : α}, l[i]? = some x → l.Perm (x :: l.eraseIdx i)
  | [], _, _, h => by simp at h
  | a :: l, 0, x, h => by simp at h; subst h; exact List.Perm.refl _
  | a :: l, i + 1, x, h => by
    have ih := perm_erase (l := l) (i := i) (x := x) (by simpa using h)
    exact (ih.cons a).trans (List.Perm.swap _ _ _)
theorem perm_set : ∀ {l : List α} {i : Nat} {x y : α}, l[i]? = some x → (l.set i y).Perm (y :: l.eraseIdx i)
  | [], _, _, _, h => by simp at h
  | a :: l, 0, x, y, h => List.Perm.refl _
  | a :: l, i + 1, x, y, h => by
    have ih := perm_set (l := l) (i := i) (x := x) (y := y) (by simpa using h)
    exact (ih.cons a).trans (List.Perm.swap _ _ _)
theorem mem_of_get {l : List α} {i : Nat} {x : α} (h : l[i]? = some x) : x ∈ l := List.mem_of_getElem? h
theorem mem_erase {l : List α} {i : Nat} {x : α} (h : x ∈ l.eraseIdx i) : x ∈ l := List.mem_of_mem_eraseIdx h
theorem mem_zip_left {xs : List α} {ys : List β} {p : α × β} (h : p ∈ xs.zip ys) : p.1 ∈ xs := (List.of_mem_zip h).1
end
end DL

set_option Elab.async false
set_option linter.all false
set_option maxRecDepth 100000
set_option maxHeartbeats 4000000
/-! DL, part 2: expressions -/
namespace DL
open PySem PySem.Spec PyProof.Rows L2

/-- what an expression comes to -/
inductive R (α : Type) where
  | ok (x : α) | ex (c : Str) (fs : List (Str × D))
abbrev En := List Slot
abbrev WE := En → (R Slot → Prop) → Prop
abbrev WA := En → (R (List Slot) → Prop) → Prop
abbrev WI := En → (R (List D) → Prop) → Prop
def rk {α β : Type} (k : α → Prop) (Q : R β → Prop) : R α → Prop
  | .ok x => k x
  | .ex c fs => Q (.ex c fs)
def Mono {α : Type} (w : En → (R α → Prop) → Prop) : Prop := ∀ env Q Q', (∀ r, Q r → Q' r) → w env Q → w env Q'

/-- an exception's own fields -/
def XF (H : Hp) (d : Option Addr) (fs : List (Str × D)) : Prop :=
  (fs = [] ∧ d = none) ∨ ∃ (a : Addr) (ns : List (Str × Int)), fs = ns.map (fun p => (p.1, D.int p.2)) ∧ d = some a ∧ H a = some (.xd (ns.map fun p => (p.1, V.int p.2)))

/-- the state of a body: l ghosts and temporaries, env what the names hold -/
structure CE (F : Fr) (l : List Cell) (env : En) (σ : L2.St) (H : Hp) : Prop where
  len : env.length = σ.length
  ok : ∀ x ∈ env, x.env
  c : C F (l ++ env.zip σ) H
def LEp (F : Fr) (W : WX) (l : List Cell) (env : En) (σ : L2.St) (Q : VK) : R Slot → Prop
  | .ok x => ∀ v H', C F ((x, some v) :: (l ++ env.zip σ)) H' → Q v H'
  | .ex c fs => ∀ A d H', F.mg c = some (.ref A) → XF H' d fs → C F (l ++ env.zip σ) H' → W (.ref A) d σ H'
def LTp (F : Fr) (W : WX) (l : List Cell) (env : En) (σ : L2.St) (Q : Bool → Hp → Prop) : R Slot → Prop
  | .ok x => ∃ b, x = .sh (.bl b) ∧ ∀ H', C F (l ++ env.zip σ) H' → Q b H'
  | .ex c fs => ∀ A d H', F.mg c = some (.ref A) → XF H' d fs → C F (l ++ env.zip σ) H' → W (.ref A) d σ H'
def LAp (F : Fr) (W : WX) (l : List Cell) (env : En) (σ : L2.St) (Q : List V → Hp → Prop) : R (List Slot) → Prop
  | .ok xs => ∀ vs H', vs.length = xs.length → C F (xs.zip (vs.map some) ++ (l ++ env.zip σ)) H' → Q vs H'
  | .ex c fs => ∀ A d H', F.mg c = some (.ref A) → XF H' d fs → C F (l ++ env.zip σ) H' → W (.ref A) d σ H'
def LE (F : Fr) (W : WX) (w : WE) : TE := fun σ H Q => ∃ l env, CE F l env σ H ∧ w env (LEp F W l env σ Q)
def LT (F : Fr) (W : WX) (w : WE) : TT := fun σ H Q => ∃ l env, CE F l env σ H ∧ w env (LTp F W l env σ Q)
def LA (F : Fr) (W : WX) (w : WA) : TA := fun σ H Q => ∃ l env, CE F l env σ H ∧ w env (LAp F W l env σ Q)
structure DE (X : Cx) (F : Fr) (W : WX) (e : Expr) (w : WE) : Prop where
  run : PE X e (LE F W w)
  mono : Mono w
structure DT (X : Cx) (F : Fr) (W : WX) (e : Expr) (w : WE) : Prop where
  run : PT X e (LT F W w)
  mono : Mono w
structure DW (X : Cx) (F : Fr) (W : WX) (e : Expr) (w : WE) : Prop where
  run : PW X e (LT F W w)
  mono : Mono w
structure DA (X : Cx) (F : Fr) (W : WX) (es : List Expr) (w : WA) : Prop where
  run : PA X es (LA F W w)
  mono : Mono w
theorem pe_imp {X : Cx} {e : Expr} {t t' : TE} (h : PE X e t) (q : ∀ σ H Q, t' σ H Q → t σ H Q) : PE X e t' := ⟨fun pins s σ H Q I z => h.run pins s σ H Q I (q _ _ _ z)⟩
theorem pt_imp {X : Cx} {e : Expr} {t t' : TT} (h : PT X e t) (q : ∀ σ H Q, t' σ H Q → t σ H Q) : PT X e t' := ⟨fun pins s σ H Q I z => h.run pins s σ H Q I (q _ _ _ z)⟩
theorem pw_imp {X : Cx} {e : Expr} {t t' : TT} (h : PW X e t) (q : ∀ σ H Q, t' σ H Q → t σ H Q) : PW X e t' := ⟨fun wh pins s σ H Q I z => h.run wh pins s σ H Q I (q _ _ _ z)⟩
theorem pa_imp {X : Cx} {es : List Expr} {t t' : TA} (h : PA X es t) (q : ∀ σ H Q, t' σ H Q → t σ H Q) : PA X es t' := ⟨fun pos pins s σ H Q I z => h.run pos pins s σ H Q I (q _ _ _ z)⟩
theorem ps_imp {X : Cx} {st : Stmt} {t t' : TS} (h : PS X st t) (q : ∀ D σ H, t' D σ H → t D σ H) : PS X st t' := ⟨fun pins s σ H D I z => h.run pins s σ H D I (q _ _ _ z)⟩
theorem pss_imp {X : Cx} {st : List Stmt} {t t' : TS} (h : PSs X st t) (q : ∀ D σ H, t' D σ H → t D σ H) : PSs X st t' := ⟨fun pins s σ H D I z => h.run pins s σ H D I (q _ _ _ z)⟩

section
variable {X : Cx} {F : Fr} {W : WX} {a b c e : Expr} {es : List Expr} {wa wb wc w : WE} {wA : WA} {pos : Pos}
theorem CE.to {l : List Cell} {env : En} {σ : L2.St} {H H' : Hp} {l' : List Cell} (k : CE F l env σ H) (h : C F (l' ++ (l ++ env.zip σ)) H') : CE F (l' ++ l) env σ H' := ⟨k.len, k.ok, by rw [List.append_assoc]; exact h⟩
theorem CE.to1 {l : List Cell} {env : En} {σ : L2.St} {H H' : Hp} {p : Cell} (k : CE F l env σ H) (h : C F (p :: (l ++ env.zip σ)) H') : CE F (p :: l) env σ H' := ⟨k.len, k.ok, h⟩
theorem CE.at {l : List Cell} {env : En} {σ : L2.St} {H H' : Hp} (k : CE F l env σ H) (h : C F (l ++ env.zip σ) H') : CE F l env σ H' := ⟨k.len, k.ok, h⟩
/-- a part's way out is the whole's -/
theorem lep_mono {β : Type} {w : WE} {l : List Cell} {env : En} {σ : L2.St} {k : Slot → Prop} {Q : R β → Prop} {Q' : VK} (m : Mono w) (h : w env (rk k Q))
    (h1 : ∀ x, k x → ∀ v H', C F ((x, some v) :: (l ++ env.zip σ)) H' → Q' v H') (h2 : ∀ c fs, Q (.ex c fs) → LEp F W l env σ Q' (.ex c fs)) : w env (LEp F W l env σ Q') :=
  m env _ _ (fun r q => match r, q with
    | .ok x, q => h1 x q
    | .ex c fs, q => h2 c fs q) h
theorem mono_rk {α β : Type} {w : En → (R α → Prop) → Prop} (m : Mono w) {k k' : α → Prop} {Q Q' : R β → Prop} {env : En} (hk : ∀ x, k x → k' x) (hq : ∀ r, Q r → Q' r) (h : w env (rk k Q)) : w env (rk k' Q') :=
  m env _ _ (fun r q => match r, q with
    | .ok x, q => hk x q
    | .ex c fs, q => hq _ q) h

/-! ### names, constants -/
def wVar (i : Nat) : WE := fun env Q => match env[i]? with
  | some (.sh d) => Q (.ok (.sh d))
  | some (.bo d) => Q (.ok (.bo d))
  | some (.ow d) => Q (.ok (.bt d))
  | _ => False
theorem de_var (i : Nat) {x : Str} (hN : X.N[i]? = some x := by rfl) (hv : Vis X.env.scope x := by first | exact Or.inl rfl | exact Or.inr (Or.inl rfl) | exact Or.inr (Or.inr rfl)) (hd : (x == ("__debug__" : Str)) = false := by decide)
    (hcd : (x == ("__classdict__" : Str)) = false := by decide) : DE X F W (.Name x pos) (wVar i) := by
  refine ⟨pe_imp (pe_var hN hv hd hcd) fun σ H Q h => ?_, fun env Q Q' m h => ?_⟩
  · obtain ⟨l, env, k, h⟩ := h
    unfold wVar at h
    split at h
    · rename_i d e
      obtain ⟨v, e1, e2⟩ := zip_get k.len e
      have hm : (Slot.sh d, v) ∈ l ++ env.zip σ := List.mem_append_right _ (mem_of_get e2)
      have c1 := k.c.dup hm
      obtain ⟨u, rfl⟩ := c1.val
      exact ⟨u, e1, h u H c1⟩
    · rename_i d e
      obtain ⟨v, e1, e2⟩ := zip_get k.len e
      have hm : (Slot.bo d, v) ∈ l ++ env.zip σ := List.mem_append_right _ (mem_of_get e2)
      have c1 := k.c.dupB hm
      obtain ⟨S, g, cc, _⟩ := id c1
      obtain ⟨u, e3, _⟩ := cc _ List.mem_cons_self
      subst e3
      exact ⟨_, e1, h _ H c1⟩
    · rename_i d e
      obtain ⟨v, e1, e2⟩ := zip_get k.len e
      have hm : (Slot.ow d, v) ∈ l ++ env.zip σ := List.mem_append_right _ (mem_of_get e2)
      have c1 := k.c.look hm
      obtain ⟨S, g, cc, _⟩ := id c1
      obtain ⟨u, e3, _⟩ := cc _ List.mem_cons_self
      subst e3
      exact ⟨_, e1, h _ H c1⟩
    · exact h.elim
  · unfold wVar at h ⊢
    split at h
    · exact m _ h
    · exact m _ h
    · exact m _ h
    · exact h.elim
def wInt (i : Int) : WE := fun _ Q => Q (.ok (.sh (.int i)))
def wBl (b : Bool) : WE := fun _ Q => Q (.ok (.sh (.bl b)))
def wStr (s : Str) : WE := fun _ Q => Q (.ok (.sh (.str s)))
def wNon : WE := fun _ Q => Q (.ok (.sh .non))
theorem de_int {i : Int} {j : Nat} : DE X F W (.Constant (.int i) j pos) (wInt i) := ⟨pe_imp pe_int fun σ H Q ⟨l, env, k, h⟩ => h _ H (k.c.int i), fun _ _ _ m h => m _ h⟩
theorem de_bl {i : Bool} {j : Nat} : DE X F W (.Constant (.bool i) j pos) (wBl i) := ⟨pe_imp pe_bl fun σ H Q ⟨l, env, k, h⟩ => h _ H (k.c.bl i), fun _ _ _ m h => m _ h⟩
theorem de_str {i : Str} {j : Nat} : DE X F W (.Constant (.str i) j pos) (wStr i) := ⟨pe_imp pe_str fun σ H Q ⟨l, env, k, h⟩ => h _ H (k.c.str i), fun _ _ _ m h => m _ h⟩
theorem de_non {j : Nat} : DE X F W (.Constant .none j pos) wNon := ⟨pe_imp pe_non fun σ H Q ⟨l, env, k, h⟩ => h _ H k.c.non, fun _ _ _ m h => m _ h⟩

/-! ### two-place operators by values -/
abbrev O2 := Slot → Slot → (Slot → Prop) → Prop
abbrev O1 := Slot → (Slot → Prop) → Prop
def OMono (o : O2) : Prop := ∀ x y k k', (∀ z, k z → k' z) → o x y k → o x y k'
def O1Mono (o : O1) : Prop := ∀ x k k', (∀ z, k z → k' z) → o x k → o x k'
def wOp (o : O2) (wa wb : WE) : WE := fun env Q => wa env (rk (fun x => wb env (rk (fun y => o x y fun z => Q (.ok z)) Q)) Q)
def wUn (o : O1) (wa : WE) : WE := fun env Q => wa env (rk (fun x => o x fun z => Q (.ok z)) Q)
def SndOp (F : Fr) (r : R2) (o : O2) : Prop := ∀ (l : List Cell) (H : Hp) (x y : Slot) (vx vy : V) (ks : Slot → Prop) (Q : VK),
  C F ((y, some vy) :: (x, some vx) :: l) H → o x y ks → (∀ z v H', ks z → C F ((z, some v) :: l) H' → Q v H') → r vx vy H Q
def SndUn (F : Fr) (r : V → Hp → VK → Prop) (o : O1) : Prop := ∀ (l : List Cell) (H : Hp) (x : Slot) (vx : V) (ks : Slot → Prop) (Q : VK),
  C F ((x, some vx) :: l) H → o x ks → (∀ z v H', ks z → C F ((z, some v) :: l) H' → Q v H') → r vx H Q
theorem mono_op {o : O2} (ha : Mono wa) (hb : Mono wb) (ho : OMono o) : Mono (wOp o wa wb) := fun env Q Q' m h =>
  mono_rk ha (fun x hx => mono_rk hb (fun y hy => ho x y _ _ (fun z hz => m _ hz) hy) m hx) m h
theorem mono_un {o : O1} (ha : Mono wa) (ho : O1Mono o) : Mono (wUn o wa) := fun env Q Q' m h => mono_rk ha (fun x hx => ho x _ _ (fun z hz => m _ hz) hx) m h
theorem le_op {r : R2} {o : O2} (sn : SndOp F r o) (ha : DE X F W a wa) (hb : DE X F W b wb) {σ : L2.St} {H : Hp} {Q : VK} (h : LE F W (wOp o wa wb) σ H Q) : tOp r (LE F W wa) (LE F W wb) σ H Q := by
  obtain ⟨l, env, k, h⟩ := h
  refine ⟨l, env, k, lep_mono ha.mono h (fun x hx v H1 c1 => ?_) fun c fs q => q⟩
  refine ⟨(x, some v) :: l, env, k.to1 c1, lep_mono hb.mono hx (fun y hy u H2 c2 => ?_) fun c fs q => ?_⟩
  · exact sn _ H2 x y v u _ Q c2 hy fun z vz H' hz cz => hz vz H' cz
  · exact fun A d H' hA hx c3 => q A d H' hA hx c3.tail
theorem le_un {r : V → Hp → VK → Prop} {o : O1} (sn : SndUn F r o) (ha : DE X F W a wa) {σ : L2.St} {H : Hp} {Q : VK} (h : LE F W (wUn o wa) σ H Q) : tUn r (LE F W wa) σ H Q := by
  obtain ⟨l, env, k, h⟩ := h
  refine ⟨l, env, k, lep_mono ha.mono h (fun x hx v H1 c1 => ?_) fun c fs q => q⟩
  exact sn _ H1 x v _ Q c1 hx fun z vz H' hz cz => hz vz H' cz
theorem de_op {op : Operator} {r : R2} {o : O2} (ho : OpR X (binaryOp op) r) (sn : SndOp F r o) (om : OMono o) (ha : DE X F W a wa) (hb : DE X F W b wb) : DE X F W (.BinOp a op b pos) (wOp o wa wb) :=
  ⟨pe_imp (pe_op ho ha.run hb.run) fun _ _ _ h => le_op sn ha hb h, mono_op ha.mono hb.mono om⟩
theorem de_cmp {op : CmpOp} {r : R2} {o : O2} (ho : OpR X (compareOp op) r) (sn : SndOp F r o) (om : OMono o) (ha : DE X F W a wa) (hb : DE X F W b wb) (hm : behindInMarks op b = false) : DE X F W (.Compare a [op] [b] pos) (wOp o wa wb) :=
  ⟨pe_imp (pe_cmpR ho ha.run hb.run hm) fun _ _ _ h => le_op sn ha hb h, mono_op ha.mono hb.mono om⟩
theorem de_un {op : UnaryOp} {r : V → Hp → VK → Prop} {o : O1} (ho : UnR X (unaryOp op) r) (sn : SndUn F r o) (om : O1Mono o) (ha : DE X F W a wa) : DE X F W (.UnaryOp op a pos) (wUn o wa) :=
  ⟨pe_imp (pe_un ho ha.run) fun _ _ _ h => le_un sn ha h, mono_un ha.mono om⟩

/-- two whole numbers -/
def oI (c : Int → Int → Prop) (g : Int → Int → D) : O2 := fun x y k => match x, y with
  | .sh (.int i), .sh (.int j) => c i j ∧ k (.sh (g i j))
  | _, _ => False
def oI0 (g : Int → Int → D) : O2 := fun x y k => match x, y with
  | .sh (.int i), .sh (.int j) => k (.sh (g i j))
  | _, _ => False
theorem oI_mono {c : Int → Int → Prop} {g : Int → Int → D} : OMono (oI c g) := fun x y k k' m h => by
  unfold oI at h ⊢
  split at h
  · exact ⟨h.1, m _ h.2⟩
  · exact h.elim
theorem oI0_mono {g : Int → Int → D} : OMono (oI0 g) := fun x y k k' m h => by
  unfold oI0 at h ⊢
  split at h
  · exact m _ h
  · exact h.elim
theorem oI_int {c : Int → Int → Prop} {g : Int → Int → Int} : SndOp F (rI c fun i j => .int (g i j)) (oI c fun i j => .int (g i j)) := fun l H x y vx vy ks Q hc ho hq => by
  unfold oI at ho
  split at ho
  · rename_i i j
    have e1 := hc.shInt
    have e2 := hc.tail.shInt
    cases e1; cases e2
    exact ⟨i, j, rfl, rfl, ho.1, hq _ _ H ho.2 (hc.tail.tail.int _)⟩
  · exact ho.elim
theorem oI0_int {g : Int → Int → Int} : SndOp F (rI0 fun i j => .int (g i j)) (oI0 fun i j => .int (g i j)) := fun l H x y vx vy ks Q hc ho hq => by
  unfold oI0 at ho
  split at ho
  · rename_i i j
    have e1 := hc.shInt
    have e2 := hc.tail.shInt
    cases e1; cases e2
    exact ⟨i, j, rfl, rfl, hq _ _ H ho (hc.tail.tail.int _)⟩
  · exact ho.elim
theorem oI0_bl {g : Int → Int → Bool} : SndOp F (rI0 fun i j => .bl (g i j)) (oI0 fun i j => .bl (g i j)) := fun l H x y vx vy ks Q hc ho hq => by
  unfold oI0 at ho
  split at ho
  · rename_i i j
    have e1 := hc.shInt
    have e2 := hc.tail.shInt
    cases e1; cases e2
    exact ⟨i, j, rfl, rfl, hq _ _ H ho (hc.tail.tail.bl _)⟩
  · exact ho.elim
def oAdd : O2 := oI0 fun i j => .int (i + j)
def oSub : O2 := oI0 fun i j => .int (i - j)
def oMul : O2 := oI CMul fun i j => .int (i * j)
def oMod : O2 := oI (fun _ j => 0 < j) fun i j => .int (i % j)
def oDiv : O2 := oI CDivW fun i j => .int (i / j)
def oPow : O2 := oI CPow fun i j => .int (i ^ j.toNat)
theorem de_sub (ha : DE X F W a wa) (hb : DE X F W b wb) : DE X F W (.BinOp a .Sub b pos) (wOp oSub wa wb) := de_op op_sub oI0_int oI0_mono ha hb
theorem de_mul (ha : DE X F W a wa) (hb : DE X F W b wb) : DE X F W (.BinOp a .Mult b pos) (wOp oMul wa wb) := de_op op_mul oI_int oI_mono ha hb
theorem de_mod (ha : DE X F W a wa) (hb : DE X F W b wb) : DE X F W (.BinOp a .Mod b pos) (wOp oMod wa wb) := de_op op_mod oI_int oI_mono ha hb
theorem de_div (ha : DE X F W a wa) (hb : DE X F W b wb) : DE X F W (.BinOp a .FloorDiv b pos) (wOp oDiv wa wb) := de_op op_fdivW oI_int oI_mono ha hb
theorem de_pow (ha : DE X F W a wa) (hb : DE X F W b wb) : DE X F W (.BinOp a .Pow b pos) (wOp oPow wa wb) := de_op op_pow oI_int oI_mono ha hb
theorem de_add (ha : DE X F W a wa) (hb : DE X F W b wb) : DE X F W (.BinOp a .Add b pos) (wOp oAdd wa wb) := de_op op_add oI0_int oI0_mono ha hb
def oLt : O2 := oI0 fun i j => .bl (decide (i < j))
def oLe : O2 := oI0 fun i j => .bl (decide (i ≤ j))
def oGt : O2 := oI0 fun i j => .bl (decide (j < i))
def oGe : O2 := oI0 fun i j => .bl (decide (j ≤ i))
theorem de_lt (ha : DE X F W a wa) (hb : DE X F W b wb) : DE X F W (.Compare a [.Lt] [b] pos) (wOp oLt wa wb) := de_cmp op_lt oI0_bl oI0_mono ha hb (nomark _)
theorem de_le (ha : DE X F W a wa) (hb : DE X F W b wb) : DE X F W (.Compare a [.LtE] [b] pos) (wOp oLe wa wb) := de_cmp op_le oI0_bl oI0_mono ha hb (nomark _)
theorem de_gt (ha : DE X F W a wa) (hb : DE X F W b wb) : DE X F W (.Compare a [.Gt] [b] pos) (wOp oGt wa wb) := de_cmp op_gt oI0_bl oI0_mono ha hb (nomark _)
theorem de_ge (ha : DE X F W a wa) (hb : DE X F W b wb) : DE X F W (.Compare a [.GtE] [b] pos) (wOp oGe wa wb) := de_cmp op_ge oI0_bl oI0_mono ha hb (nomark _)
/-- -n -/
def oNeg : O1 := fun x k => match x with
  | .sh (.int i) => k (.sh (.int (-i)))
  | _ => False
theorem de_neg (ha : DE X F W a wa) : DE X F W (.UnaryOp .USub a pos) (wUn oNeg wa) := de_un un_neg (fun l H x vx ks Q hc ho hq => by
  unfold oNeg at ho
  split at ho
  · rename_i i
    have e1 := hc.shInt
    cases e1
    exact ⟨i, rfl, hq _ _ H ho (hc.tail.int _)⟩
  · exact ho.elim) (fun x k k' m h => by
  unfold oNeg at h ⊢
  split at h
  · exact m _ h
  · exact h.elim) ha
/-- x is b, x is not b of truth values -/
def oIsB (neg : Bool) : O2 := fun x y k => match x, y with
  | .sh (.bl i), .sh (.bl j) => k (.sh (.bl (neg ^^ decide (i = j))))
  | _, _ => False
theorem oIsB_mono {neg : Bool} : OMono (oIsB neg) := fun x y k k' m h => by
  unfold oIsB at h ⊢
  split at h
  · exact m _ h
  · exact h.elim
theorem de_isB (ha : DE X F W a wa) (hb : DE X F W b wb) : DE X F W (.Compare a [.Is] [b] pos) (wOp (oIsB false) wa wb) := de_cmp op_isBl (fun l H x y vx vy ks Q hc ho hq => by
  unfold oIsB at ho
  split at ho
  · rename_i i j
    have e1 := hc.shBl
    have e2 := hc.tail.shBl
    cases e1; cases e2
    refine ⟨i, j, rfl, rfl, hq _ _ H ho ?_⟩
    rw [Bool.false_xor]
    exact hc.tail.tail.bl _
  · exact ho.elim) oIsB_mono ha hb (nomark _)
theorem de_isnB (ha : DE X F W a wa) (hb : DE X F W b wb) : DE X F W (.Compare a [.IsNot] [b] pos) (wOp (oIsB true) wa wb) := de_cmp op_notBl (fun l H x y vx vy ks Q hc ho hq => by
  unfold oIsB at ho
  split at ho
  · rename_i i j
    have e1 := hc.shBl
    have e2 := hc.tail.shBl
    cases e1; cases e2
    refine ⟨i, j, rfl, rfl, hq _ _ H ho ?_⟩
    rw [Bool.true_xor]
    exact hc.tail.tail.bl _
  · exact ho.elim) oIsB_mono ha hb (nomark _)
/-- x is None, x is not None -/
def D.isNon : D → Bool
  | .non => true
  | _ => false
def oIsN (neg : Bool) : O1 := fun x k => match x.dat with
  | some d => k (.sh (.bl (neg ^^ d.isNon)))
  | none => False
theorem oIsN_mono {neg : Bool} : O1Mono (oIsN neg) := fun x k k' m h => by
  unfold oIsN at h ⊢
  split at h
  · exact m _ h
  · exact h.elim
theorem rep_isNon {K : PySem.W.Frag} {S : Hp} {v : V} {d : D} (r : Rep K S v d) : decide (v = .non) = d.isNon := by cases r <;> rfl
theorem C.isNon {l : List Cell} {H : Hp} {x : Slot} {v : V} {d : D} (h : C F ((x, some v) :: l) H) (hx : x.dat = some d) : decide (v = .non) = d.isNon := by
  obtain ⟨S, g, cc, _⟩ := h
  have s := cc _ List.mem_cons_self
  cases x with
  | un => cases hx
  | sh d' => cases hx; obtain ⟨u, e, r⟩ := s; cases e; exact rep_isNon r
  | ow d' => cases hx; obtain ⟨a, e, _, _, r⟩ := s; cases e; cases d <;> first | rfl | exact r.elim
  | bo d' => cases hx; obtain ⟨a, e, _, r⟩ := s; cases e; cases d <;> first | rfl | exact r.elim
  | bt d' => cases hx; obtain ⟨a, e, r⟩ := s; cases e; cases d <;> first | rfl | exact r.elim
theorem le_isN {neg : Bool} {r : R2} (hr : ∀ x H Q, Q (.bl (neg ^^ decide (x = .non))) H → r x .non H Q) (ha : DE X F W a wa) {σ : L2.St} {H : Hp} {Q : VK} (h : LE F W (wUn (oIsN neg) wa) σ H Q) : tOp r (LE F W wa) (tC .non) σ H Q := by
  obtain ⟨l, env, k, h⟩ := h
  refine ⟨l, env, k, lep_mono ha.mono h (fun x hx v H1 c1 => ?_) fun c fs q => q⟩
  unfold oIsN at hx
  split at hx
  · rename_i d e
    refine hr v H1 Q ?_
    rw [c1.isNon e]
    exact hx _ H1 (c1.tail.bl _)
  · exact hx.elim
theorem de_isN {j : Nat} {p : Pos} (ha : DE X F W a wa) : DE X F W (.Compare a [.Is] [.Constant .none j p] pos) (wUn (oIsN false) wa) :=
  ⟨pe_imp (pe_cmpR op_isN ha.run pe_non (nomark _)) fun _ _ _ h => le_isN (neg := false) (fun x H Q q => ⟨rfl, by rw [Bool.false_xor] at q; exact q⟩) ha h, mono_un ha.mono oIsN_mono⟩
theorem de_isnN {j : Nat} {p : Pos} (ha : DE X F W a wa) : DE X F W (.Compare a [.IsNot] [.Constant .none j p] pos) (wUn (oIsN true) wa) :=
  ⟨pe_imp (pe_cmpR op_notN ha.run pe_non (nomark _)) fun _ _ _ h => le_isN (neg := true) (fun x H Q q => ⟨rfl, by rw [Bool.true_xor] at q; exact q⟩) ha h, mono_un ha.mono oIsN_mono⟩

/-! ### tests -/
def asB (k : Bool → Prop) : Slot → Prop
  | .sh (.bl b) => k b
  | _ => False
def wAnd (wa wb : WE) : WE := fun env Q => wa env (rk (asB fun b => match b with | true => wb env Q | false => Q (.ok (.sh (.bl false)))) Q)
def wOr (wa wb : WE) : WE := fun env Q => wa env (rk (asB fun b => match b with | true => Q (.ok (.sh (.bl true))) | false => wb env Q) Q)
def wNot (wa : WE) : WE := fun env Q => wa env (rk (asB fun b => Q (.ok (.sh (.bl !b)))) Q)
theorem asB_mono {k k' : Bool → Prop} (m : ∀ b, k b → k' b) {x : Slot} (h : asB k x) : asB k' x := by
  unfold asB at h ⊢
  split at h
  · exact m _ h
  · exact h.elim
theorem mono_and (ha : Mono wa) (hb : Mono wb) : Mono (wAnd wa wb) := fun env Q Q' m h => mono_rk ha (fun x hx => asB_mono (fun b q => match b, q with
  | true, q => hb env _ _ m q
  | false, q => m _ q) hx) m h
theorem mono_or (ha : Mono wa) (hb : Mono wb) : Mono (wOr wa wb) := fun env Q Q' m h => mono_rk ha (fun x hx => asB_mono (fun b q => match b, q with
  | true, q => m _ q
  | false, q => hb env _ _ m q) hx) m h
theorem mono_not (ha : Mono wa) : Mono (wNot wa) := fun env Q Q' m h => mono_rk ha (fun x hx => asB_mono (fun b q => m _ q) hx) m h
theorem ltp_mono {β : Type} {w : WE} {l : List Cell} {env : En} {σ : L2.St} {k : Bool → Prop} {Q : R β → Prop} {Q' : Bool → Hp → Prop} (m : Mono w) (h : w env (rk (asB k) Q))
    (h1 : ∀ b, k b → ∀ H', C F (l ++ env.zip σ) H' → Q' b H') (h2 : ∀ c fs, Q (.ex c fs) → LTp F W l env σ Q' (.ex c fs)) : w env (LTp F W l env σ Q') :=
  m env _ _ (fun r q => match r, q with
    | .ok x, q => by
      show ∃ b, x = .sh (.bl b) ∧ _
      have q : asB k x := q
      unfold asB at q
      split at q
      · exact ⟨_, rfl, fun H' c => h1 _ q H' c⟩
      · exact q.elim
    | .ex c fs, q => h2 c fs q) h
theorem dt_val (h : DE X F W e w) (he : ∀ whole, isTrue e X.env whole = (do let v ← whole; standAt e.pos; holding [v] (truthy v)) := by intro _; rfl) : DT X F W e w := by
  refine ⟨pt_imp (pt_val h.run he) fun σ H Q ⟨l, env, k, q⟩ => ⟨l, env, k, h.mono env _ _ (fun r z => ?_) q⟩, h.mono⟩
  cases r with
  | ok x =>
    obtain ⟨b, rfl, z⟩ := z
    exact fun v H' c => by
      have e := c.shBl
      cases e
      exact ⟨b, rfl, z H' c.tail⟩
  | ex c fs => exact z
theorem dt_not (h : DT X F W a wa) : DT X F W (.UnaryOp .Not a pos) (wNot wa) := ⟨pt_imp (pt_not h.run) fun σ H Q ⟨l, env, k, q⟩ => ⟨l, env, k, ltp_mono h.mono q (fun b hb H' c => by
    obtain ⟨b', e, z⟩ := hb
    cases e
    exact z H' c) fun c fs z => z⟩, mono_not h.mono⟩
theorem dw_and1 (h : DT X F W a wa) : DW X F W (.BoolOp .And [a] pos) wa := ⟨pw_and1 h.run, h.mono⟩
theorem dw_or1 (h : DT X F W a wa) : DW X F W (.BoolOp .Or [a] pos) wa := ⟨pw_or1 h.run, h.mono⟩
theorem dw_and (h : DT X F W a wa) (h2 : DW X F W (.BoolOp .And (b :: es) pos) wb) : DW X F W (.BoolOp .And (a :: b :: es) pos) (wAnd wa wb) :=
  ⟨pw_imp (pw_and h.run h2.run) fun σ H Q ⟨l, env, k, q⟩ => ⟨l, env, k, ltp_mono h.mono q (fun b hb H' c => by
    cases b with
    | true => exact ⟨l, env, k.at c, hb⟩
    | false =>
      obtain ⟨b', e, z⟩ := hb
      cases e
      exact z H' c) fun c fs z => z⟩, mono_and h.mono h2.mono⟩
theorem dw_or (h : DT X F W a wa) (h2 : DW X F W (.BoolOp .Or (b :: es) pos) wb) : DW X F W (.BoolOp .Or (a :: b :: es) pos) (wOr wa wb) :=
  ⟨pw_imp (pw_or h.run h2.run) fun σ H Q ⟨l, env, k, q⟩ => ⟨l, env, k, ltp_mono h.mono q (fun b hb H' c => by
    cases b with
    | false => exact ⟨l, env, k.at c, hb⟩
    | true =>
      obtain ⟨b', e, z⟩ := hb
      cases e
      exact z H' c) fun c fs z => z⟩, mono_or h.mono h2.mono⟩
theorem dt_bool (h : DW X F W e w) : DT X F W e w := ⟨h.run.pt, h.mono⟩
/-- .. as values -/
theorem de_one {op : BoolOp} (h : DE X F W a wa) : DE X F W (.BoolOp op [a] pos) wa := ⟨pe_one h.run, h.mono⟩
theorem de_and (h : DE X F W a wa) (h2 : DE X F W (.BoolOp .And (b :: es) pos) wb) : DE X F W (.BoolOp .And (a :: b :: es) pos) (wAnd wa wb) :=
  ⟨pe_imp (pe_and h.run h2.run) fun σ H Q ⟨l, env, k, q⟩ => ⟨l, env, k, lep_mono h.mono q (fun x hx v H' c => by
    unfold asB at hx
    split at hx
    · rename_i b
      have e := c.shBl
      cases e
      refine ⟨b, rfl, ?_⟩
      cases b with
      | true => exact ⟨l, env, k.at c.tail, hx⟩
      | false => exact hx _ H' c
    · exact hx.elim) fun c fs z => z⟩, mono_and h.mono h2.mono⟩
theorem de_or (h : DE X F W a wa) (h2 : DE X F W (.BoolOp .Or (b :: es) pos) wb) : DE X F W (.BoolOp .Or (a :: b :: es) pos) (wOr wa wb) :=
  ⟨pe_imp (pe_or h.run h2.run) fun σ H Q ⟨l, env, k, q⟩ => ⟨l, env, k, lep_mono h.mono q (fun x hx v H' c => by
    unfold asB at hx
    split at hx
    · rename_i b
      have e := c.shBl
      cases e
      refine ⟨b, rfl, ?_⟩
      cases b with
      | false => exact ⟨l, env, k.at c.tail, hx⟩
      | true => exact hx _ H' c
    · exact hx.elim) fun c fs z => z⟩, mono_or h.mono h2.mono⟩
theorem de_not (h : DE X F W a wa) : DE X F W (.UnaryOp .Not a pos) (wNot wa) := ⟨pe_imp (pe_not h.run) fun σ H Q ⟨l, env, k, q⟩ => ⟨l, env, k, lep_mono h.mono q (fun x hx v H' c => by
    unfold asB at hx
    split at hx
    · rename_i b
      have e := c.shBl
      cases e
      exact ⟨b, rfl, hx _ H' (c.tail.bl _)⟩
    · exact hx.elim) fun c fs z => z⟩, mono_not h.mono⟩
def wIte (wt wa wb : WE) : WE := fun env Q => wt env (rk (asB fun b => match b with | true => wa env Q | false => wb env Q) Q)
theorem de_ite (ht : DT X F W c wc) (ha : DE X F W a wa) (hb : DE X F W b wb) : DE X F W (.IfExp c a b pos) (wIte wc wa wb) :=
  ⟨pe_imp (pe_ifExp ht.run ha.run hb.run) fun σ H Q ⟨l, env, k, q⟩ => ⟨l, env, k, ltp_mono ht.mono q (fun b hb H' c => by
    cases b with
    | true => exact ⟨l, env, k.at c, hb⟩
    | false => exact ⟨l, env, k.at c, hb⟩) fun c fs z => z⟩, fun env Q Q' m h => mono_rk ht.mono (fun x hx => asB_mono (fun b q => match b, q with
  | true, q => ha.mono env _ _ m q
  | false, q => hb.mono env _ _ m q) hx) m h⟩

/-! ### arguments, tuples, lists -/
def aNil : WA := fun _ Q => Q (.ok [])
def aCons (wa : WE) (wr : WA) : WA := fun env Q => wa env (rk (fun x => wr env (rk (fun xs => Q (.ok (x :: xs))) Q)) Q)
theorem da_nil : DA X F W [] aNil := ⟨pa_imp pa_nil fun σ H Q ⟨l, env, k, q⟩ => q [] H rfl k.c, fun _ _ _ m h => m _ h⟩
theorem da_cons (h : DE X F W e w) (h2 : DA X F W es wA) (hs : starEach (e :: es) X.env = (false, eval e X.env) :: starEach es X.env := by rfl) : DA X F W (e :: es) (aCons w wA) := by
  refine ⟨pa_imp (pa_cons h.run h2.run hs) fun σ H Q ⟨l, env, k, q⟩ => ⟨l, env, k, lep_mono h.mono q (fun x hx v H1 c1 => ?_) fun c fs z => z⟩, fun env Q Q' m q => mono_rk h.mono (fun x hx => mono_rk h2.mono (fun xs hxs => m _ hxs) m hx) m q⟩
  refine ⟨(x, some v) :: l, env, k.to1 c1, h2.mono env _ _ (fun r z => ?_) hx⟩
  cases r with
  | ok xs =>
    intro vs H' hl c2
    exact z (v :: vs) H' (by simp [hl]) (C.front c2)
  | ex c fs => exact fun A d H' hA hx c3 => z A d H' hA hx c3.tail
def Slot.stab : Slot → Option D
  | .sh d => some d
  | .ow d => some d
  | _ => none
def stabs : List Slot → Option (List D)
  | [] => some []
  | x :: xs => match x.stab, stabs xs with
    | some d, some ds => some (d :: ds)
    | _, _ => none
theorem stabs_len : ∀ {xs : List Slot} {ds : List D}, stabs xs = some ds → ds.length = xs.length
  | [], ds, h => by cases h; rfl
  | x :: xs, ds, h => by
    unfold stabs at h
    split at h
    · rename_i d ds' e1 e2
      cases h
      simp [stabs_len e2]
    · cases h
/-- the temporaries of a display become shared -/
theorem C.stab {x : Slot} {d : D} {v : Option V} {l : List Cell} {H : Hp} (h : C F ((x, v) :: l) H) (hx : x.stab = some d) : C F ((.sh d, v) :: l) H := by
  cases x with
  | sh d' => cases hx; exact h
  | ow d' => cases hx; exact h.frz
  | un => cases hx
  | bo d' => cases hx
  | bt d' => cases hx
theorem C.stabs : ∀ {xs : List Slot} {ds : List D} {vs : List V} {l : List Cell} {H : Hp}, C F (xs.zip (vs.map some) ++ l) H → DL.stabs xs = some ds → vs.length = xs.length → C F ((ds.map Slot.sh).zip (vs.map some) ++ l) H
  | [], ds, vs, l, H, h, e, hl => by cases e; cases vs with
    | nil => exact h
    | cons _ _ => simp at hl
  | x :: xs, ds, [], l, H, h, e, hl => by simp at hl
  | x :: xs, ds, v :: vs, l, H, h, e, hl => by
    unfold DL.stabs at e
    split at e
    · rename_i d ds' e1 e2
      cases e
      have h1 : C F ((Slot.sh d, some v) :: (xs.zip (vs.map some) ++ l)) H := C.stab (h : C F ((x, some v) :: (xs.zip (vs.map some) ++ l)) H) e1
      have h2 := C.stabs (xs := xs) (l := (Slot.sh d, some v) :: l) (h1.back) e2 (by simpa using hl)
      exact C.front h2
    · cases e
theorem C.reps : ∀ {ds : List D} {vs : List V} {l : List Cell} {S H : Hp}, vs.length = ds.length → (∀ q ∈ (ds.map Slot.sh).zip (vs.map some) ++ l, SC F S H q) → Reps F.K S vs ds
  | [], [], _, _, _, _, _ => .nil
  | [], v :: vs, _, _, _, h, _ => by simp at h
  | d :: ds, [], _, _, _, h, _ => by simp at h
  | d :: ds, v :: vs, l, S, H, hl, h => by
    obtain ⟨u, e, r⟩ := h (Slot.sh d, some v) (by simp)
    cases e
    exact .cons r (C.reps (l := l) (by simpa using hl) fun q hq => h q (List.mem_cons_of_mem _ hq))
def wTup (wA : WA) : WE := fun env Q => wA env (rk (fun xs => match stabs xs with
  | some ds => ds.length ≤ 16777216 ∧ Q (.ok (.sh (.tup ds)))
  | none => False) Q)
def wLst (wA : WA) : WE := fun env Q => wA env (rk (fun xs => match stabs xs with
  | some ds => ds.length ≤ 16777216 ∧ Q (.ok (.ow (.lst ds)))
  | none => False) Q)
theorem lap_mono {β : Type} {l : List Cell} {env : En} {σ : L2.St} {k : List Slot → Prop} {Q : R β → Prop} {Q' : List V → Hp → Prop} (m : Mono wA) (h : wA env (rk k Q))
    (h1 : ∀ xs, k xs → ∀ vs H', vs.length = xs.length → C F (xs.zip (vs.map some) ++ (l ++ env.zip σ)) H' → Q' vs H') (h2 : ∀ c fs, Q (.ex c fs) → LAp F W l env σ Q' (.ex c fs)) : wA env (LAp F W l env σ Q') :=
  m env _ _ (fun r q => match r, q with
    | .ok x, q => h1 x q
    | .ex c fs, q => h2 c fs q) h
theorem de_tup {k : Nat} (h : DA X F W es wA) : DE X F W (.Tuple es k pos) (wTup wA) := by
  refine ⟨pe_imp (pe_tup h.run) fun σ H Q ⟨l, env, k, q⟩ => ⟨l, env, k, lap_mono h.mono q (fun xs hx vs H1 hl c1 => ?_) fun c fs z => z⟩, fun env Q Q' m q => mono_rk h.mono (fun xs hx => ?_) m q⟩
  · split at hx
    · rename_i ds e
      have hd := stabs_len e
      refine ⟨by rw [sizeLine_eq]; omega, fun p hp => hx.2 _ _ ?_⟩
      have c2 := c1.stabs e hl
      exact (c2.newSh (d := .tup ds) hp fun S g a => .tup upd_same ((C.reps (by omega) a).mono (same_new (g.sh.free hp)))).perm ((List.Perm.refl _)) |>.sub (List.Sublist.cons_cons _ (List.sublist_append_right _ _))
    · exact hx.elim
  · split at hx
    · exact ⟨hx.1, m _ hx.2⟩
    · exact hx.elim
theorem de_lst (h : DA X F W es wA) : DE X F W (.List es pos) (wLst wA) := by
  refine ⟨pe_imp (pe_lst h.run) fun σ H Q ⟨l, env, k, q⟩ => ⟨l, env, k, lap_mono h.mono q (fun xs hx vs H1 hl c1 => ?_) fun c fs z => z⟩, fun env Q Q' m q => mono_rk h.mono (fun xs hx => ?_) m q⟩
  · split at hx
    · rename_i ds e
      have hd := stabs_len e
      refine ⟨by rw [sizeLine_eq]; omega, fun p hp => hx.2 _ _ ?_⟩
      have c2 := c1.stabs e hl
      exact (c2.newOw (d := .lst ds) hp fun S g a => ⟨vs, rfl, C.reps (by omega) a⟩).sub (List.Sublist.cons_cons _ (List.sublist_append_right _ _))
    · exact hx.elim
  · split at hx
    · exact ⟨hx.1, m _ hx.2⟩
    · exact hx.elim
end
end DL

set_option Elab.async false
set_option linter.all false
set_option maxRecDepth 100000
set_option maxHeartbeats 4000000
/-! DL, part 3: equality, membership, subscripts, slices, built-in functions -/
namespace DL
open PySem PySem.Spec PyProof.Rows L2

/-! ### a value as plain data -/
mutual
def D.py : D → PyData
  | .non => .none
  | .bl b => .bool b
  | .int i => .int i
  | .str s => .str s
  | .tup ds => .tuple (D.pys ds)
  | .lst ds => .list (D.pys ds)
  | .dk _ => .dict []
  | .dt _ => .dict []
def D.pys : List D → List PyData
  | [] => []
  | d :: ds => d.py :: D.pys ds
end
/-- == of two values -/
def eqD (d e : D) : Bool := PyData.eqv d.py e.py
def Shp (d : D) : Prop := SeqAt.shaped d.py = true
theorem pys_len : ∀ ds : List D, (D.pys ds).length = ds.length
  | [] => rfl
  | _ :: ds => congrArg (· + 1) (pys_len ds)
theorem pys_map : ∀ ds : List D, D.pys ds = ds.map D.py
  | [] => rfl
  | _ :: ds => by rw [List.map_cons, ← pys_map ds]; rfl
theorem canLayAll_all : ∀ l : List PyData, PyData.canLayAll0 l = l.all PyData.canLay0
  | [] => by simp [PyData.canLayAll0]
  | x :: l => by rw [List.all_cons, ← canLayAll_all l]; simp [PyData.canLayAll0]
mutual
theorem Rep.dp {K : PySem.W.Frag} {S : Hp} : ∀ {v : V} {d : D}, Rep K S v d → PyData.canLay0 d.py = true → Dp K S v d.py
  | _, _, .non, _ => .non
  | _, _, .bl, _ => .bl _
  | _, _, .int, _ => .int _
  | _, _, .str, _ => .str _
  | _, _, .tup h r, c => .tup (SqT.of h) (Reps.dp r (by simpa [D.py, PyData.canLay0] using c))
  | _, _, .lst h r, c => .lst h (Reps.dp r (by simpa [D.py, PyData.canLay0] using c))
  | _, _, .dk _ _ _, c => by simp [D.py, PyData.canLay0] at c
  | _, _, .dt _ _ _, c => by simp [D.py, PyData.canLay0] at c
theorem Reps.dp {K : PySem.W.Frag} {S : Hp} : ∀ {vs : List V} {ds : List D}, Reps K S vs ds → PyData.canLayAll0 (D.pys ds) = true → DpAll K S vs (D.pys ds)
  | _, _, .nil, _ => .nil
  | _, d :: ds, .cons h r, c => by
    have c' : PyData.canLay0 d.py = true ∧ PyData.canLayAll0 (D.pys ds) = true := by simpa [D.pys, PyData.canLayAll0, Bool.and_eq_true] using c
    exact .cons (Rep.dp h c'.1) (Reps.dp r c'.2)
end
mutual
theorem dp_mono {K : PySem.W.Frag} {S S' : Hp} (e : Same S S') : ∀ {v : V} {d : PyData}, Dp K S v d → Dp K S' v d
  | _, _, .non => .non
  | _, _, .bl _ => .bl _
  | _, _, .int _ => .int _
  | _, _, .str _ => .str _
  | _, _, .tup h r => .tup (sqT_mono e h) (dps_mono e r)
  | _, _, .lst h r => .lst (sqL_mono e h) (dps_mono e r)
theorem dps_mono {K : PySem.W.Frag} {S S' : Hp} (e : Same S S') : ∀ {vs : List V} {ds : List PyData}, DpAll K S vs ds → DpAll K S' vs ds
  | _, _, .nil => .nil
  | _, _, .cons h r => .cons (dp_mono e h) (dps_mono e r)
end
section
variable {F : Fr}
theorem C.dp {l : List Cell} {H : Hp} {x : Slot} {v : V} {d : D} (h : C F ((x, some v) :: l) H) (hx : x.dat = some d) (c : PyData.canLay0 d.py = true) : Dp F.K H v d.py := by
  obtain ⟨S, g, cc, _⟩ := h
  have s := cc _ List.mem_cons_self
  have one : ∀ {d : D} {a : Addr}, PyData.canLay0 d.py = true → RC F.K S (H a) d → Dp F.K H (.ref a) d.py := fun {d a} c r => by
    cases d with
    | lst ds => obtain ⟨vs, e2, r⟩ := r; exact .lst (SqL.of e2) (dps_mono g.sh (r.dp (by simpa [D.py, PyData.canLay0] using c)))
    | dk kds => simp [D.py, PyData.canLay0] at c
    | dt kds => simp [D.py, PyData.canLay0] at c
    | _ => exact r.elim
  cases x with
  | un => cases hx
  | sh d' => cases hx; obtain ⟨u, e, r⟩ := s; cases e; exact dp_mono g.sh (r.dp c)
  | ow d' => cases hx; obtain ⟨a, e, _, _, r⟩ := s; cases e; exact one c r
  | bo d' => cases hx; obtain ⟨a, e, _, r⟩ := s; cases e; exact one c r
  | bt d' => cases hx; obtain ⟨a, e, r⟩ := s; cases e; exact one c r
end
theorem canLay_shp {d : D} (h : Shp d) : PyData.canLay0 d.py = true := SeqAt.canLay_of_shaped h

/-- the two that == takes: numbers, texts, truth values, None (in the pairs that the rule serves), or data of any depth -/
def D.scal : D → D → Bool
  | .non, .non => true
  | .non, .int _ => true
  | .int _, .non => true
  | .non, .bl _ => true
  | .bl _, .non => true
  | .non, .str _ => true
  | .str _, .non => true
  | .int _, .int _ => true
  | .bl _, .bl _ => true
  | .str _, .str _ => true
  | _, _ => false
def EqOk (d e : D) : Prop := D.scal d e = true ∨ (Shp d ∧ Shp e)
def oEq (neg : Bool) : O2 := fun x y k => match x.dat, y.dat with
  | some d, some e => EqOk d e ∧ k (.sh (.bl (neg ^^ eqD d e)))
  | _, _ => False
theorem oEq_mono {neg : Bool} : OMono (oEq neg) := fun x y k k' m h => by
  unfold oEq at h ⊢
  split at h
  · exact ⟨h.1, m _ h.2⟩
  · exact h.elim
section
variable {X : Cx} {F : Fr} {W : WX} {a b c e o : Expr} {es : List Expr} {wa wb wc w : WE} {wA : WA} {pos : Pos}
theorem C.scalar {l : List Cell} {H : Hp} {x : Slot} {v : V} {d : D} (h : C F ((x, some v) :: l) H) (hx : x.dat = some d) (hd : RC F.K H none d = False := by rfl) :
    (∀ S o, ¬ RC F.K S o d) → ∃ S, Rep F.K S v d := fun n => by
  obtain ⟨S, g, cc, _⟩ := h
  have s := cc _ List.mem_cons_self
  cases x with
  | un => cases hx
  | sh d' => cases hx; obtain ⟨u, e, r⟩ := s; cases e; exact ⟨S, r⟩
  | ow d' => cases hx; obtain ⟨a, e, _, _, r⟩ := s; exact (n _ _ r).elim
  | bo d' => cases hx; obtain ⟨a, e, _, r⟩ := s; exact (n _ _ r).elim
  | bt d' => cases hx; obtain ⟨a, e, r⟩ := s; exact (n _ _ r).elim
theorem rep_scal {K : PySem.W.Frag} {S S' : Hp} {v u : V} {d e : D} (r : Rep K S v d) (q : Rep K S' u e) (h : D.scal d e = true) : L2.scal v u = true ∧ decide (v = u) = eqD d e := by
  cases r <;> cases q <;> first
    | (exfalso; simp [D.scal] at h; done)
    | exact ⟨rfl, by first | rfl | (simp [eqD, D.py, PyData.eqv]; done) | (simp only [eqD, D.py, PyData.eqv]; first | exact dec_int | exact dec_bl | exact dec_str)⟩
theorem noRC_scal {d e : D} (h : D.scal d e = true) : (∀ K S o, ¬ RC K S o d) ∧ ∀ K S o, ¬ RC K S o e := by
  cases d <;> cases e <;> first
    | (exfalso; simp [D.scal] at h; done)
    | exact ⟨fun _ _ _ z => z, fun _ _ _ z => z⟩
def rEqA (K : PySem.W.Frag) : R2 := fun x y H Q => rEq x y H Q ∨ rEqD K x y H Q
def rNeA (K : PySem.W.Frag) : R2 := fun x y H Q => rNe x y H Q ∨ rNeD K x y H Q
theorem C.repOf {l : List Cell} {H : Hp} {x : Slot} {v : V} {d : D} (h : C F ((x, some v) :: l) H) (hx : x.dat = some d) (n : ∀ K S o, ¬ RC K S o d) : ∃ S, Rep F.K S v d := by
  obtain ⟨S, g, cc, _⟩ := h
  have s := cc _ List.mem_cons_self
  cases x with
  | un => cases hx
  | sh d' => cases hx; obtain ⟨u, e, r⟩ := s; cases e; exact ⟨S, r⟩
  | ow d' => cases hx; obtain ⟨a, e, _, _, r⟩ := s; exact (n _ _ _ r).elim
  | bo d' => cases hx; obtain ⟨a, e, _, r⟩ := s; exact (n _ _ _ r).elim
  | bt d' => cases hx; obtain ⟨a, e, r⟩ := s; exact (n _ _ _ r).elim
theorem snd_eq : SndOp F (rEqA F.K) (oEq false) := fun l H x y vx vy ks Q hc ho hq => by
  unfold oEq at ho
  split at ho
  · rename_i d e ed ee
    obtain ⟨ok, ho⟩ := ho
    rw [Bool.false_xor] at ho
    have fin : Q (.bl (eqD d e)) H := hq _ _ H ho (hc.tail.tail.bl _)
    rcases ok with ok | ⟨s1, s2⟩
    · obtain ⟨n1, n2⟩ := noRC_scal ok
      obtain ⟨S1, r1⟩ := hc.tail.repOf ed n1
      obtain ⟨S2, r2⟩ := hc.repOf ee n2
      obtain ⟨z1, z2⟩ := rep_scal r1 r2 ok
      exact .inl ⟨z1, by rw [z2]; exact fin⟩
    · exact .inr ⟨_, _, hc.tail.dp ed (canLay_shp s1), hc.dp ee (canLay_shp s2), s1, s2, fin⟩
  · exact ho.elim
theorem snd_ne : SndOp F (rNeA F.K) (oEq true) := fun l H x y vx vy ks Q hc ho hq => by
  unfold oEq at ho
  split at ho
  · rename_i d e ed ee
    obtain ⟨ok, ho⟩ := ho
    rw [Bool.true_xor] at ho
    have fin : Q (.bl (!eqD d e)) H := hq _ _ H ho (hc.tail.tail.bl _)
    rcases ok with ok | ⟨s1, s2⟩
    · obtain ⟨n1, n2⟩ := noRC_scal ok
      obtain ⟨S1, r1⟩ := hc.tail.repOf ed n1
      obtain ⟨S2, r2⟩ := hc.repOf ee n2
      obtain ⟨z1, z2⟩ := rep_scal r1 r2 ok
      exact .inl ⟨z1, by rw [z2]; exact fin⟩
    · exact .inr ⟨_, _, hc.tail.dp ed (canLay_shp s1), hc.dp ee (canLay_shp s2), s1, s2, fin⟩
  · exact ho.elim
theorem de_eq (hu : X.A.units + 65 < cLine) (ha : DE X F W a wa) (hb : DE X F W b wb) (hK : X.K = F.K := by rfl) : DE X F W (.Compare a [.Eq] [b] pos) (wOp (oEq false) wa wb) :=
  de_cmp (r := rEqA F.K) (by rw [← hK]; exact op_eq.or (op_eqD (by omega))) snd_eq oEq_mono ha hb (nomark _)
theorem de_ne (hu : X.A.units + 65 < cLine) (ha : DE X F W a wa) (hb : DE X F W b wb) (hK : X.K = F.K := by rfl) : DE X F W (.Compare a [.NotEq] [b] pos) (wOp (oEq true) wa wb) :=
  de_cmp (r := rNeA F.K) (by rw [← hK]; exact op_ne.or (op_neD (by omega))) snd_ne oEq_mono ha hb (nomark _)

/-! ### dicts: keys -/
/-- a value as a key -/
def D.key : D → Option L2.Key
  | .int i => some (.inl i)
  | .str s => some (.inr s)
  | _ => none
def D.keys : List D → Option (List L2.Key)
  | [] => some []
  | d :: ds => match d.key, D.keys ds with
    | some k, some ks => some (k :: ks)
    | _, _ => none
def D.keyT : D → Option (List L2.Key)
  | .tup ds => D.keys ds
  | _ => none
section
variable {κ α : Type} [DecidableEq κ]
def lk (kds : List (κ × α)) (k : κ) : Option α := (kds.find? fun kv => decide (kv.1 = k)).map (·.2)
def put (kds : List (κ × α)) (k : κ) (d : α) : List (κ × α) := if (kds.any fun kv => decide (kv.1 = k)) = true then kds.map (fun kv => if kv.1 = k then (kv.1, d) else kv) else kds ++ [(k, d)]
def del (kds : List (κ × α)) (k : κ) : List (κ × α) := kds.filter fun kv => decide (kv.1 ≠ k)
end
theorem lk_valV {κ : Type} [DecidableEq κ] {K : PySem.W.Frag} {S : Hp} (k : κ) : ∀ {kvs : List (κ × V)} {kds : List (κ × D)}, kvs.map Prod.fst = kds.map Prod.fst → Reps K S (kvs.map Prod.snd) (kds.map Prod.snd) →
    (lk kds k = none ∧ valV kvs k = none) ∨ ∃ d v, lk kds k = some d ∧ valV kvs k = some v ∧ Rep K S v d
  | [], [], _, _ => .inl ⟨rfl, rfl⟩
  | [], _ :: _, h, _ => by simp at h
  | _ :: _, [], h, _ => by simp at h
  | (k1, v) :: kvs, (k2, d) :: kds, h, r => by
    have h1 : k1 = k2 := by simpa using congrArg List.head? h
    have h2 : kvs.map Prod.fst = kds.map Prod.fst := by simpa using congrArg List.tail h
    subst h1
    have r' : Reps K S (v :: kvs.map Prod.snd) (d :: kds.map Prod.snd) := r
    cases r' with
    | cons r1 r2 =>
      by_cases e : k1 = k
      · refine .inr ⟨d, v, ?_, ?_, r1⟩
        · simp [lk, List.find?_cons, e]
        · simp [valV, List.find?_cons, e]
      · rcases lk_valV k h2 r2 with ⟨a, b⟩ | ⟨d', v', a, b, c⟩
        · refine .inl ⟨?_, ?_⟩
          · simpa [lk, List.find?_cons, e] using a
          · simpa [valV, List.find?_cons, e] using b
        · refine .inr ⟨d', v', ?_, ?_, c⟩
          · simpa [lk, List.find?_cons, e] using a
          · simpa [valV, List.find?_cons, e] using b
theorem rep_key {K : PySem.W.Frag} {S : Hp} {v : V} {d : D} {k : L2.Key} (r : Rep K S v d) (h : d.key = some k) : v = kV k := by
  cases r <;> first | (cases h; rfl) | cases h
theorem reps_keys {K : PySem.W.Frag} {S : Hp} : ∀ {vs : List V} {ds : List D} {ks : List L2.Key}, Reps K S vs ds → D.keys ds = some ks → vs = ks.map kV
  | _, _, _, .nil, h => by cases h; rfl
  | _, _, ks, .cons r rr, h => by
    unfold D.keys at h
    split at h
    · rename_i k ks' e1 e2
      cases h
      rw [List.map_cons, ← rep_key r e1, ← reps_keys rr e2]
    · cases h
/-- a slot's dict may be read -/
theorem C.dictK {l : List Cell} {H : Hp} {x : Slot} {v : Option V} {kds : List (L2.Key × D)} (h : C F ((x, v) :: l) H) (hx : x.dat = some (.dk kds)) :
    ∃ a kvs, v = some (.ref a) ∧ Rd H a (.dK kvs) ∧ kvs.map Prod.fst = kds.map Prod.fst ∧ ∃ S, GS F S H ∧ Reps F.K S (kvs.map Prod.snd) (kds.map Prod.snd) ∧ (∀ p ∈ (x, v) :: l, SC F S H p) ∧ ((x, v) :: l).Pairwise Apart := by
  obtain ⟨S, g, cc, pw⟩ := h
  have s := cc _ List.mem_cons_self
  cases x with
  | un => cases hx
  | sh d' => cases hx; obtain ⟨u, e, r⟩ := s; cases r with
    | dk hr k r => exact ⟨_, _, e, rd_mono g.sh hr, k, S, g, r, cc, pw⟩
  | ow d' => cases hx; obtain ⟨a, e, _, _, kvs, e2, k, r⟩ := s; exact ⟨a, kvs, e, .inl e2, k, S, g, r, cc, pw⟩
  | bo d' => cases hx; obtain ⟨a, e, _, kvs, e2, k, r⟩ := s; exact ⟨a, kvs, e, .inl e2, k, S, g, r, cc, pw⟩
  | bt d' => cases hx; obtain ⟨a, e, kvs, e2, k, r⟩ := s; exact ⟨a, kvs, e, .inl e2, k, S, g, r, cc, pw⟩
theorem C.dictT {l : List Cell} {H : Hp} {x : Slot} {v : Option V} {kds : List (List L2.Key × D)} (h : C F ((x, v) :: l) H) (hx : x.dat = some (.dt kds)) :
    ∃ a kvs, v = some (.ref a) ∧ H a = some (.dT kvs) ∧ kvs.map Prod.fst = kds.map Prod.fst ∧ ∃ S, GS F S H ∧ Reps F.K S (kvs.map Prod.snd) (kds.map Prod.snd) ∧ (∀ p ∈ (x, v) :: l, SC F S H p) ∧ ((x, v) :: l).Pairwise Apart := by
  obtain ⟨S, g, cc, pw⟩ := h
  have s := cc _ List.mem_cons_self
  cases x with
  | un => cases hx
  | sh d' => cases hx; obtain ⟨u, e, r⟩ := s; cases r with
    | dt hr k r => exact ⟨_, _, e, g.sh _ _ hr, k, S, g, r, cc, pw⟩
  | ow d' => cases hx; obtain ⟨a, e, _, _, kvs, e2, k, r⟩ := s; exact ⟨a, kvs, e, e2, k, S, g, r, cc, pw⟩
  | bo d' => cases hx; obtain ⟨a, e, _, kvs, e2, k, r⟩ := s; exact ⟨a, kvs, e, e2, k, S, g, r, cc, pw⟩
  | bt d' => cases hx; obtain ⟨a, e, kvs, e2, k, r⟩ := s; exact ⟨a, kvs, e, e2, k, S, g, r, cc, pw⟩
theorem C.sh0 {l : List Cell} {H : Hp} {v : V} {d : D} (h : C F ((.sh d, some v) :: l) H) : ∃ S, GS F S H ∧ Rep F.K S v d := by
  obtain ⟨S, g, cc, _⟩ := h
  obtain ⟨u, e, r⟩ := cc _ List.mem_cons_self
  cases e
  exact ⟨S, g, r⟩
theorem C.key {l : List Cell} {H : Hp} {v : V} {d : D} {k : L2.Key} (h : C F ((.sh d, some v) :: l) H) (hk : d.key = some k) : v = kV k := by
  obtain ⟨S, _, r⟩ := h.sh0
  exact rep_key r hk
/-- a new or tracked tuple of keys (none of the written part) -/
theorem rep_keyT {K : PySem.W.Frag} {S : Hp} {v : V} {ds : List D} {ks : List L2.Key} (r : Rep K S v (.tup ds)) (hk : D.keys ds = some ks) : ∃ a, v = .ref a ∧ S a = some (.tup (ks.map kV)) := by
  cases r with
  | tup hq r =>
    rw [reps_keys r hk] at hq
    exact ⟨_, rfl, hq⟩
/-- an item beside what stands -/
theorem C.beside {l : List Cell} {H : Hp} {v : V} {d : D} {S : Hp} (g : GS F S H) (cc : ∀ p ∈ l, SC F S H p) (pw : l.Pairwise Apart) (r : Rep F.K S v d) : C F ((.sh d, some v) :: l) H :=
  ⟨S, g, fun p hp => by
    rcases List.mem_cons.mp hp with rfl | hp
    · exact ⟨v, rfl, r⟩
    · exact cc p hp, pw_cons_noOw (fun z => z) pw⟩
end
end DL

set_option Elab.async false
set_option linter.all false
set_option maxRecDepth 100000
set_option maxHeartbeats 4000000
/-! DL, part 4: subscripts, membership, slices, built-in functions -/
namespace DL
open PySem PySem.Spec PyProof.Rows L2

section
variable {X : Cx} {F : Fr} {W : WX} {a b c e o : Expr} {es : List Expr} {wa wb wc w : WE} {wA : WA} {pos : Pos}

/-! ### a[b] -/
def rIxD : R2 := fun x y H Q => ∃ a v, x = .ref a ∧ DGet H a y (some v) ∧ Q v H
theorem ix_dict (hu : X.A.units + 1 < cLine) : IxR X rIxD := by
  intro value slice pins s σ H x y v u Q I rx ry h hs
  obtain ⟨a, z, rfl, g, q⟩ := h
  cases rx
  have hT := dict_typeIs I g
  unfold subscriptTail
  refine wpAny_bind ?_
  rw [getitemInPython_of_ne hT.not_modules]
  refine wpAny_bind (wpAny_specialOf hT PySem.F.slot_dict_getitem.lookup ?_)
  have h₂ : wpAny (model X.prog X.w) X.A (getItem (.ref a) u) (EP X pins σ Q) X.xe s := d_getItem hu I g ry fun w' s3 I3 rw' => ⟨z, H, I3, rw', q⟩
  have fin : wpAny (model X.prog X.w) X.A (subscripted slice false (.ref a) u) (fun r s₃ => wpAny (model X.prog X.w) X.A (letTemporaryGo value (.ref a) r >>= fun _ => pure r) (EP X pins σ Q) X.xe s₃) X.xe s := by
    rw [hs]
    exact wpAny_operating (wpAny_mono h₂ (fun r s₃ h₃ => wpAny_bind (wpAny_letTemporaryGo (wpAny_pure h₃))) fun _ _ x => x)
  first
    | exact wpAny_pure (wpAny_bind fin)
    | exact wpAny_bind (wpAny_pure (wpAny_bind fin))
    | exact wpAny_bind fin
def rIxA (K : PySem.W.Frag) : R2 := fun x y H Q => rIx K x y H Q ∨ rIxD x y H Q
/-- the item: a list's, a tuple's, a text's sign, a dict's -/
def itemOf (d e : D) (k : D → Prop) : Prop := match d with
  | .lst ds => ∃ i z, e = .int i ∧ atI ds i = some z ∧ k z
  | .tup ds => ∃ i z, e = .int i ∧ atI ds i = some z ∧ k z
  | .str s => s.length ≤ 16777216 ∧ ∃ i c, e = .int i ∧ atI s.cps.toList i = some c ∧ k (.str ⟨#[c]⟩)
  | .dk kds => ∃ j z, e.key = some j ∧ lk kds j = some z ∧ k z
  | .dt kds => ∃ j z, e.keyT = some j ∧ lk kds j = some z ∧ k z
  | _ => False
def oIx : O2 := fun x y k => match x.dat, y with
  | some d, .sh e => itemOf d e fun z => k (.sh z)
  | _, _ => False
theorem itemOf_mono {d e : D} {k k' : D → Prop} (m : ∀ z, k z → k' z) (h : itemOf d e k) : itemOf d e k' := by
  cases d with
  | lst ds => obtain ⟨i, z, h1, h2, h3⟩ := h; exact ⟨i, z, h1, h2, m _ h3⟩
  | tup ds => obtain ⟨i, z, h1, h2, h3⟩ := h; exact ⟨i, z, h1, h2, m _ h3⟩
  | str s => obtain ⟨h0, i, z, h1, h2, h3⟩ := h; exact ⟨h0, i, z, h1, h2, m _ h3⟩
  | dk s => obtain ⟨i, z, h1, h2, h3⟩ := h; exact ⟨i, z, h1, h2, m _ h3⟩
  | dt s => obtain ⟨i, z, h1, h2, h3⟩ := h; exact ⟨i, z, h1, h2, m _ h3⟩
  | _ => exact h.elim
theorem oIx_mono : OMono oIx := fun x y k k' m h => by
  unfold oIx at h ⊢
  split at h
  · exact itemOf_mono (fun z hz => m _ hz) h
  · exact h.elim
theorem atI_reps {K : PySem.W.Frag} {S : Hp} {vs : List V} {ds : List D} {i : Int} {d : D} (r : Reps K S vs ds) (h : atI ds i = some d) : ∃ (j : Nat) (u : V), ds[j]? = some d ∧ vs[j]? = some u ∧ atI vs i = some u := by
  unfold atI at h ⊢
  rw [r.len]
  cases q : ixN ds.length i with
  | none => rw [q] at h; cases h
  | some j =>
    rw [q] at h
    have h : ds[j]? = some d := h
    obtain ⟨u, hu, _⟩ := r.get h
    exact ⟨j, u, h, hu, hu⟩
theorem rd_dget {S H : Hp} {y : V} {kvs : List (L2.Key × V)} {a : Addr} {j : L2.Key} {v : V} (h : Rd H a (.dK kvs)) (e : y = kV j) (q : valV kvs j = some v) : DGet H a y (some v) := .inl ⟨kvs, j, h, e, q.symm⟩
/-- a sign, an item, a dict's value -/
theorem item_snd {l : List Cell} {H : Hp} {x : Slot} {d e : D} {vx vy : V} {k : D → Prop} {Q : VK} (hc : C F ((.sh e, some vy) :: (x, some vx) :: l) H) (hx : x.dat = some d) (h : itemOf d e k)
    (hq : ∀ z v, k z → C F ((.sh z, some v) :: l) H → Q v H) : rIxA F.K vx vy H Q := by
  cases d with
  | lst ds =>
    obtain ⟨i, z, rfl, h2, h3⟩ := h
    have ei := hc.shInt
    cases ei
    obtain ⟨a, vs, ea, hl, hlen, S, g, r, cc, pw⟩ := hc.tail.seqL hx
    cases ea
    obtain ⟨j, u, h4, h5, h6⟩ := atI_reps r h2
    obtain ⟨d', e4, ru⟩ := r.getV h5
    rw [h4] at e4; cases e4
    exact .inl (.inl ⟨a, vs, i, u, rfl, rfl, hl, h6, hq z u h3 (C.beside g (fun p hp => cc p (List.mem_cons_of_mem _ hp)) pw ru)⟩)
  | tup ds =>
    obtain ⟨i, z, rfl, h2, h3⟩ := h
    have ei := hc.shInt
    cases ei
    obtain ⟨a, vs, ea, hl, hlen, S, g, r, cc, pw⟩ := hc.tail.seqT hx
    cases ea
    obtain ⟨j, u, h4, h5, h6⟩ := atI_reps r h2
    obtain ⟨d', e4, ru⟩ := r.getV h5
    rw [h4] at e4; cases e4
    exact .inl (.inr (.inl ⟨a, vs, i, u, rfl, rfl, hl, h6, hq z u h3 (C.beside g (fun p hp => cc p (List.mem_cons_of_mem _ hp)) pw ru)⟩))
  | str s =>
    obtain ⟨h0, i, c, rfl, h2, h3⟩ := h
    have ei := hc.shInt
    cases ei
    obtain ⟨S, r⟩ := hc.tail.repOf hx fun _ _ _ z => z
    cases r
    exact .inl (.inr (.inr ⟨s, i, c, rfl, rfl, by rw [sizeLine_eq]; exact h0, h2, hq _ _ h3 (hc.tail.tail.str _)⟩))
  | dk kds =>
    obtain ⟨j, z, h1, h2, h3⟩ := h
    have ek := hc.key h1
    obtain ⟨a, kvs, ea, hr, hk, S, g, r, cc, pw⟩ := hc.tail.dictK hx
    cases ea
    rcases lk_valV j hk r with ⟨n, _⟩ | ⟨d', v', n, m, rr⟩
    · rw [n] at h2; cases h2
    · rw [n] at h2; cases h2
      exact .inr ⟨a, v', rfl, .inl ⟨kvs, j, hr, ek, m.symm⟩, hq _ _ h3 ((C.beside g cc pw rr).swap.tail)⟩
  | dt kds =>
    obtain ⟨j, z, h1, h2, h3⟩ := h
    cases e with
    | tup es =>
      obtain ⟨S0, g0, r0⟩ := hc.sh0
      obtain ⟨ta, et, ht⟩ := rep_keyT r0 h1
      obtain ⟨a, kvs, ea, hr, hk, S, g, r, cc, pw⟩ := hc.tail.dictT hx
      cases ea
      rcases lk_valV j hk r with ⟨n, _⟩ | ⟨d', v', n, m, rr⟩
      · rw [n] at h2; cases h2
      · rw [n] at h2; cases h2
        exact .inr ⟨a, v', rfl, .inr ⟨kvs, j, ta, .inl hr, et, g0.sh _ _ ht, m.symm⟩, hq _ _ h3 ((C.beside g cc pw rr).swap.tail)⟩
    | _ => cases h1
  | _ => exact h.elim
theorem snd_ix : SndOp F (rIxA F.K) oIx := fun l H x y vx vy ks Q hc ho hq => by
  unfold oIx at ho
  split at ho
  · rename_i d e hd
    exact item_snd hc hd ho fun z v hz cz => hq _ _ H hz cz
  · exact ho.elim
theorem de_ix (hu : X.A.units + 65 < cLine) (ha : DE X F W a wa) (hb : DE X F W b wb) (hs : PlainIx b := by intro _ _; rfl) (hK : X.K = F.K := by rfl) : DE X F W (.Subscript a b pos) (wOp oIx wa wb) :=
  ⟨pe_imp (pe_ix (r := rIxA F.K) (by rw [← hK]; exact ix_seq.or (ix_dict (by omega))) ha.run hb.run hs) fun _ _ _ h => le_op snd_ix ha hb h, mono_op ha.mono hb.mono oIx_mono⟩
/-- a[n], n a written place -/
def oIxN (n : Nat) : O1 := fun x k => match x.dat with
  | some (.lst ds) => (match ds[n]? with | some d => k (.sh d) | none => False)
  | some (.tup ds) => (match ds[n]? with | some d => k (.sh d) | none => False)
  | some (.str s) => s.length ≤ 16777216 ∧ (match s.cps.toList[n]? with | some c => k (.sh (.str ⟨#[c]⟩)) | none => False)
  | _ => False
theorem oIxN_mono {n : Nat} : O1Mono (oIxN n) := fun x k k' m h => by
  unfold oIxN at h ⊢
  split at h
  · split at h
    · exact m _ h
    · exact h.elim
  · split at h
    · exact m _ h
    · exact h.elim
  · refine ⟨h.1, ?_⟩
    have h := h.2
    split at h
    · exact m _ h
    · exact h.elim
  · exact h.elim
theorem oIxN_ix {n : Nat} {x : Slot} {k : Slot → Prop} (h : oIxN n x k) : oIx x (.sh (.int (n : Int))) k := by
  unfold oIxN at h
  unfold oIx
  split at h
  · rename_i ds e
    rw [e]
    split at h
    · rename_i d e2
      exact ⟨_, d, rfl, atI_nat e2, h⟩
    · exact h.elim
  · rename_i ds e
    rw [e]
    split at h
    · rename_i d e2
      exact ⟨_, d, rfl, atI_nat e2, h⟩
    · exact h.elim
  · rename_i s e
    rw [e]
    obtain ⟨h0, h⟩ := h
    split at h
    · rename_i d e2
      exact ⟨h0, _, d, rfl, atI_nat e2, h⟩
    · exact h.elim
  · exact h.elim
theorem de_ixN (n : Nat) {i : Int} {j : Nat} {p : Pos} (hu : X.A.units + 65 < cLine) (ha : DE X F W a wa) (hi : i = (n : Int) := by rfl) (hK : X.K = F.K := by rfl) : DE X F W (.Subscript a (.Constant (.int i) j p) pos) (wUn (oIxN n) wa) := by
  subst hi
  have h := de_ix (pos := pos) hu ha (de_int (X := X) (F := F) (W := W) (i := (n : Int)) (j := j) (pos := p)) (fun _ _ => rfl) hK
  refine ⟨pe_imp h.run fun σ H Q ⟨l, env, k, q⟩ => ⟨l, env, k, ?_⟩, mono_un ha.mono oIxN_mono⟩
  exact mono_rk ha.mono (fun x hx => (show oIx x (.sh (.int (n : Int))) (fun z => LEp F W l env σ Q (R.ok z)) from oIxN_ix hx)) (fun _ z => z) q
/-- a[-1] -/
def oIxL : O1 := fun x k => match x.dat with
  | some (.lst ds) => (match ds.getLast? with | some d => k (.sh d) | none => False)
  | _ => False
theorem oIxL_mono : O1Mono oIxL := fun x k k' m h => by
  unfold oIxL at h ⊢
  split at h
  · split at h
    · exact m _ h
    · exact h.elim
  · exact h.elim
theorem atI_lastD {ds : List D} {d : D} (h : ds.getLast? = some d) : atI ds (-1) = some d := by
  obtain ⟨ys, rfl⟩ : ∃ ys, ds = ys ++ [d] := by
    rw [List.getLast?_eq_some_iff] at h
    exact h
  exact atI_last _ _
theorem de_ixL {j : Nat} {p p2 : Pos} (hu : X.A.units + 65 < cLine) (ha : DE X F W a wa) (hK : X.K = F.K := by rfl) : DE X F W (.Subscript a (.UnaryOp .USub (.Constant (.int 1) j p) p2) pos) (wUn oIxL wa) := by
  have h := de_ix (pos := pos) hu ha (de_neg (pos := p2) (de_int (X := X) (F := F) (W := W) (i := 1) (j := j) (pos := p))) (fun _ _ => rfl) hK
  refine ⟨pe_imp h.run fun σ H Q ⟨l, env, k, q⟩ => ⟨l, env, k, ?_⟩, mono_un ha.mono oIxL_mono⟩
  refine mono_rk ha.mono (fun x hx => ?_) (fun _ z => z) q
  unfold oIxL at hx
  split at hx
  · rename_i ds e
    split at hx
    · rename_i d e2
      show oIx x (.sh (.int (-1))) (fun z => LEp F W l env σ Q (R.ok z))
      unfold oIx
      rw [e]
      exact ⟨-1, d, rfl, atI_lastD e2, hx⟩
    · exact hx.elim
  · exact hx.elim

/-! ### x in y -/
def hasK {κ : Type} [DecidableEq κ] (kds : List (κ × D)) (k : κ) : Bool := (lk kds k).isSome
def memD (x : D) (ds : List D) : Bool := ds.any fun z => eqD z x
def D.flat : D → Bool
  | .non => true
  | .bl _ => true
  | .int _ => true
  | .str _ => true
  | _ => false
def inOf (d e : D) (k : Bool → Prop) : Prop := match d with
  | .lst ds => ((Shp e ∧ Shp (.lst ds)) ∨ (e.flat = true ∧ ds.all D.flat = true)) ∧ k (memD e ds)
  | .tup ds => e.flat = true ∧ ds.all D.flat = true ∧ k (memD e ds)
  | .str s => ∃ c, e = .str ⟨#[c]⟩ ∧ k (decide (c ∈ s.cps.toList))
  | .dk kds => ∃ j, e.key = some j ∧ k (hasK kds j)
  | .dt kds => ∃ j, e.keyT = some j ∧ k (hasK kds j)
  | _ => False
theorem inOf_mono {d e : D} {k k' : Bool → Prop} (m : ∀ z, k z → k' z) (h : inOf d e k) : inOf d e k' := by
  cases d with
  | lst ds => exact ⟨h.1, m _ h.2⟩
  | tup ds => exact ⟨h.1, h.2.1, m _ h.2.2⟩
  | str s => obtain ⟨c, h1, h2⟩ := h; exact ⟨c, h1, m _ h2⟩
  | dk s => obtain ⟨c, h1, h2⟩ := h; exact ⟨c, h1, m _ h2⟩
  | dt s => obtain ⟨c, h1, h2⟩ := h; exact ⟨c, h1, m _ h2⟩
  | _ => exact h.elim
def oIn (neg : Bool) : O2 := fun x y k => match x, y.dat with
  | .sh e, some d => inOf d e fun z => k (.sh (.bl (neg ^^ z)))
  | _, _ => False
theorem oIn_mono {neg : Bool} : OMono (oIn neg) := fun x y k k' m h => by
  unfold oIn at h ⊢
  split at h
  · exact inOf_mono (fun z hz => m _ hz) h
  · exact h.elim
def rDIn (neg : Bool) : R2 := fun x y H Q => ∃ a o, y = .ref a ∧ DGet H a x o ∧ Q (.bl (neg ^^ o.isSome)) H
def rSgn (neg : Bool) : R2 := fun x y H Q => ∃ (c : Nat) (z : Str), x = .str ⟨#[c]⟩ ∧ y = .str z ∧ Q (.bl (neg ^^ decide (c ∈ z.cps.toList))) H
def rInDn (K : PySem.W.Frag) (neg : Bool) : R2 := fun x y H Q => ∃ d ds, Dp K H x d ∧ Dp K H y (.list ds) ∧ SeqAt.shaped d = true ∧ SeqAt.shaped (.list ds) = true ∧ Q (.bl (neg ^^ ds.any fun z => PyData.eqv z d)) H
def rInA (K : PySem.W.Frag) (neg : Bool) : R2 := fun x y H Q => (L2.rIn K neg x y H Q ∨ rInDn K neg x y H Q) ∨ (rDIn neg x y H Q ∨ rSgn neg x y H Q)
theorem op_inA (hu : X.A.units + 65 < cLine) : OpR X (compareOp .In) (rInA X.K false) := by
  refine (op_in_seq.or ?_).or (OpR.or ?_ ?_)
  · intro pins s σ H x y v u Q I rx ry ⟨d, ds, h1, h2, h3, h4, q⟩
    exact op_inD hu pins s σ H x y v u Q I rx ry ⟨d, ds, h1, h2, h3, h4, by rw [Bool.false_xor] at q; exact q⟩
  · intro pins s σ H x y v u Q I rx ry ⟨a, o, e, g, q⟩
    subst e
    cases ry
    rw [Bool.false_xor] at q
    exact d_in (by omega) I g rx fun s3 I3 => ⟨.bl o.isSome, H, I3, rfl, q⟩
  · intro pins s σ H x y v u Q I rx ry ⟨c, z, e1, e2, q⟩
    rw [Bool.false_xor] at q
    exact op_in_sign pins s σ H x y v u Q I rx ry ⟨c, z, e1, e2, q⟩
theorem op_notInA (hu : X.A.units + 65 < cLine) : OpR X (compareOp .NotIn) (rInA X.K true) := by
  refine (op_notIn_seq.or ?_).or (OpR.or ?_ ?_)
  · intro pins s σ H x y v u Q I rx ry ⟨d, ds, h1, h2, h3, h4, q⟩
    exact op_notInD hu pins s σ H x y v u Q I rx ry ⟨d, ds, h1, h2, h3, h4, by rw [Bool.true_xor] at q; exact q⟩
  · intro pins s σ H x y v u Q I rx ry ⟨a, o, e, g, q⟩
    subst e
    cases ry
    rw [Bool.true_xor] at q
    exact d_notIn (by omega) I g rx fun s3 I3 => ⟨.bl !o.isSome, H, I3, rfl, q⟩
  · intro pins s σ H x y v u Q I rx ry ⟨c, z, e1, e2, q⟩
    rw [Bool.true_xor] at q
    exact op_notIn_sign pins s σ H x y v u Q I rx ry ⟨c, z, e1, e2, q⟩
theorem rep_flat {K : PySem.W.Frag} {S : Hp} {v : V} {d : D} (r : Rep K S v d) (h : d.flat = true) : flatV v = true := by
  cases r <;> first | rfl | (cases h; done)
theorem rep_flatEq {K : PySem.W.Frag} {S S' : Hp} {v u : V} {d e : D} (r : Rep K S v d) (q : Rep K S' u e) (h1 : d.flat = true) (h2 : e.flat = true) : eqV v u = eqD d e := by
  cases r <;> first
    | (cases h1; done)
    | (cases q <;> first
      | (cases h2; done)
      | rfl
      | (simp [eqV, eqD, D.py, PyData.eqv]))
theorem reps_flat {K : PySem.W.Frag} {S : Hp} : ∀ {vs : List V} {ds : List D}, Reps K S vs ds → ds.all D.flat = true → vs.all flatV = true
  | _, _, .nil, _ => rfl
  | _, d :: ds, .cons r rr, h => by
    rw [List.all_cons, Bool.and_eq_true] at h
    rw [List.all_cons, rep_flat r h.1, reps_flat rr h.2]; rfl
theorem reps_inV {K : PySem.W.Frag} {S S' : Hp} {u : V} {e : D} (q : Rep K S' u e) (he : e.flat = true) : ∀ {vs : List V} {ds : List D}, Reps K S vs ds → ds.all D.flat = true → inV u vs = memD e ds
  | _, _, .nil, _ => rfl
  | _, d :: ds, .cons r rr, h => by
    rw [List.all_cons, Bool.and_eq_true] at h
    have ih := reps_inV q he rr h.2
    show (eqV _ u || inV u _) = (eqD d e || memD e ds)
    rw [ih, rep_flatEq r q h.1 he]
theorem flat_noRC {d : D} (h : d.flat = true) : ∀ K S o, ¬ RC K S o d := by
  cases d <;> first | (intro _ _ _ z; exact z) | (cases h; done)
theorem snd_in {neg : Bool} : SndOp F (rInA F.K neg) (oIn neg) := fun l H x y vx vy ks Q hc ho hq => by
  unfold oIn at ho
  split at ho
  · rename_i e d hd
    have fin : ∀ b, ks (.sh (.bl (neg ^^ b))) → Q (.bl (neg ^^ b)) H := fun b hb => hq _ _ H hb (hc.tail.tail.bl _)
    have fin' : ∀ b, ks (.sh (.bl (neg ^^ b))) → Q (.bl (if neg = true then !b else b)) H := fun b hb => by
      have := fin b hb
      cases neg with
      | true => rw [Bool.true_xor] at this; exact this
      | false => rw [Bool.false_xor] at this; exact this
    cases d with
    | lst ds =>
      obtain ⟨c, hk⟩ := ho
      rcases c with ⟨s1, s2⟩ | ⟨s1, s2⟩
      · refine .inl (.inr ⟨e.py, D.pys ds, hc.tail.dp (x := .sh e) rfl (canLay_shp s1), ?_, s1, s2, ?_⟩)
        · exact hc.dp (d := .lst ds) hd (canLay_shp s2)
        · have z := fin _ hk
          rw [pys_map, List.any_map]
          exact z
      · obtain ⟨S1, _, r1⟩ := hc.tail.sh0
        obtain ⟨a, vs, ea, hl, hlen, S, g, r, cc, pw⟩ := hc.seqL hd
        cases ea
        refine .inl (.inl ⟨a, vs, rfl, .inl hl, rep_flat r1 s1, reps_flat r s2, ?_⟩)
        rw [reps_inV r1 s1 r s2]
        exact fin' _ hk
    | tup ds =>
      obtain ⟨s1, s2, hk⟩ := ho
      obtain ⟨S1, _, r1⟩ := hc.tail.sh0
      obtain ⟨a, vs, ea, hl, hlen, S, g, r, cc, pw⟩ := hc.seqT hd
      cases ea
      refine .inl (.inl ⟨a, vs, rfl, .inr hl, rep_flat r1 s1, reps_flat r s2, ?_⟩)
      rw [reps_inV r1 s1 r s2]
      exact fin' _ hk
    | str s =>
      obtain ⟨c, rfl, hk⟩ := ho
      have e1 := hc.tail.shStr
      cases e1
      obtain ⟨S, r⟩ := hc.repOf hd fun _ _ _ z => z
      cases r
      exact .inr (.inr ⟨c, s, rfl, rfl, fin _ hk⟩)
    | dk kds =>
      obtain ⟨j, h1, hk⟩ := ho
      have ek := hc.tail.key h1
      obtain ⟨a, kvs, ea, hr, hkk, S, g, r, cc, pw⟩ := hc.dictK hd
      cases ea
      refine .inr (.inl ⟨a, valV kvs j, rfl, .inl ⟨kvs, j, hr, ek, rfl⟩, ?_⟩)
      have z := fin _ hk
      unfold hasK at z
      rcases lk_valV j hkk r with ⟨n, m⟩ | ⟨d', v', n, m, rr⟩
      · rw [n] at z; rw [m]; exact z
      · rw [n] at z; rw [m]; exact z
    | dt kds =>
      obtain ⟨j, h1, hk⟩ := ho
      cases e with
      | tup es =>
        obtain ⟨S0, g0, r0⟩ := hc.tail.sh0
        obtain ⟨ta, et, ht⟩ := rep_keyT r0 h1
        obtain ⟨a, kvs, ea, hr, hkk, S, g, r, cc, pw⟩ := hc.dictT hd
        cases ea
        refine .inr (.inl ⟨a, valV kvs j, rfl, .inr ⟨kvs, j, ta, .inl hr, et, g0.sh _ _ ht, rfl⟩, ?_⟩)
        have z := fin _ hk
        unfold hasK at z
        rcases lk_valV j hkk r with ⟨n, m⟩ | ⟨d', v', n, m, rr⟩
        · rw [n] at z; rw [m]; exact z
        · rw [n] at z; rw [m]; exact z
      | _ => cases h1
    | _ => exact ho.elim
  · exact ho.elim
theorem de_in (hu : X.A.units + 65 < cLine) (ha : DE X F W a wa) (hb : DE X F W b wb) (hm : behindInMarks .In b = false := by rfl) (hK : X.K = F.K := by rfl) : DE X F W (.Compare a [.In] [b] pos) (wOp (oIn false) wa wb) :=
  de_cmp (r := rInA F.K false) (by rw [← hK]; exact op_inA hu) snd_in oIn_mono ha hb hm
theorem de_notIn (hu : X.A.units + 65 < cLine) (ha : DE X F W a wa) (hb : DE X F W b wb) (hm : behindInMarks .NotIn b = false := by rfl) (hK : X.K = F.K := by rfl) : DE X F W (.Compare a [.NotIn] [b] pos) (wOp (oIn true) wa wb) :=
  de_cmp (r := rInA F.K true) (by rw [← hK]; exact op_notInA hu) snd_in oIn_mono ha hb hm
end
end DL

set_option Elab.async false
set_option linter.all false
set_option maxRecDepth 100000
set_option maxHeartbeats 4000000
/-! DL, part 5: calls of own defs, targets, statements, a def's body -/
namespace DL
open PySem PySem.Spec PyProof.Rows L2

/-! ### own defs -/
/-- a container is shared from here on -/
def frzS : Slot → Slot
  | .ow d => .sh d
  | x => x
abbrev G := List Slot → (R Slot → Prop) → Prop
def GMono (γ : G) : Prop := ∀ xs Q Q', (∀ r, Q r → Q' r) → γ xs Q → γ xs Q'
/-- an argument as the callee has it -/
def Slot.arg : Slot → Slot
  | .sh d => .sh d
  | .ow d => .sh d
  | .bo d => .bo d
  | .bt d => .bo d
  | .un => .un
def outK (Q : R Slot → Prop) : R Slot → Prop
  | .ok (.sh d) => Q (.ok (.sh d))
  | .ok (.ow d) => Q (.ok (.ow d))
  | .ok _ => False
  | .ex c fs => Q (.ex c fs)
/-- how a callee's end is told -/
def CallP (F : Fr) (Q : VK) (E : XK) : R Slot → Prop
  | .ok (.sh d) => ∀ v H', C F [(.sh d, some v)] H' → Q v H'
  | .ok (.ow d) => ∀ v H', C F [(.ow d, some v)] H' → Q v H'
  | .ok _ => False
  | .ex c fs => ∀ A d H', F.mg c = some (.ref A) → XF H' d fs → C F [] H' → E (.ref A) d H'
def spG (K : PySem.W.Frag) (mg : Str → Option Value) (n : Nat) (γ : G) : Sp := fun vs H Q E => vs.length = n ∧ ∃ (xs : List Slot) (S : Hp), xs.length = vs.length ∧ (∀ x ∈ xs, x.still ∨ x = .un) ∧
  C ⟨K, mg, H, S⟩ (xs.zip (vs.map some)) H ∧ γ xs (CallP ⟨K, mg, H, S⟩ Q E)
def wCall (γ : G) (wA : WA) : WE := fun env Q => wA env (rk (fun xs => γ (xs.map Slot.arg) (outK Q)) Q)
theorem outK_mono {Q Q' : R Slot → Prop} (m : ∀ r, Q r → Q' r) : ∀ r, outK Q r → outK Q' r
  | .ok (.sh d), h => m _ h
  | .ok (.ow d), h => m _ h
  | .ok .un, h => h
  | .ok (.bo _), h => h
  | .ok (.bt _), h => h
  | .ex c fs, h => m _ h
section
variable {F : Fr}
/-- fresh arguments become shared -/
theorem C.argF : ∀ {xs : List Slot} {vs : List V} {l : List Cell} {H : Hp}, C F (xs.zip (vs.map some) ++ l) H → vs.length = xs.length →
    C F ((xs.map frzS).zip (vs.map some) ++ l) H
  | [], vs, l, H, h, hl => by cases vs with
    | nil => exact h
    | cons _ _ => simp at hl
  | x :: xs, [], l, H, h, hl => by simp at hl
  | x :: xs, v :: vs, l, H, h, hl => by
    have h0 : C F ((x, some v) :: (xs.zip (vs.map some) ++ l)) H := h
    have h1 : C F ((frzS x, some v) :: (xs.zip (vs.map some) ++ l)) H := by
      cases x with
      | ow d => exact h0.frz
      | sh d => exact h0
      | un => exact h0
      | bo d => exact h0
      | bt d => exact h0
    exact C.front (C.argF (xs := xs) h1.back (by simpa using hl))
theorem arg_still : ∀ x : Slot, (x.arg).still ∨ x.arg = .un
  | .sh _ => .inl trivial
  | .ow _ => .inl trivial
  | .bo _ => .inl trivial
  | .bt _ => .inl trivial
  | .un => .inr rfl
/-- the callee's own frame over the caller's heap -/
theorem C.enter {xs : List Slot} {vs : List V} {l : List Cell} {H : Hp} (h : C F (xs.zip (vs.map some) ++ l) H) (hl : vs.length = xs.length) :
    ∃ S, GS F S H ∧ (∀ p ∈ l, SC F S H p) ∧ l.Pairwise Apart ∧ C ⟨F.K, F.mg, H, S⟩ ((xs.map Slot.arg).zip (vs.map some)) H := by
  obtain ⟨S, g, cc, pw⟩ := h.argF hl
  refine ⟨S, g, fun p hp => cc p (List.mem_append_right _ hp), pw.sublist (List.sublist_append_right _ _), S, ⟨Same.refl S, g.sh, Same.refl H, fun a z => .inl z⟩, fun p hp => ?_, ?_⟩
  · have conv : ∀ (xs : List Slot) (us : List (Option V)), p ∈ (xs.map Slot.arg).zip us → ∃ q ∈ (xs.map frzS).zip us, p = (q.1.arg, q.2) := by
      intro xs
      induction xs with
      | nil => intro us h; simp at h
      | cons x xs ih =>
        intro us h
        cases us with
        | nil => simp at h
        | cons u us =>
          rcases List.mem_cons.mp h with rfl | h
          · refine ⟨(frzS x, u), List.mem_cons_self, ?_⟩
            cases x <;> rfl
          · obtain ⟨q, hq, e⟩ := ih us h
            exact ⟨q, List.mem_cons_of_mem _ hq, e⟩
    obtain ⟨q, hq, rfl⟩ := conv xs _ hp
    have s := cc q (List.mem_append_left _ hq)
    obtain ⟨x, v⟩ := q
    cases x with
    | un => trivial
    | sh d => exact s
    | ow d =>
      exfalso
      have hm : Slot.ow d ∈ xs.map frzS := (List.of_mem_zip hq).1
      obtain ⟨y, _, e⟩ := List.mem_map.mp hm
      cases y <;> cases e
    | bo d => obtain ⟨a, e, _, r⟩ := s; exact ⟨a, e, r.nn, r⟩
    | bt d => obtain ⟨a, e, r⟩ := s; exact ⟨a, e, r.nn, r⟩
  · have : ∀ p ∈ (xs.map Slot.arg).zip (vs.map some), ¬ p.1.isOw := fun p hp => by
      obtain ⟨y, _, e⟩ := List.mem_map.mp (List.of_mem_zip hp).1
      rw [← e]
      cases y <;> exact fun z => z
    revert this
    generalize (xs.map Slot.arg).zip (vs.map some) = m
    intro this
    induction m with
    | nil => exact .nil
    | cons p m ih => exact pw_cons_noOw (this p List.mem_cons_self) (ih fun q hq => this q (List.mem_cons_of_mem _ hq))
/-- behind the call -/
theorem C.leave {l : List Cell} {S H H' : Hp} (g : GS F S H) (cc : ∀ p ∈ l, SC F S H p) (pw : l.Pairwise Apart) {m : List Cell} (h : C ⟨F.K, F.mg, H, S⟩ m H') (hm : ∀ p ∈ m, (∃ d v, p = (.sh d, v)) ∨ ∃ d v, p = (.ow d, v)) : C F (m ++ l) H' := by
  obtain ⟨S', g', cc', pw'⟩ := h
  have gr : ∀ p ∈ l, SC F S' H' p := fun p hp => (cc p hp).grow g'.s0 g'.h0 fun a z => g'.fr a z
  refine ⟨S', ⟨g.s0.trans g'.s0, g'.sh, g.h0.trans g'.h0, fun a z => ?_⟩, fun p hp => ?_, List.pairwise_append.mpr ⟨pw', pw, fun p hp q hq op oq => ?_⟩⟩
  · rcases g'.fr a z with z | z
    · exact g.fr a z
    · exact .inr (g.h0.free z)
  · rcases List.mem_append.mp hp with hp | hp
    · have s := cc' p hp
      rcases hm p hp with ⟨d, v, rfl⟩ | ⟨d, v, rfl⟩
      · exact s
      · obtain ⟨a, e, h0, hS, r⟩ := s
        exact ⟨a, e, g.h0.free h0, hS, r⟩
    · exact gr p hp
  · rcases hm p hp with ⟨d, v, rfl⟩ | ⟨d, v, rfl⟩
    · exact op.elim
    · obtain ⟨a, e, h0, hS, r⟩ := cc' _ hp
      obtain ⟨x, w⟩ := q
      cases x with
      | ow d2 =>
        obtain ⟨b, e2, _, _, r2⟩ := cc _ hq
        intro z
        have z' : v = w := z
        rw [z', e2] at e
        cases e
        exact r2.nn h0
      | _ => exact oq.elim
end
section
variable {X : Cx} {F : Fr} {W : WX} {a b c e o : Expr} {es : List Expr} {wa wb wc w : WE} {wA : WA} {pos : Pos}
theorem de_call {k n : Nat} {f : Addr} {fd : FuncData} {ps : List Str} {γ : G} {x : Str} {p : Pos} (m : GMono γ) (Fk : FnOk X.prog X.w X.K X.mg X.base (L2.CX X.prog X.w) k f fd ps (spG F.K F.mg n γ)) (hr : Room k X.A)
    (hm : X.mg x = some (.ref f)) (hk : PySem.W.keepIn X.K (.ref f) = true) (hb : Binds X.K fd ps []) (tk : Takes X W) (hn : (e :: es).length = n) (ha : DA X F W (e :: es) wA) (hnA : ∀ env Q, wA env Q → wA env fun r => Q r ∧ ∀ xs, r = .ok xs → xs.length = n)
    (hg : Gl X x := by rfl) (hdb : (x == ("__debug__" : Str)) = false := by decide) (he : starEach (e :: es) X.env = (false, eval e X.env) :: starEach es X.env := by rfl) (hpl : (backTo pos (starEach es X.env)).any (·.1) = false := by rfl) :
    DE X F W (.Call (.Name x p) (e :: es) [] pos) (wCall γ wA) := by
  refine ⟨pe_imp (pe_callS (E := L2.WE W) Fk hr hg hm hk hb (fun σ => passAt tk σ) ha.run hdb he hpl) fun σ H Q ⟨l, env, k, q⟩ => ⟨l, env, k, ?_⟩, fun env Q Q' mm q => mono_rk ha.mono (fun xs hx => m _ _ _ (outK_mono mm) hx) mm q⟩
  refine ha.mono env _ _ (fun r z => ?_) (hnA env _ q)
  obtain ⟨z, hlen⟩ := z
  cases r with
  | ex c fs => exact z
  | ok xs =>
    intro vs H1 hl c1
    have hx : γ (xs.map Slot.arg) (outK (LEp F W l env σ Q)) := z
    obtain ⟨S, g, cc, pw, ce⟩ := c1.enter hl
    refine ⟨by rw [hl]; exact hlen xs rfl, xs.map Slot.arg, S, by rw [List.length_map]; exact hl.symm, fun x hx => ?_, ce, m _ _ _ (fun r z => ?_) hx⟩
    · obtain ⟨y, _, rfl⟩ := List.mem_map.mp hx
      exact arg_still y
    · cases r with
      | ok x =>
        cases x with
        | sh d => exact fun v H' c2 => z v H' (C.leave g cc pw c2 fun p hp => by
            have e : p = (.sh d, some v) := by simpa using hp
            exact .inl ⟨d, _, e⟩)
        | ow d => exact fun v H' c2 => z v H' (C.leave g cc pw c2 fun p hp => by
            have e : p = (.ow d, some v) := by simpa using hp
            exact .inr ⟨d, _, e⟩)
        | un => exact z
        | bo d => exact z
        | bt d => exact z
      | ex c fs => exact fun A d H' hA hx c2 => z A d H' hA hx (C.leave (m := []) g cc pw c2 fun p hp => by simp at hp)
/-- the count of arguments -/
theorem len_nil : ∀ env (Q : R (List Slot) → Prop), aNil env Q → aNil env fun r => Q r ∧ ∀ xs, r = .ok xs → xs.length = 0 := fun env Q h => ⟨h, fun xs e => by cases e; rfl⟩
theorem len_cons {n : Nat} (m1 : Mono w) (m2 : Mono wA) (h2 : ∀ env Q, wA env Q → wA env fun r => Q r ∧ ∀ xs, r = .ok xs → xs.length = n) : ∀ env Q, aCons w wA env Q → aCons w wA env fun r => Q r ∧ ∀ xs, r = .ok xs → xs.length = n + 1 := fun env Q h =>
  m1 env _ _ (fun r z => match r, z with
    | .ok x, z => m2 env _ _ (fun r' z' => match r', z' with
      | .ok xs, z' => ⟨z'.1, fun ys e => by cases e; simp [z'.2 xs rfl]⟩
      | .ex c fs, z' => ⟨z'.1, fun ys e => nomatch e⟩) (h2 env _ z)
    | .ex c fs, z => ⟨z, fun ys e => nomatch e⟩) h
end

/-! ### statements -/
inductive O where
  | nx (env : En) | ret (x : Slot) | bk (env : En) | ct (env : En) | ex (c : Str) (fs : List (Str × D)) (env : En)
abbrev WS := En → (O → Prop) → Prop
abbrev WG := Slot → En → (En → Prop) → Prop
def SMono (w : WS) : Prop := ∀ env Q Q', (∀ r, Q r → Q' r) → w env Q → w env Q'
def GtMono (g : WG) : Prop := ∀ x env k k', (∀ e, k e → k' e) → g x env k → g x env k'
def rks {α : Type} (k : α → Prop) (Q : O → Prop) (env : En) : R α → Prop
  | .ok x => k x
  | .ex c fs => Q (.ex c fs env)
theorem mono_rks {α : Type} {w : En → (R α → Prop) → Prop} (m : Mono w) {k k' : α → Prop} {Q Q' : O → Prop} {env : En} (hk : ∀ x, k x → k' x) (hq : ∀ r, Q r → Q' r) (h : w env (rks k Q env)) : w env (rks k' Q' env) :=
  m env _ _ (fun r q => match r, q with
    | .ok x, q => hk x q
    | .ex c fs, q => hq _ q) h
def LSp (F : Fr) (W : WX) (l : List Cell) (D : Ends) : O → Prop
  | .nx env' => ∀ σ' H', CE F l env' σ' H' → D.nx σ' H'
  | .bk env' => ∀ σ' H', CE F l env' σ' H' → D.bk σ' H'
  | .ct env' => ∀ σ' H', CE F l env' σ' H' → D.ct σ' H'
  | .ret x => ∀ v H', C F ((x, some v) :: l) H' → D.rt v H'
  | .ex c fs env' => ∀ A d σ' H', F.mg c = some (.ref A) → XF H' d fs → CE F l env' σ' H' → W (.ref A) d σ' H'
def LS (F : Fr) (W : WX) (w : WS) : TS := fun D σ H => ∃ l env, CE F l env σ H ∧ (∀ p ∈ l, p.1.env) ∧ w env (LSp F W l D)
structure DS (X : Cx) (F : Fr) (W : WX) (st : Stmt) (w : WS) : Prop where
  run : PS X st (LS F W w)
  mono : SMono w
structure DSs (X : Cx) (F : Fr) (W : WX) (sts : List Stmt) (w : WS) : Prop where
  run : PSs X sts (LS F W w)
  mono : SMono w
def LG (F : Fr) (g : WG) : TG := fun v σ H Q => ∃ l env x, env.length = σ.length ∧ (∀ y ∈ env, y.env) ∧ C F ((x, some v) :: (l ++ env.zip σ)) H ∧ g x env fun env' => ∀ σ' H', CE F l env' σ' H' → Q σ' H'
structure DG (X : Cx) (F : Fr) (tg : Expr) (g : WG) : Prop where
  run : PG X tg (LG F g)
  mono : GtMono g
section
variable {X : Cx} {F : Fr} {W : WX} {e tg : Expr} {st : Stmt} {sts : List Stmt} {we wc : WE} {w w1 w2 : WS} {g : WG} {pos : Pos}
theorem lsp_ex {l : List Cell} {Dn : Ends} {env : En} {σ : L2.St} {Q : VK} {c : Str} {fs : List (Str × D)} (k : LSp F W l Dn (.ex c fs env)) (hl : env.length = σ.length) (ho : ∀ x ∈ env, x.env) : LEp F W l env σ Q (.ex c fs) :=
  fun A d H' hA hx c2 => k A d σ H' hA hx ⟨hl, ho, c2⟩
/-- an expression within a statement -/
theorem le_of {l : List Cell} {env : En} {σ : L2.St} {H : Hp} {D : Ends} {k : Slot → Prop} {Q : VK} (he : DE X F W e we) (ce : CE F l env σ H) (h : we env (rks k (LSp F W l D) env))
    (h1 : ∀ x, k x → ∀ v H', C F ((x, some v) :: (l ++ env.zip σ)) H' → Q v H') : LE F W we σ H Q :=
  ⟨l, env, ce, he.mono env _ _ (fun r z => match r, z with
    | .ok x, z => h1 x z
    | .ex c fs, z => lsp_ex (Dn := D) z ce.len ce.ok) h⟩
theorem lt_of {l : List Cell} {env : En} {σ : L2.St} {H : Hp} {D : Ends} {k : Bool → Prop} {Q : Bool → Hp → Prop} (he : DT X F W e we) (ce : CE F l env σ H) (h : we env (rks (asB k) (LSp F W l D) env))
    (h1 : ∀ b, k b → ∀ H', C F (l ++ env.zip σ) H' → Q b H') : LT F W we σ H Q :=
  ⟨l, env, ce, he.mono env _ _ (fun r z => match r, z with
    | .ok x, z => by
      have z : asB k x := z
      unfold asB at z
      split at z
      · exact ⟨_, rfl, fun H' c => h1 _ z H' c⟩
      · exact z.elim
    | .ex c fs, z => fun A d H' hA hx c2 => z A d σ H' hA hx ⟨ce.len, ce.ok, c2⟩) h⟩
def wNext : WS := fun env Q => Q (.nx env)
def wSeq (w1 w2 : WS) : WS := fun env Q => w1 env fun o => match o with
  | .nx e => w2 e Q
  | o => Q o
theorem ds_nil : DSs X F W [] wNext := ⟨pss_imp pss_nil fun D σ H ⟨l, env, k, hl, q⟩ => q σ H k, fun _ _ _ m h => m _ h⟩
theorem mono_seq (h1 : SMono w1) (h2 : SMono w2) : SMono (wSeq w1 w2) := fun env Q Q' m h => h1 env _ _ (fun o z => match o, z with
  | .nx e, z => h2 e _ _ m z
  | .ret _, z => m _ z
  | .bk _, z => m _ z
  | .ct _, z => m _ z
  | .ex _ _ _, z => m _ z) h
theorem ds_cons (h1 : DS X F W st w1) (h2 : DSs X F W sts w2) : DSs X F W (st :: sts) (wSeq w1 w2) :=
  ⟨pss_imp (pss_cons h1.run h2.run) fun D σ H ⟨l, env, k, hl, q⟩ => ⟨l, env, k, hl, h1.mono env _ _ (fun o z => match o, z with
    | .nx e, z => fun σ' H' k' => ⟨l, e, k', hl, z⟩
    | .ret _, z => z
    | .bk _, z => z
    | .ct _, z => z
    | .ex _ _ _, z => z) q⟩, mono_seq h1.mono h2.mono⟩
theorem ds_one (h1 : DS X F W st w1) : DSs X F W [st] w1 := ⟨pss_one h1.run, h1.mono⟩
def wBrk : WS := fun env Q => Q (.bk env)
def wCnt : WS := fun env Q => Q (.ct env)
theorem ds_pass : DS X F W (.Pass pos) wNext := ⟨ps_imp ps_pass fun D σ H ⟨l, env, k, hl, q⟩ => q σ H k, fun _ _ _ m h => m _ h⟩
theorem ds_break : DS X F W (.Break pos) wBrk := ⟨ps_imp ps_break fun D σ H ⟨l, env, k, hl, q⟩ => q σ H k, fun _ _ _ m h => m _ h⟩
theorem ds_cont : DS X F W (.Continue pos) wCnt := ⟨ps_imp ps_continue fun D σ H ⟨l, env, k, hl, q⟩ => q σ H k, fun _ _ _ m h => m _ h⟩
def wFrz (i : Nat) (w : WS) : WS := fun env Q => match env[i]? with
  | some x => w (env.set i (frzS x)) Q
  | none => False
theorem CE.frz {l : List Cell} {env : En} {σ : L2.St} {H : Hp} {i : Nat} {x : Slot} (k : CE F l env σ H) (hx : env[i]? = some x) : CE F l (env.set i (frzS x)) σ H := by
  obtain ⟨v, h1, h2⟩ := zip_get k.len hx
  refine ⟨by rw [List.length_set]; exact k.len, fun y hy => ?_, ?_⟩
  · rcases List.mem_or_eq_of_mem_set hy with hy | rfl
    · exact k.ok y hy
    · have := k.ok x (mem_of_get hx)
      cases x <;> first | exact this | trivial
  · have e : σ = σ.set i v := by
      apply List.ext_getElem?
      intro j
      rw [List.getElem?_set]
      split
      · subst_vars
        split
        · rw [h1]
        · rename_i hlt
          rw [List.getElem?_eq_none (by omega)]
      · rfl
    rw [e, zip_set]
    have p1 := perm_erase h2
    have p2 := perm_set (y := (frzS x, v)) h2
    have c1 : C F ((x, v) :: (l ++ (env.zip σ).eraseIdx i)) H := (k.c.perm (List.Perm.append_left l p1)).front
    have c2 : C F ((frzS x, v) :: (l ++ (env.zip σ).eraseIdx i)) H := by
      cases x with
      | ow d => exact c1.frz
      | un => exact c1
      | sh d => exact c1
      | bo d => exact c1
      | bt d => exact c1
    exact c2.back.perm (List.Perm.append_left l p2.symm)
theorem ds_frz (i : Nat) (h : DS X F W st w) : DS X F W st (wFrz i w) := by
  refine ⟨ps_imp h.run fun D σ H ⟨l, env, k, hl, q⟩ => ?_, fun env Q Q' m q => ?_⟩
  · unfold wFrz at q
    split at q
    · rename_i x e
      exact ⟨l, _, k.frz e, hl, q⟩
    · exact q.elim
  · unfold wFrz at q ⊢
    split at q
    · exact h.mono _ _ _ m q
    · exact q.elim
/-- name = value -/
theorem C.setName {l : List Cell} {env : En} {σ : L2.St} {H : Hp} {i : Nat} {x : Slot} {v : V} (hl : env.length = σ.length) (ho : ∀ y ∈ env, y.env) (hx : x.env) (hi : i < env.length) (c : C F ((x, some v) :: (l ++ env.zip σ)) H) : CE F l (env.set i x) (σ.set i (some v)) H := by
  refine ⟨by simp [hl], fun y hy => ?_, ?_⟩
  · rcases List.mem_or_eq_of_mem_set hy with hy | rfl
    · exact ho y hy
    · exact hx
  · rw [zip_set]
    obtain ⟨w, hw⟩ : ∃ w, (env.zip σ)[i]? = some w := ⟨_, List.getElem?_eq_getElem (by rw [List.length_zip]; omega)⟩
    have p2 := perm_set (y := (x, some v)) hw
    have c1 : C F ((x, some v) :: (l ++ (env.zip σ).eraseIdx i)) H := c.sub (List.Sublist.cons_cons _ ((List.eraseIdx_sublist _ _).append_left l))
    exact c1.back.perm (List.Perm.append_left l p2.symm)
def gN (i : Nat) : WG := fun x env k => match x with
  | .sh d => i < env.length ∧ k (env.set i (.sh d))
  | .ow d => i < env.length ∧ k (env.set i (.ow d))
  | _ => False
theorem dg_name (i : Nat) {x : Str} (hN : X.N.Nodup) (hi : X.N[i]? = some x := by rfl) (hx : Loc X.env.scope x := by first | exact Or.inl rfl | exact Or.inr rfl) (hf : X.fn x = true ∨ X.env.scope.names.lookup x = some .local := by first | exact .inl rfl | exact .inr rfl) : DG X F (.Name x pos) (gN i) := by
  refine ⟨⟨fun pins s σ H v u Q I r h => ?_⟩, fun x env k k' m h => ?_⟩
  · refine (pg_name hN hi hx hf).run pins s σ H v u Q I r ?_
    obtain ⟨l, env, y, hl, ho, c, h⟩ := h
    unfold gN at h
    split at h
    · exact h.2 _ _ (C.setName hl ho trivial h.1 c)
    · exact h.2 _ _ (C.setName hl ho trivial h.1 c)
    · exact h.elim
  · unfold gN at h ⊢
    split at h
    · exact ⟨h.1, m _ h.2⟩
    · exact ⟨h.1, m _ h.2⟩
    · exact h.elim
/-- several names from a tuple or a list -/
def wSets : List Nat → List D → En → (En → Prop) → Prop
  | [], [], env, k => k env
  | i :: is, d :: ds, env, k => i < env.length ∧ wSets is ds (env.set i (.sh d)) k
  | _, _, _, _ => False
def gT (is : List Nat) : WG := fun x env k => match x.dat with
  | some (.tup ds) => wSets is ds env k
  | some (.lst ds) => wSets is ds env k
  | _ => False
theorem wSets_mono : ∀ {is : List Nat} {ds : List D} {env : En} {k k' : En → Prop}, (∀ e, k e → k' e) → wSets is ds env k → wSets is ds env k'
  | [], [], _, _, _, m, h => m _ h
  | _ :: _, _ :: _, _, _, _, m, h => ⟨h.1, wSets_mono m h.2⟩
  | [], _ :: _, _, _, _, _, h => h.elim
  | _ :: _, [], _, _, _, _, h => h.elim
theorem wSets_len : ∀ {is : List Nat} {ds : List D} {env : En} {k : En → Prop}, wSets is ds env k → ds.length = is.length
  | [], [], _, _, _ => rfl
  | _ :: is, _ :: ds, _, _, h => by simp [wSets_len h.2]
  | [], _ :: _, _, _, h => h.elim
  | _ :: _, [], _, _, h => h.elim
/-- the names as HandS takes them -/
def gNs : List Nat → TGs
  | [] => gNil
  | i :: is => gCons (gName i) (gNs is)
inductive NamesAt (X : Cx) : List Expr → List Nat → Prop
  | nil : NamesAt X [] []
  | cons {x : Str} {p : Pos} {es : List Expr} {i : Nat} {is : List Nat} (hi : X.N[i]? = some x) (hx : Loc X.env.scope x) (hf : X.fn x = true ∨ X.env.scope.names.lookup x = some .local) (r : NamesAt X es is) : NamesAt X (.Name x p :: es) (i :: is)
theorem NamesAt.pgs (hN : X.N.Nodup) : ∀ {es : List Expr} {is : List Nat}, NamesAt X es is → PGs X es (gNs is)
  | _, _, .nil => pgs_nil
  | _, _, .cons hi hx hf r => pgs_cons (pg_name hN hi hx hf) (NamesAt.pgs hN r)
theorem gNs_run {l : List Cell} {Q : L2.St → Hp → Prop} {H : Hp} : ∀ {is : List Nat} {ds : List D} {vs : List V} {env : En} {σ : L2.St}, vs.length = ds.length → env.length = σ.length → (∀ y ∈ env, y.env) →
    (C F ((ds.map Slot.sh).zip (vs.map some) ++ (l ++ env.zip σ)) H) → wSets is ds env (fun env' => ∀ σ' H', CE F l env' σ' H' → Q σ' H') → gNs is vs σ H Q
  | [], [], [], env, σ, _, hl, ho, c, h => ⟨rfl, h σ H ⟨hl, ho, c⟩⟩
  | i :: is, d :: ds, v :: vs, env, σ, hv, hl, ho, c, h => by
    obtain ⟨hi, h⟩ := h
    refine ⟨v, vs, rfl, ?_⟩
    have c1 : C F ((.sh d, some v) :: (((ds.map Slot.sh).zip (vs.map some) ++ l) ++ env.zip σ)) H := by rw [List.append_assoc]; exact c
    have k := C.setName (x := .sh d) hl ho trivial hi c1
    refine gNs_run (is := is) (ds := ds) (vs := vs) (by simpa using hv) k.len k.ok ?_ h
    rw [← List.append_assoc]; exact k.c
  | [], _ :: _, _, _, _, _, _, _, _, h => h.elim
  | _ :: _, [], _, _, _, _, _, _, _, h => h.elim
  | _, [], _ :: _, _, _, hv, _, _, _, _ => by simp at hv
  | _, _ :: _, [], _, _, hv, _, _, _, _ => by simp at hv
theorem C.spread {l : List Cell} {vs : List V} {ds : List D} {S H : Hp} (g : GS F S H) (cc : ∀ p ∈ l, SC F S H p) (pw : l.Pairwise Apart) (r : Reps F.K S vs ds) : C F ((ds.map Slot.sh).zip (vs.map some) ++ l) H := by
  have : ∀ {vs : List V} {ds : List D}, Reps F.K S vs ds → (∀ p ∈ (ds.map Slot.sh).zip (vs.map some), SC F S H p) ∧ ∀ p ∈ (ds.map Slot.sh).zip (vs.map some), ¬ p.1.isOw := fun {vs ds} r => by
    induction ds generalizing vs with
    | nil => cases r; exact ⟨fun p hp => by simp at hp, fun p hp => by simp at hp⟩
    | cons d ds ih =>
      cases r with
      | cons r1 r2 =>
        obtain ⟨i1, i2⟩ := ih r2
        refine ⟨fun p hp => ?_, fun p hp => ?_⟩
        · rcases List.mem_cons.mp hp with rfl | hp
          · exact ⟨_, rfl, r1⟩
          · exact i1 p hp
        · rcases List.mem_cons.mp hp with rfl | hp
          · exact fun z => z
          · exact i2 p hp
  obtain ⟨i1, i2⟩ := this r
  refine ⟨S, g, fun p hp => (List.mem_append.mp hp).elim (i1 p) (cc p), ?_⟩
  revert i2
  generalize (ds.map Slot.sh).zip (vs.map some) = m
  intro i2
  induction m with
  | nil => exact pw
  | cons p m ih => exact pw_cons_noOw (i2 p List.mem_cons_self) (ih fun q hq => i2 q (List.mem_cons_of_mem _ hq))
theorem pg_or {t1 t2 : TG} (h1 : PG X tg t1) (h2 : PG X tg t2) : PG X tg (fun v σ H Q => t1 v σ H Q ∨ t2 v σ H Q) := ⟨fun pins s σ H v u Q I r h => h.elim (h1.run pins s σ H v u Q I r) (h2.run pins s σ H v u Q I r)⟩
theorem assignEach_names : ∀ {es : List Expr} {is : List Nat}, NamesAt X es is → (assignEach es X.env).length = es.length ∧ (assignEach es X.env).findIdx? (·.1) = none
  | _, _, .nil => ⟨rfl, rfl⟩
  | _, _, .cons (es := es) (x := x) (p := p) _ _ _ r => by
    obtain ⟨a, b⟩ := assignEach_names r
    have e : assignEach (.Name x p :: es) X.env = (false, assign (.Name x p) X.env) :: assignEach es X.env := rfl
    rw [e]
    refine ⟨by simp [a], ?_⟩
    rw [List.findIdx?_cons, b]
    rfl
theorem names_len : ∀ {es : List Expr} {is : List Nat}, NamesAt X es is → es.length = is.length
  | _, _, .nil => rfl
  | _, _, .cons _ _ _ r => by simp [names_len r]
theorem dg_tup {es : List Expr} {is : List Nat} {k : Nat} (hc : X.calm = true) (hN : X.N.Nodup) (n : NamesAt X es is) (hK : X.K = F.K := by rfl) : DG X F (.Tuple es k pos) (gT is) := by
  obtain ⟨e1, e2⟩ := assignEach_names n
  have en := names_len n
  refine ⟨⟨fun pins s σ H v u Q I r h => ?_⟩, fun x env k k' m h => ?_⟩
  · refine (pg_or (pg_tup (n := es.length) hc (n.pgs hN) e1 e2) (pg_lst (n := es.length) hc (n.pgs hN) e1 e2)).run pins s σ H v u Q I r ?_
    obtain ⟨l, env, y, hl, ho, c, h⟩ := h
    unfold gT at h
    split at h
    · rename_i ds e
      obtain ⟨a, vs, ea, hq, hlen, S, g, rp, cc, pw⟩ := c.seqT e
      cases ea
      have hn := wSets_len h
      refine .inl ⟨a, vs, rfl, by rw [hK]; exact hq, by omega, ?_⟩
      exact gNs_run hlen hl ho (C.spread g (fun p hp => cc p (List.mem_cons_of_mem _ hp)) pw rp) h
    · rename_i ds e
      obtain ⟨a, vs, ea, hq, hlen, S, g, rp, cc, pw⟩ := c.seqL e
      cases ea
      have hn := wSets_len h
      refine .inr ⟨a, vs, rfl, by rw [hK]; exact hq, by omega, ?_⟩
      exact gNs_run hlen hl ho (C.spread g (fun p hp => cc p (List.mem_cons_of_mem _ hp)) pw rp) h
    · exact h.elim
  · unfold gT at h ⊢
    split at h
    · exact wSets_mono m h
    · exact wSets_mono m h
    · exact h.elim
def wAsg (g : WG) (we : WE) : WS := fun env Q => we env (rks (fun x => g x env fun env' => Q (.nx env')) Q env)
theorem mono_asg (hg : GtMono g) (he : Mono we) : SMono (wAsg g we) := fun env Q Q' m h => mono_rks he (fun x hx => hg x env _ _ (fun e z => m _ z) hx) m h
theorem ds_asg (hg : DG X F tg g) (he : DE X F W e we) (hs : swapsWithSole [tg] e pos.line X.env = pure false := by rfl) (hw : swappedStores [tg] e X.env = pure none := by rfl)
    (h1 : (assignEach [tg] X.env).map (·.2) = [assign tg X.env] := by rfl) : DS X F W (.Assign [tg] e pos) (wAsg g we) :=
  ⟨ps_imp (ps_asg he.run hg.run hs hw h1) fun D σ H ⟨l, env, k, hl, q⟩ => le_of he k q fun x hx v H1 c1 => ⟨l, env, x, k.len, k.ok, c1, hx⟩, mono_asg hg.mono he.mono⟩
theorem ds_set (i : Nat) {x : Str} {p : Pos} (hN : X.N.Nodup) (he : DE X F W e we) (hi : X.N[i]? = some x := by rfl) (hx : Loc X.env.scope x := by first | exact Or.inl rfl | exact Or.inr rfl) (hs : swapsWith e (some (.Name x p)) pos.line X.env = pure false := by rfl)
    (hf : X.fn x = true ∨ X.env.scope.names.lookup x = some .local := by first | exact .inl rfl | exact .inr rfl) : DS X F W (.Assign [.Name x p] e pos) (wAsg (gN i) we) := by
  have hg : DG X F (.Name x p) (gN i) := dg_name i hN hi hx hf
  refine ⟨ps_imp (ps_set hN hi hx he.run hs hf) fun D σ H ⟨l, env, k, hl, q⟩ => le_of he k q fun x hx v H1 c1 => ?_, mono_asg hg.mono he.mono⟩
  unfold gN at hx
  split at hx
  · exact hx.2 _ _ (C.setName k.len k.ok trivial hx.1 c1)
  · exact hx.2 _ _ (C.setName k.len k.ok trivial hx.1 c1)
  · exact hx.elim
def wIf (wc : WE) (w1 w2 : WS) : WS := fun env Q => wc env (rks (asB fun b => match b with | true => w1 env Q | false => w2 env Q) Q env)
theorem ds_if {s1 s2 : List Stmt} (hc : DT X F W e wc) (h1 : DSs X F W s1 w1) (h2 : DSs X F W s2 w2) : DS X F W (.If e s1 s2 pos) (wIf wc w1 w2) :=
  ⟨ps_imp (ps_if hc.run h1.run h2.run) fun D σ H ⟨l, env, k, hl, q⟩ => lt_of hc k q fun b hb H1 c1 => by
    cases b with
    | true => exact ⟨l, env, k.at c1, hl, hb⟩
    | false => exact ⟨l, env, k.at c1, hl, hb⟩, fun env Q Q' m h => mono_rks hc.mono (fun x hx => asB_mono (fun b z => match b, z with
    | true, z => h1.mono env _ _ m z
    | false, z => h2.mono env _ _ m z) hx) m h⟩
def wRet (we : WE) : WS := fun env Q => we env (rks (fun x => Q (.ret x)) Q env)
theorem ds_ret (he : DE X F W e we) : DS X F W (.Return (some e) pos) (wRet we) :=
  ⟨ps_imp (ps_ret he.run) fun D σ H ⟨l, env, k, hl, q⟩ => le_of he k q fun x hx v H1 c1 => hx v H1 (c1.sub (List.Sublist.cons_cons _ (List.sublist_append_left _ _))), fun env Q Q' m h => mono_rks he.mono (fun x z => m _ z) m h⟩
def wRetN : WS := fun _ Q => Q (.ret (.sh .non))
theorem ds_retN : DS X F W (.Return none pos) wRetN := ⟨ps_imp ps_retN fun D σ H ⟨l, env, k, hl, q⟩ => q .non H (C.non k.c.left), fun _ _ _ m h => m _ h⟩
/-- return name: the name's own container is handed on -/
def wRetV (i : Nat) : WS := fun env Q => match env[i]? with
  | some (.sh d) => Q (.ret (.sh d))
  | some (.ow d) => Q (.ret (.ow d))
  | _ => False
theorem ds_retV (i : Nat) {x : Str} {p : Pos} (hN : X.N[i]? = some x := by rfl) (hv : Vis X.env.scope x := by first | exact Or.inl rfl | exact Or.inr (Or.inl rfl) | exact Or.inr (Or.inr rfl)) (hd : (x == ("__debug__" : Str)) = false := by decide)
    (hcd : (x == ("__classdict__" : Str)) = false := by decide) : DS X F W (.Return (some (.Name x p)) pos) (wRetV i) := by
  refine ⟨ps_imp (ps_ret (pe_var hN hv hd hcd)) fun D σ H ⟨l, env, k, hl, q⟩ => ?_, fun env Q Q' m h => ?_⟩
  · unfold wRetV at q
    split at q
    · rename_i d e
      obtain ⟨v, h1, h2⟩ := zip_get k.len e
      have c1 := k.c.dup (List.mem_append_right l (mem_of_get h2))
      obtain ⟨u, rfl⟩ := c1.val
      exact ⟨u, h1, q u H (c1.sub (List.Sublist.cons_cons _ (List.sublist_append_left _ _)))⟩
    · rename_i d e
      obtain ⟨v, h1, h2⟩ := zip_get k.len e
      have c1 : C F ((.ow d, v) :: (l ++ (env.zip σ).eraseIdx i)) H := (k.c.perm (List.Perm.append_left l (perm_erase h2))).front
      obtain ⟨S, g, cc, _⟩ := id c1
      obtain ⟨a, ea, _⟩ := cc _ List.mem_cons_self
      subst ea
      exact ⟨.ref a, h1, q _ H (c1.sub (List.Sublist.cons_cons _ (List.sublist_append_left _ _)))⟩
    · exact q.elim
  · unfold wRetV at h ⊢
    split at h
    · exact m _ h
    · exact m _ h
    · exact h.elim
def wDrop (we : WE) : WS := fun env Q => we env (rks (fun _ => Q (.nx env)) Q env)
theorem ds_expr (he : DE X F W e we) (hs : swapsWith e none pos.line X.env = pure false := by rfl) : DS X F W (.Expr e pos) (wDrop we) :=
  ⟨ps_imp (ps_expr he.run hs) fun D σ H ⟨l, env, k, hl, q⟩ => le_of he k q fun x hx v H1 c1 => hx σ H1 (k.at c1.tail), fun env Q Q' m h => mono_rks he.mono (fun x z => m _ z) m h⟩
/-- name += value -/
def wAug (i : Nat) (f : Int → Int → Int) (we : WE) : WS := fun env Q => match env[i]? with
  | some (.sh (.int n)) => we env (rks (fun x => match x with
    | .sh (.int m) => Q (.nx (env.set i (.sh (.int (f n m)))))
    | _ => False) Q env)
  | _ => False
theorem ds_aug (i : Nat) {x : Str} {p : Pos} {op : Operator} {f : Int → Int → Int} (ip : PIp X op (ipI f)) (hN : X.N.Nodup) (he : DE X F W e we) (hi : X.N[i]? = some x := by rfl) (hx : Loc X.env.scope x := by first | exact Or.inl rfl | exact Or.inr rfl)
    (hf : X.fn x = true ∨ X.env.scope.names.lookup x = some .local := by first | exact .inl rfl | exact .inr rfl) : DS X F W (.AugAssign (.Name x p) op e pos) (wAug i f we) := by
  refine ⟨ps_imp (ps_aug hN hi hx he.run ip hf) fun D σ H ⟨l, env, k, hl, q⟩ => ?_, fun env Q Q' m h => ?_⟩
  · unfold wAug at q
    split at q
    · rename_i n en
      obtain ⟨v, h1, h2⟩ := zip_get k.len en
      have c0 := k.c.dup (List.mem_append_right l (mem_of_get h2))
      have ev := c0.shInt
      subst ev
      refine ⟨.int n, h1, le_of he k q fun y hy u H1 c1 => ?_⟩
      split at hy
      · rename_i m
        have eu := c1.shInt
        cases eu
        have hi2 : i < env.length := (List.getElem?_eq_some_iff.mp en).1
        exact ⟨n, m, rfl, rfl, hy _ H1 (C.setName k.len k.ok trivial hi2 (c1.tail.int _))⟩
      · exact hy.elim
    · exact q.elim
  · unfold wAug at h ⊢
    split at h
    · exact mono_rks he.mono (fun x z => by
        split at z
        · exact m _ z
        · exact z.elim) m h
    · exact h.elim
theorem ds_augAdd (i : Nat) {x : Str} {p : Pos} (hN : X.N.Nodup) (he : DE X F W e we) (hi : X.N[i]? = some x := by rfl) (hx : Loc X.env.scope x := by first | exact Or.inl rfl | exact Or.inr rfl)
    (hf : X.fn x = true ∨ X.env.scope.names.lookup x = some .local := by first | exact .inl rfl | exact .inr rfl) : DS X F W (.AugAssign (.Name x p) .Add e pos) (wAug i (fun n m => n + m) we) := ds_aug i ip_add hN he hi hx hf
theorem ds_augSub (i : Nat) {x : Str} {p : Pos} (hN : X.N.Nodup) (he : DE X F W e we) (hi : X.N[i]? = some x := by rfl) (hx : Loc X.env.scope x := by first | exact Or.inl rfl | exact Or.inr rfl)
    (hf : X.fn x = true ∨ X.env.scope.names.lookup x = some .local := by first | exact .inl rfl | exact .inr rfl) : DS X F W (.AugAssign (.Name x p) .Sub e pos) (wAug i (fun n m => n - m) we) := ds_aug i ip_sub hN he hi hx hf
end
end DL

set_option Elab.async false
set_option linter.all false
set_option maxRecDepth 100000
set_option maxHeartbeats 4000000
/-! DL, part 6: loops, what is walked, stores into containers, raising -/
namespace DL
open PySem PySem.Spec PyProof.Rows L2

section
variable {X : Cx} {F : Fr} {W : WX} {e e2 tg : Expr} {es : List Expr} {st : Stmt} {sts : List Stmt} {we we2 wc wk : WE} {wA : WA} {w w1 w2 : WS} {g : WG} {wi : WI} {pos p : Pos}

/-! ### what is walked -/
def ItS (F : Fr) (J : It) (ds : List D) (gh : List Cell) : Prop := ∀ (l : List Cell) (H : Hp), C F (gh ++ l) H → ∀ i : Nat,
  (∀ d, ds[i]? = some d → J.go i H ∧ ∀ x H', J.yld i H x H' → C F ((.sh d, some x) :: (gh ++ l)) H') ∧ (ds.length ≤ i → J.stop i H)
def LIp (F : Fr) (W : WX) (l : List Cell) (env : En) (σ : L2.St) (Rk : It → Hp → Prop) : R (List D) → Prop
  | .ok ds => ∀ J gh H', (∀ q ∈ gh, q.1.env) → ItS F J ds gh → C F (gh ++ (l ++ env.zip σ)) H' → Rk J H'
  | .ex c fs => ∀ A d H', F.mg c = some (.ref A) → XF H' d fs → C F (l ++ env.zip σ) H' → W (.ref A) d σ H'
def LI (F : Fr) (W : WX) (w : WI) : TI := fun σ H Rk => ∃ l env, CE F l env σ H ∧ w env (LIp F W l env σ Rk)
structure DI (X : Cx) (F : Fr) (W : WX) (tg iter : Expr) (w : WI) : Prop where
  run : PI X tg iter (LI F W w)
  mono : Mono w
theorem pi_imp {iter : Expr} {t t' : TI} (h : PI X tg iter t) (q : ∀ σ H R, t' σ H R → t σ H R) : PI X tg iter t' := ⟨fun pins s σ H R I z => h.run pins s σ H R I (q _ _ _ z)⟩
/-- a list or a tuple, as it comes -/
def iSeq (K : PySem.W.Frag) (tl : TE) : TI := fun σ H Rk => tl σ H fun x H1 => (∃ a, x = .ref a ∧ (∃ xs, SqL K H1 a xs) ∧ Rk (Itl K a) H1) ∨ ∃ a, x = .ref a ∧ (∃ xs, SqT K H1 a xs) ∧ Rk (Itt K a) H1
theorem pi_seq {l : Expr} {tl : TE} (hl : PE X l tl) : PI X tg l (iSeq X.K tl) := by
  refine ⟨fun pins s σ H R I h => ?_⟩
  refine thn (hl.run pins s σ H _ I h) fun v s1 ⟨x, H1, I1, r1, q1⟩ => ?_
  rcases q1 with ⟨a, e, ⟨xs, hq⟩, q⟩ | ⟨a, e, ⟨xs, hq⟩, q⟩
  · subst e
    cases r1
    obtain ⟨its, rv, p, hz⟩ := I1.list hq
    refine wpAny_pyIter_list p.isList ?_
    refine ⟨s1.heap.objs.size, [s1.heap.objs.size], _, _, H1, rfl, I1.kept (t' := s1.toks) fun b o e => Heap.get?_push_of_some _ e, turn_list a _, ⟨_, Heap.get?_push_size _ rfl, rfl, rfl⟩, fun b hb => ?_, q⟩
    have e : b = s1.heap.objs.size := by simpa using hb
    subst e
    exact I1.fpOk (Nat.le_refl _) (I1.hok.fresh (Nat.le_refl _))
  · subst e
    cases r1
    obtain ⟨its, rv, p, hz⟩ := I1.tuple hq
    refine wpAny_pyIter_tuple (show s1.heap.IsTuple a its.toArray from p) ?_
    refine ⟨s1.heap.objs.size, [s1.heap.objs.size], _, _, H1, rfl, I1.kept (t' := s1.toks) fun b o e => Heap.get?_push_of_some _ e, turn_tuple a _, ⟨_, Heap.get?_push_size _ rfl, rfl, rfl⟩, fun b hb => ?_, q⟩
    have e : b = s1.heap.objs.size := by simpa using hb
    subst e
    exact I1.fpOk (Nat.le_refl _) (I1.hok.fresh (Nat.le_refl _))
/-- the walked thing stands still -/
def stillK (k : List D → Prop) : Slot → Prop
  | .sh (.lst ds) => k ds
  | .sh (.tup ds) => k ds
  | .bo (.lst ds) => k ds
  | .ow (.lst ds) => k ds
  | _ => False
def wIter (we : WE) : WI := fun env Q => we env (rk (stillK fun ds => Q (.ok ds)) Q)
theorem stillK_mono {k k' : List D → Prop} (m : ∀ ds, k ds → k' ds) {x : Slot} (h : stillK k x) : stillK k' x := by
  unfold stillK at h ⊢
  split at h
  · exact m _ h
  · exact m _ h
  · exact m _ h
  · exact m _ h
  · exact h.elim
/-- a still slot: its ghost -/
theorem C.ghost {l : List Cell} {H : Hp} {x : Slot} {v : V} {k : List D → Prop} (c : C F ((x, some v) :: l) H) (h : stillK k x) : ∃ (ds : List D) (y : D × Slot), k ds ∧ ((x = .ow y.1 ∧ y.2 = Slot.sh y.1) ∨ (x = y.2)) ∧ y.2.still ∧ (y.2.dat = some (.lst ds) ∨ y.2.dat = some (.tup ds)) ∧ C F ((y.2, some v) :: l) H := by
  unfold stillK at h
  split at h
  · rename_i ds; exact ⟨ds, (.lst ds, .sh (.lst ds)), h, .inr rfl, trivial, .inl rfl, c⟩
  · rename_i ds; exact ⟨ds, (.tup ds, .sh (.tup ds)), h, .inr rfl, trivial, .inr rfl, c⟩
  · rename_i ds; exact ⟨ds, (.lst ds, .bo (.lst ds)), h, .inr rfl, trivial, .inl rfl, c⟩
  · rename_i ds; exact ⟨ds, (.lst ds, .sh (.lst ds)), h, .inl ⟨rfl, rfl⟩, trivial, .inl rfl, c.frz⟩
  · exact h.elim
theorem still_env {x : Slot} (h : x.still) : x.env := by cases x <;> first | trivial | exact h.elim
theorem one_env {y : Slot} {v : Option V} (h : y.env) : ∀ q ∈ [(y, v)], (q : Cell).1.env := fun q hq => by
  have e : q = (y, v) := by simpa using hq
  subst e
  exact h
theorem itl_s {a : Addr} {ds : List D} {y : Slot} (hd : y.dat = some (.lst ds)) : ItS F (Itl F.K a) ds [(y, some (.ref a))] := by
  intro l H c i
  obtain ⟨a', vs, ea, hq, hl, S, g, r, cc, pw⟩ := C.seqL (l := l) c hd
  cases ea
  obtain ⟨_, _, _, pw'⟩ := id c
  refine ⟨fun d hd' => ?_, fun hi => ⟨vs, hq, by omega⟩⟩
  obtain ⟨u, hu, ru⟩ := r.get hd'
  refine ⟨⟨vs, u, hq, hu⟩, fun x H' ⟨e1, e2⟩ => ?_⟩
  subst e1
  have := e2 vs hq
  rw [hu] at this
  cases this
  exact C.beside g cc pw' ru
theorem itt_s {a : Addr} {ds : List D} {y : Slot} (hd : y.dat = some (.tup ds)) : ItS F (Itt F.K a) ds [(y, some (.ref a))] := by
  intro l H c i
  obtain ⟨a', vs, ea, hq, hl, S, g, r, cc, pw⟩ := C.seqT (l := l) c hd
  cases ea
  obtain ⟨_, _, _, pw'⟩ := id c
  refine ⟨fun d hd' => ?_, fun hi => ⟨vs, hq, by omega⟩⟩
  obtain ⟨u, hu, ru⟩ := r.get hd'
  refine ⟨⟨vs, u, hq, hu⟩, fun x H' ⟨e1, e2⟩ => ?_⟩
  subst e1
  have := e2 vs hq
  rw [hu] at this
  cases this
  exact C.beside g cc pw' ru
theorem di_seq (he : DE X F W e we) (hK : X.K = F.K := by rfl) : DI X F W tg e (wIter we) := by
  refine ⟨pi_imp (pi_seq he.run) fun σ H Rk ⟨l, env, k, q⟩ => ⟨l, env, k, lep_mono he.mono q (fun x hx v H1 c1 => ?_) fun c fs z => z⟩, fun env Q Q' m h => mono_rk he.mono (fun x hx => stillK_mono (fun ds z => m _ z) hx) m h⟩
  obtain ⟨ds, y, hk, _, hs, hd, c2⟩ := C.ghost c1 hx
  rw [hK]
  rcases hd with hd | hd
  · obtain ⟨a, vs, ea, hq, hl, _⟩ := c2.seqL hd
    cases ea
    exact .inl ⟨a, rfl, ⟨vs, hq⟩, hk _ [(y.2, some (.ref a))] H1 (one_env (still_env hs)) (itl_s hd) c2⟩
  · obtain ⟨a, vs, ea, hq, hl, _⟩ := c2.seqT hd
    cases ea
    exact .inr ⟨a, rfl, ⟨vs, hq⟩, hk _ [(y.2, some (.ref a))] H1 (one_env (still_env hs)) (itt_s hd) c2⟩
/-- range(b), range(a, b) -/
def rangeD (lo : Int) (n : Nat) : List D := (List.range n).map fun (i : Nat) => D.int (lo + (i : Int))
def Bd62 (i : Int) : Prop := -(2 ^ 62) ≤ i ∧ i < 2 ^ 62
def ints1 (k : Int → Prop) : List Slot → Prop
  | [.sh (.int j)] => k j
  | _ => False
def ints2 (k : Int → Int → Prop) : List Slot → Prop
  | [.sh (.int i), .sh (.int j)] => k i j
  | _ => False
def wRng1 (wA : WA) : WI := fun env Q => wA env (rk (ints1 fun j => Bd62 j ∧ Q (.ok (rangeD 0 j.toNat))) Q)
def wRng2 (wA : WA) : WI := fun env Q => wA env (rk (ints2 fun i j => (Bd62 i ∧ Bd62 j) ∧ Q (.ok (rangeD i (j - i).toNat))) Q)
theorem itr_s {lo : Int} {n : Nat} : ItS F (Itr lo n) (rangeD lo n) [] := by
  intro l H c i
  refine ⟨fun d hd => ?_, fun hi => by
    have e : (rangeD lo n).length = n := by simp [rangeD]
    show n ≤ i
    omega⟩
  unfold rangeD at hd
  rw [List.getElem?_map] at hd
  obtain ⟨j, hj, rfl⟩ := Option.map_eq_some_iff.mp hd
  obtain ⟨h1, h2⟩ := List.getElem?_eq_some_iff.mp hj
  have hi : i < n := by simpa using h1
  have hj' : j = i := by rw [← h2]; simp
  subst hj'
  refine ⟨hi, fun x H' ⟨e1, e2⟩ => ?_⟩
  subst e1 e2
  exact c.int _
theorem ints1_mono {k k' : Int → Prop} (m : ∀ j, k j → k' j) {xs : List Slot} (h : ints1 k xs) : ints1 k' xs := by
  unfold ints1 at h ⊢
  split at h
  · exact m _ h
  · exact h.elim
theorem ints2_mono {k k' : Int → Int → Prop} (m : ∀ i j, k i j → k' i j) {xs : List Slot} (h : ints2 k xs) : ints2 k' xs := by
  unfold ints2 at h ⊢
  split at h
  · exact m _ _ h
  · exact h.elim
theorem di_range1 (hm : X.mg "range" = none) (ha : DA X F W [e] wA) (hg : Gl X "range" := by rfl) (hs : starEach [e] X.env = [(false, eval e X.env)] := by rfl) : DI X F W tg (.Call (.Name "range" p) [e] [] pos) (wRng1 wA) := by
  refine ⟨pi_imp (pi_range1 hg hm ha.run hs) fun σ H Rk ⟨l, env, k, q⟩ => ⟨l, env, k, lap_mono ha.mono q (fun xs hx vs H1 hl c1 => ?_) fun c fs z => z⟩, fun env Q Q' m h => mono_rk ha.mono (fun x hx => ints1_mono (fun j z => ⟨z.1, m _ z.2⟩) hx) m h⟩
  unfold ints1 at hx
  split at hx
  · rename_i j
    match vs, hl with
    | [v], _ =>
      have e1 := C.shInt (l := l ++ env.zip σ) c1
      cases e1
      exact ⟨j, rfl, hx.1.1, hx.1.2, hx.2 _ [] H1 (fun _ h => by simp at h) itr_s (C.tail c1)⟩
  · exact hx.elim
theorem di_range2 (hm : X.mg "range" = none) (ha : DA X F W [e, e2] wA) (hg : Gl X "range" := by rfl) (hs : starEach [e, e2] X.env = [(false, eval e X.env), (false, eval e2 X.env)] := by rfl) (hs2 : starEach [e2] X.env = [(false, eval e2 X.env)] := by rfl) : DI X F W tg (.Call (.Name "range" p) [e, e2] [] pos) (wRng2 wA) := by
  refine ⟨pi_imp (pi_range2 hg hm ha.run hs hs2) fun σ H Rk ⟨l, env, k, q⟩ => ⟨l, env, k, lap_mono ha.mono q (fun xs hx vs H1 hl c1 => ?_) fun c fs z => z⟩, fun env Q Q' m h => mono_rk ha.mono (fun x hx => ints2_mono (fun i j z => ⟨z.1, m _ z.2⟩) hx) m h⟩
  unfold ints2 at hx
  split at hx
  · rename_i i j
    match vs, hl with
    | [v, u], _ =>
      have e1 := C.shInt (l := (.sh (.int j), some u) :: (l ++ env.zip σ)) c1
      have e2 := C.shInt (l := l ++ env.zip σ) (C.tail c1)
      cases e1; cases e2
      exact ⟨i, j, rfl, ⟨hx.1.1.1, hx.1.1.2, hx.1.2.1, hx.1.2.2⟩, hx.2 _ [] H1 (fun _ h => by simp at h) itr_s (C.tail (C.tail c1))⟩
  · exact hx.elim
/-- enumerate(list), zip(list, list) -/
def enumD (ds : List D) : List D := ds.zipIdx.map fun (d, i) => D.tup [.int (i : Int), d]
def zipD (ds es : List D) : List D := (ds.zip es).map fun (d, e) => D.tup [d, e]
def lst1 (k : List D → Prop) : List Slot → Prop
  | [.sh (.lst ds)] => k ds
  | [.bo (.lst ds)] => k ds
  | [.ow (.lst ds)] => k ds
  | _ => False
theorem lst1_mono {k k' : List D → Prop} (m : ∀ j, k j → k' j) {xs : List Slot} (h : lst1 k xs) : lst1 k' xs := by
  unfold lst1 at h ⊢
  split at h
  · exact m _ h
  · exact m _ h
  · exact m _ h
  · exact h.elim
def wEnum (wA : WA) : WI := fun env Q => wA env (rk (lst1 fun ds => Q (.ok (enumD ds))) Q)
theorem ite_s {a : Addr} {ds : List D} {y : Slot} (hd : y.dat = some (.lst ds)) : ItS F (Ite F.K a) (enumD ds) [(y, some (.ref a))] := by
  intro l H c i
  obtain ⟨a', vs, ea, hq, hl, S, g, r, cc, pw⟩ := C.seqL (l := l) c hd
  cases ea
  obtain ⟨_, _, _, pw'⟩ := id c
  refine ⟨fun d hd' => ?_, fun hi => ⟨vs, hq, by
    have e : (enumD ds).length = ds.length := by simp [enumD]
    omega⟩⟩
  unfold enumD at hd'
  rw [List.getElem?_map] at hd'
  obtain ⟨⟨d0, j⟩, hj, rfl⟩ := Option.map_eq_some_iff.mp hd'
  rw [List.getElem?_zipIdx] at hj
  obtain ⟨d1, h1, h2⟩ := Option.map_eq_some_iff.mp hj
  cases h2
  obtain ⟨u, hu, ru⟩ := r.get h1
  refine ⟨⟨vs, u, hq, hu⟩, fun x H' ⟨T, z, ex, hT, eH, hz⟩ => ?_⟩
  subst ex eH
  have := hz vs hq
  rw [hu] at this
  cases this
  refine C.newSh (c : C F ([(y, some (V.ref a))] ++ l) H) hT fun S' g' cc' => ?_
  have g2 : Same S' (upd S' T (.tup [.int (i : Int), u])) := same_new (g'.sh.free hT)
  have ru' : Rep F.K S' u d0 := by
    obtain ⟨S2, g3, c3, _⟩ := c
    have s := cc' _ (List.mem_cons_self : (y, some (V.ref a)) ∈ _)
    have : ∃ vs', Reps F.K S' vs' ds ∧ SqL F.K H a vs' := by
      cases y with
      | un => cases hd
      | sh d => cases hd; obtain ⟨w, ew, rw⟩ := s; cases ew; cases rw with
        | lst hq2 r2 => exact ⟨_, r2, sqL_mono g'.sh hq2⟩
      | ow d => cases hd; obtain ⟨b, eb, _, _, vs', e2, r2⟩ := s; cases eb; exact ⟨vs', r2, SqL.of e2⟩
      | bo d => cases hd; obtain ⟨b, eb, _, vs', e2, r2⟩ := s; cases eb; exact ⟨vs', r2, SqL.of e2⟩
      | bt d => cases hd; obtain ⟨b, eb, vs', e2, r2⟩ := s; cases eb; exact ⟨vs', r2, SqL.of e2⟩
    obtain ⟨vs', r2, hq2⟩ := this
    obtain ⟨u', hu', ru'⟩ := r2.get h1
    have := hz vs' hq2
    rw [hu'] at this
    cases this
    exact ru'
  rw [Nat.zero_add]
  exact .tup upd_same (.cons .int (.cons (ru'.mono g2) .nil))
theorem lst1_ghost {xs : List Slot} {k : List D → Prop} {vs : List V} {l : List Cell} {H : Hp} (hx : lst1 k xs) (hl : vs.length = xs.length) (c : C F (xs.zip (vs.map some) ++ l) H) : ∃ a ds y, vs = [.ref a] ∧ k ds ∧ y.still ∧ y.dat = some (.lst ds) ∧ C F ((y, some (.ref a)) :: l) H ∧ ∃ us, SqL F.K H a us := by
  have fin : ∀ {y : Slot} {v : V} {ds : List D}, y.still → y.dat = some (.lst ds) → k ds → C F ((y, some v) :: l) H → vs = [v] → ∃ a ds y, vs = [.ref a] ∧ k ds ∧ y.still ∧ y.dat = some (.lst ds) ∧ C F ((y, some (.ref a)) :: l) H ∧ ∃ us, SqL F.K H a us := by
    intro y v ds hs hd hk c e
    obtain ⟨a, us, ea, hq, _⟩ := c.seqL hd
    cases ea
    exact ⟨a, ds, y, e, hk, hs, hd, c, us, hq⟩
  unfold lst1 at hx
  split at hx
  · match vs, hl with
    | [v], _ => exact fin (y := .sh _) trivial rfl hx c rfl
  · match vs, hl with
    | [v], _ => exact fin (y := .bo _) trivial rfl hx c rfl
  · match vs, hl with
    | [v], _ => exact fin (y := .sh _) trivial rfl hx (C.frz c) rfl
  · exact hx.elim
theorem di_enum {elts : List Expr} {kk : Nat} {tpos : Pos} (hm : X.mg "enumerate" = none) (ha : DA X F W [e] wA) (hg : Gl X "enumerate" := by rfl) (hs : starEach [e] X.env = [(false, eval e X.env)] := by rfl) (hK : X.K = F.K := by rfl) :
    DI X F W (.Tuple elts kk tpos) (.Call (.Name "enumerate" p) [e] [] pos) (wEnum wA) := by
  refine ⟨pi_imp (pi_enum hg hm ha.run hs) fun σ H Rk ⟨l, env, k, q⟩ => ⟨l, env, k, lap_mono ha.mono q (fun xs hx vs H1 hl c1 => ?_) fun c fs z => z⟩, fun env Q Q' m h => mono_rk ha.mono (fun x hx => lst1_mono (fun j z => m _ z) hx) m h⟩
  obtain ⟨a, ds, y, ev, hk, hst, hd, c2, us, hq⟩ := lst1_ghost hx hl c1
  rw [hK]
  exact ⟨a, us, ev, hq, hk _ [(y, some (.ref a))] H1 (one_env (still_env hst)) (ite_s hd) c2⟩

/-! ### for, while -/
def wLoop (g : WG) (body : WS) : List D → En → (O → Prop) → Prop
  | [], env, Q => Q (.nx env)
  | d :: ds, env, Q => g (.sh d) env fun e1 => body e1 fun o => match o with
    | .nx e => wLoop g body ds e Q
    | .ct e => wLoop g body ds e Q
    | .bk e => Q (.nx e)
    | .ret x => Q (.ret x)
    | .ex c fs e => Q (.ex c fs e)
def wFor (g : WG) (wi : WI) (body : WS) : WS := fun env Q => wi env (rks (fun ds => wLoop g body ds env Q) Q env)
theorem mono_loop (hg : GtMono g) (hb : SMono w) : ∀ (ds : List D) (env : En) (Q Q' : O → Prop), (∀ r, Q r → Q' r) → wLoop g w ds env Q → wLoop g w ds env Q'
  | [], env, Q, Q', m, h => m _ h
  | d :: ds, env, Q, Q', m, h => hg _ _ _ _ (fun e z => hb _ _ _ (fun o z => match o, z with
    | .nx e, z => mono_loop hg hb ds e Q Q' m z
    | .ct e, z => mono_loop hg hb ds e Q Q' m z
    | .bk e, z => m _ z
    | .ret x, z => m _ z
    | .ex c fs e, z => m _ z) z) h
theorem li_of {iter : Expr} {l : List Cell} {env : En} {σ : L2.St} {H : Hp} {Dn : Ends} {k : List D → Prop} {Rk : It → Hp → Prop} (hi : DI X F W tg iter wi) (ce : CE F l env σ H) (h : wi env (rks k (LSp F W l Dn) env))
    (h1 : ∀ ds, k ds → ∀ J gh H', (∀ q ∈ gh, q.1.env) → ItS F J ds gh → C F (gh ++ (l ++ env.zip σ)) H' → Rk J H') : LI F W wi σ H Rk :=
  ⟨l, env, ce, hi.mono env _ _ (fun r z => match r, z with
    | .ok x, z => h1 x z
    | .ex c fs, z => fun A d H' hA hx c2 => z A d σ H' hA hx ⟨ce.len, ce.ok, c2⟩) h⟩
theorem ce_drop {gh l : List Cell} {env : En} {σ : L2.St} {H : Hp} (k : CE F (gh ++ l) env σ H) : CE F l env σ H := ⟨k.len, k.ok, (by have := k.c; rw [List.append_assoc] at this; exact this.right)⟩
theorem ds_for {iter : Expr} {body : List Stmt} (hp : PassesOwn (model X.prog X.w) X.A X.env X.xe) (hc : X.calm = true) (hi : DI X F W tg iter wi) (hg : DG X F tg g) (hb : DSs X F W body w)
    (hs : ∀ x, foldedSetIterable iter X.env x = pure x := by intro _; rfl) : DS X F W (.For tg iter body [] pos) (wFor g wi w) := by
  refine ⟨ps_imp (ps_for hp hc hi.run hg.run hb.run hs) fun Dn σ H ⟨l, env, k, hl, q⟩ => li_of hi k q fun ds hds J gh H1 hgh its c1 => ?_, fun env Q Q' m h => mono_rks hi.mono (fun ds z => mono_loop hg.mono hb.mono ds env Q Q' m z) m h⟩
  refine ⟨fun i m σ H => m = ds.length - i ∧ i ≤ ds.length ∧ ∃ env, CE F (gh ++ l) env σ H ∧ wLoop g w (ds.drop i) env (LSp F W l Dn), ⟨ds.length, by simp, Nat.zero_le _, env, ⟨k.len, k.ok, by rw [List.append_assoc]; exact c1⟩, by simpa using hds⟩, ?_⟩
  rintro i m σ2 H2 ⟨rfl, hi2, env2, k2, q2⟩
  have c2 : C F (gh ++ (l ++ env2.zip σ2)) H2 := by rw [← List.append_assoc]; exact k2.c
  by_cases hlt : i < ds.length
  · have e1 : ds[i]? = some ds[i] := List.getElem?_eq_getElem hlt
    obtain ⟨go, yl⟩ := (its _ _ c2 i).1 _ e1
    have ed : ds.drop i = ds[i] :: ds.drop (i + 1) := List.drop_eq_getElem_cons hlt
    rw [ed] at q2
    refine .inr ⟨go, fun σ' H' => ∃ env', CE F (gh ++ l) env' σ' H' ∧ wLoop g w (ds.drop (i + 1)) env' (LSp F W l Dn), fun σ' H' ⟨env', k', q'⟩ => ⟨ds.length - (i + 1), by omega, rfl, hlt, env', k', q'⟩, fun x H' hy => ?_⟩
    refine ⟨gh ++ l, env2, .sh ds[i], k2.len, k2.ok, ?_, hg.mono _ _ _ _ (fun e1 z σ3 H3 k3 => ?_) q2⟩
    · have := yl x H' hy
      rw [← List.append_assoc] at this
      exact this
    · refine ⟨gh ++ l, e1, k3, fun q hq => (List.mem_append.mp hq).elim (hgh q) (hl q), hb.mono _ _ _ (fun o z => ?_) z⟩
      cases o with
      | nx e => exact fun σ' H' k' => ⟨e, k', z⟩
      | ct e => exact fun σ' H' k' => ⟨e, k', z⟩
      | bk e => exact fun σ' H' k' => z σ' H' (ce_drop k')
      | ret x => exact fun v H' c3 => z v H' (by
          have c4 : C F ([(x, some v)] ++ (gh ++ l)) H' := c3
          exact c4.sub (List.Sublist.cons_cons _ (List.sublist_append_right _ _)))
      | ex c fs e => exact fun A d σ' H' hA hx k' => z A d σ' H' hA hx (ce_drop k')
  · have e : i = ds.length := by omega
    subst e
    rw [List.drop_length] at q2
    exact .inl ⟨(its _ _ c2 _).2 (Nat.le_refl _), q2 σ2 H2 (ce_drop k2)⟩
def wWh (wc : WE) (body : WS) : Nat → En → (O → Prop) → Prop
  | 0, _, _ => False
  | n + 1, env, Q => wc env (rks (asB fun b => match b with
    | true => body env fun o => match o with
      | .nx e => wWh wc body n e Q
      | .ct e => wWh wc body n e Q
      | .bk e => Q (.nx e)
      | .ret x => Q (.ret x)
      | .ex c fs e => Q (.ex c fs e)
    | false => Q (.nx env)) Q env)
def wWhile (wc : WE) (body : WS) : WS := fun env Q => ∃ n, wWh wc body n env Q
theorem mono_wh (hc : Mono wc) (hb : SMono w) : ∀ (n : Nat) (env : En) (Q Q' : O → Prop), (∀ r, Q r → Q' r) → wWh wc w n env Q → wWh wc w n env Q'
  | 0, _, _, _, _, h => h
  | n + 1, env, Q, Q', m, h => mono_rks hc (fun x hx => asB_mono (fun b z => match b, z with
    | true, z => hb _ _ _ (fun o z => match o, z with
      | .nx e, z => mono_wh hc hb n e Q Q' m z
      | .ct e, z => mono_wh hc hb n e Q Q' m z
      | .bk e, z => m _ z
      | .ret x, z => m _ z
      | .ex c fs e, z => m _ z) z
    | false, z => m _ z) hx) m h
theorem ds_while {body : List Stmt} (hp : PassesOwn (model X.prog X.w) X.A X.env X.xe) (hc : DT X F W e wc) (hb : DSs X F W body w) : DS X F W (.While e body [] pos) (wWhile wc w) := by
  refine ⟨ps_imp (ps_while hp hc.run hb.run) fun Dn σ H ⟨l, env, k, hl, n, q⟩ => ?_, fun env Q Q' m ⟨n, h⟩ => ⟨n, mono_wh hc.mono hb.mono n env Q Q' m h⟩⟩
  refine ⟨fun m σ H => ∃ env, CE F l env σ H ∧ wWh wc w m env (LSp F W l Dn), ⟨n, env, k, q⟩, ?_⟩
  rintro m σ2 H2 ⟨env2, k2, q2⟩
  cases m with
  | zero => exact q2.elim
  | succ m =>
    refine lt_of hc k2 q2 fun b hb2 H3 c3 => ?_
    cases b with
    | true =>
      refine ⟨fun σ' H' => ∃ env', CE F l env' σ' H' ∧ wWh wc w m env' (LSp F W l Dn), fun σ' H' ⟨env', k', q'⟩ => ⟨m, Nat.lt_succ_self _, env', k', q'⟩, l, env2, k2.at c3, hl, hb.mono _ _ _ (fun o z => ?_) hb2⟩
      cases o with
      | nx e => exact fun σ' H' k' => ⟨e, k', z⟩
      | ct e => exact fun σ' H' k' => ⟨e, k', z⟩
      | bk e => exact z
      | ret x => exact z
      | ex c fs e => exact z
    | false => exact hb2 σ2 H3 (k2.at c3)

/-! ### stores into one's own containers -/
theorem CE.own {l : List Cell} {env : En} {σ : L2.St} {H : Hp} {i : Nat} {d : D} (k : CE F l env σ H) (h : env[i]? = some (.ow d)) (hl : ∀ q ∈ l, q.1.env) :
    ∃ a, σ[i]? = some (some (.ref a)) ∧ i < env.length ∧ C F ((.ow d, some (.ref a)) :: (l ++ (env.zip σ).eraseIdx i)) H ∧ (∀ q ∈ l ++ (env.zip σ).eraseIdx i, q.1.env) := by
  obtain ⟨v, h1, h2⟩ := zip_get k.len h
  have c1 : C F ((.ow d, v) :: (l ++ (env.zip σ).eraseIdx i)) H := (k.c.perm (List.Perm.append_left l (perm_erase h2))).front
  obtain ⟨S, g, cc, _⟩ := id c1
  obtain ⟨a, ea, _⟩ := cc _ List.mem_cons_self
  subst ea
  exact ⟨a, h1, (List.getElem?_eq_some_iff.mp h).1, c1, fun q hq => (List.mem_append.mp hq).elim (hl q) fun hq => k.ok _ (List.of_mem_zip (mem_erase hq)).1⟩
theorem CE.ownSet {l : List Cell} {env : En} {σ : L2.St} {H H' : Hp} {i : Nat} {d d' : D} {a : Addr} (k : CE F l env σ H) (h : env[i]? = some (.ow d)) (hs : σ[i]? = some (some (.ref a)))
    (c : C F ((.ow d', some (.ref a)) :: (l ++ (env.zip σ).eraseIdx i)) H') : CE F l (env.set i (.ow d')) σ H' := by
  obtain ⟨v, h1, h2⟩ := zip_get k.len h
  refine ⟨by simp [k.len], fun y hy => ?_, ?_⟩
  · rcases List.mem_or_eq_of_mem_set hy with hy | rfl
    · exact k.ok y hy
    · trivial
  · have e : σ = σ.set i (some (.ref a)) := by
      apply List.ext_getElem?
      intro j
      rw [List.getElem?_set]
      split
      · subst_vars
        split
        · rw [hs]
        · rename_i hlt
          rw [List.getElem?_eq_none (by omega)]
      · rfl
    rw [e, zip_set]
    rw [e] at h2
    rw [e] at c
    have e3 : (env.zip (σ.set i (some (V.ref a)))).eraseIdx i = (env.zip σ).eraseIdx i := by rw [← e]
    have p2 := perm_set (y := ((Slot.ow d'), some (V.ref a))) (l := env.zip σ) (i := i) (by rw [← e] at h2; exact h2)
    rw [e3] at c
    exact c.back.perm (List.Perm.append_left l p2.symm)
theorem CE.slot {l : List Cell} {env : En} {σ : L2.St} {H : Hp} {i : Nat} {x : Slot} (k : CE F l env σ H) (h : env[i]? = some x) : ∃ v, σ[i]? = some v ∧ (x, v) ∈ l ++ env.zip σ := by
  obtain ⟨v, h1, h2⟩ := zip_get k.len h
  exact ⟨v, h1, List.mem_append_right _ (mem_of_get h2)⟩
/-- xs.append(e) -/
def wApp (i : Nat) (we : WE) : WS := fun env Q => match env[i]? with
  | some (.ow (.lst ds)) => we env (rks (fun y => match y.stab with
    | some d => ds.length < 16777216 ∧ Q (.nx (env.set i (.ow (.lst (ds ++ [d])))))
    | none => False) Q env)
  | _ => False
theorem ds_append (i : Nat) {x : Str} {p2 apos cpos : Pos} (he : DE X F W e we) (hN : X.N[i]? = some x := by rfl) (hv : Vis X.env.scope x := by first | exact Or.inl rfl | exact Or.inr (Or.inl rfl) | exact Or.inr (Or.inr rfl)) (hd : (x == ("__debug__" : Str)) = false := by decide)
    (hcd : (x == ("__classdict__" : Str)) = false := by decide) (hs : starEach (e :: []) X.env = (false, eval e X.env) :: starEach [] X.env := by rfl)
    (hpe : ∀ {te : TE}, PE X e te → PE X (.Call (.Attribute (.Name x p2) "append" apos) [e] [] cpos) (tBM X.K "list" rAppend (tVar i) (tCons te tNil)))
    (hsw : swapsWith (.Call (.Attribute (.Name x p2) "append" apos) [e] [] cpos) none pos.line X.env = pure false := by rfl) (hK : X.K = F.K := by rfl) :
    DS X F W (.Expr (.Call (.Attribute (.Name x p2) "append" apos) [e] [] cpos) pos) (wApp i we) := by
  refine ⟨ps_imp (ps_expr (hpe he.run) hsw) fun Dn σ H ⟨l, env, k, hl, q⟩ => ?_, fun env Q Q' m h => ?_⟩
  · unfold wApp at q
    split at q
    · rename_i ds en
      obtain ⟨a, hs1, hi, c1, nb⟩ := k.own en hl
      obtain ⟨S, g, rc, cc, up⟩ := c1.mut nb
      obtain ⟨vs, ev, rr⟩ := rc
      refine ⟨.ref a, hs1, .inl ⟨rfl, vs, by rw [hK]; exact SqL.of ev⟩, le_of he k q fun y hy v H1 c2 => ?_⟩
      split at hy
      · rename_i d ed
        have c3 := c2.stab ed
        have k3 : CE F [] env σ H1 := ⟨k.len, k.ok, c3.tail.right⟩
        have k1 : CE F l env σ H1 := k.at c3.tail
        obtain ⟨a2, hs2, _, c4, nb4⟩ := (⟨k.len, k.ok, c3⟩ : CE F ((.sh d, some v) :: l) env σ H1).own en (fun q hq => by
          rcases List.mem_cons.mp hq with rfl | hq
          · trivial
          · exact hl q hq)
        rw [hs1] at hs2; cases hs2
        obtain ⟨S2, g2, rc2, cc2, up2⟩ := c4.mut nb4
        obtain ⟨vs2, ev2, rr2⟩ := rc2
        obtain ⟨w, ew, rw⟩ := cc2 (Slot.sh d, some v) (by simp)
        cases ew
        refine ⟨a, vs2, v, rfl, rfl, ev2, by rw [rr2.len, sizeLine_eq]; exact hy.1, hy.2 σ _ ?_⟩
        have c5 := up2 (.lst (vs2 ++ [v])) (.lst (ds ++ [d])) ⟨_, rfl, rr2.app (.cons rw .nil)⟩
        exact k1.ownSet en hs1 (c5.sub (List.Sublist.cons_cons _ (List.sublist_cons_self _ _)))
      · exact hy.elim
    · exact q.elim
  · unfold wApp at h ⊢
    split at h
    · exact mono_rks he.mono (fun y hy => by
        split at hy
        · exact ⟨hy.1, m _ hy.2⟩
        · exact hy.elim) m h
    · exact h.elim
/-- o[k] = v, o one's own list or dict -/
def setOf (c z d : D) (k : D → Prop) : Prop := match c with
  | .lst ds => ∃ i j, z = .int i ∧ ixN ds.length i = some j ∧ k (.lst (ds.set j d))
  | .dk kds => ∃ j, z.key = some j ∧ kds.length < 16777216 ∧ k (.dk (put kds j d))
  | .dt kds => ∃ j, z.keyT = some j ∧ kds.length < 16777216 ∧ k (.dt (put kds j d))
  | _ => False
theorem setOf_mono {c z d : D} {k k' : D → Prop} (m : ∀ x, k x → k' x) (h : setOf c z d k) : setOf c z d k' := by
  cases c with
  | lst ds => obtain ⟨i, j, h1, h2, h3⟩ := h; exact ⟨i, j, h1, h2, m _ h3⟩
  | dk ds => obtain ⟨j, h1, h2, h3⟩ := h; exact ⟨j, h1, h2, m _ h3⟩
  | dt ds => obtain ⟨j, h1, h2, h3⟩ := h; exact ⟨j, h1, h2, m _ h3⟩
  | _ => exact h.elim
def wSet (i : Nat) (wk we : WE) : WS := fun env Q => match env[i]? with
  | some (.ow c) => we env (rks (fun y => match y.stab with
    | some d => wk env (rks (fun z => match z with
      | .sh zd => setOf c zd d fun c' => Q (.nx (env.set i (.ow c')))
      | _ => False) Q env)
    | none => False) Q env)
  | _ => False
def rSetD : V → V → V → Hp → (Hp → Prop) → Prop := fun o i v H Q => ∃ a H', o = .ref a ∧ DPut H a i v H' ∧ Q H'
theorem set_dict (hu : X.A.units + 1 < cLine) : PSet X rSetD := by
  intro pins s σ H o i v ov iv u Q I r1 r2 r3 ⟨a, H', e, g, q⟩
  subst e
  cases r1
  exact d_setItem hu I g r2 r3 fun s4 I4 => ⟨H', I4, q⟩
theorem psor {t t' : TSet} (h : PSet X t) (h' : PSet X t') : PSet X (fun o i v H Q => t o i v H Q ∨ t' o i v H Q) := fun pins s σ H o i v ov iv u Q I r1 r2 r3 z => z.elim (h pins s σ H o i v ov iv u Q I r1 r2 r3) (h' pins s σ H o i v ov iv u Q I r1 r2 r3)
theorem put_fst {κ α β : Type} [DecidableEq κ] (k : κ) (a : α) (b : β) : ∀ {xs : List (κ × α)} {ys : List (κ × β)}, xs.map Prod.fst = ys.map Prod.fst → (xs.any fun kv => decide (kv.1 = k)) = ys.any fun kv => decide (kv.1 = k)
  | [], [], _ => rfl
  | [], _ :: _, h => by simp at h
  | _ :: _, [], h => by simp at h
  | x :: xs, y :: ys, h => by
    have h1 : x.1 = y.1 := by simpa using congrArg List.head? h
    have h2 : xs.map Prod.fst = ys.map Prod.fst := by simpa using congrArg List.tail h
    rw [List.any_cons, List.any_cons, h1, put_fst k a b h2]
theorem reps_put {κ : Type} [DecidableEq κ] {K : PySem.W.Frag} {S : Hp} {k : κ} {v : V} {d : D} (rv : Rep K S v d) : ∀ {kvs : List (κ × V)} {kds : List (κ × D)}, kvs.map Prod.fst = kds.map Prod.fst → Reps K S (kvs.map Prod.snd) (kds.map Prod.snd) →
    (kvs.map fun kv => if kv.1 = k then (kv.1, v) else kv).map Prod.fst = (kds.map fun kv => if kv.1 = k then (kv.1, d) else kv).map Prod.fst ∧
    Reps K S ((kvs.map fun kv => if kv.1 = k then (kv.1, v) else kv).map Prod.snd) ((kds.map fun kv => if kv.1 = k then (kv.1, d) else kv).map Prod.snd)
  | [], [], _, _ => ⟨rfl, .nil⟩
  | [], _ :: _, h, _ => by simp at h
  | _ :: _, [], h, _ => by simp at h
  | (k1, v1) :: kvs, (k2, d1) :: kds, h, r => by
    have h1 : k1 = k2 := by simpa using congrArg List.head? h
    have h2 : kvs.map Prod.fst = kds.map Prod.fst := by simpa using congrArg List.tail h
    subst h1
    have r' : Reps K S (v1 :: kvs.map Prod.snd) (d1 :: kds.map Prod.snd) := r
    cases r' with
    | cons r1 r2 =>
      obtain ⟨i1, i2⟩ := reps_put rv h2 r2
      by_cases e : k1 = k
      · simp only [List.map_cons, e, if_true]
        exact ⟨by rw [i1], .cons rv i2⟩
      · simp only [List.map_cons, if_neg e]
        exact ⟨by rw [i1], .cons r1 i2⟩
theorem rc_putK {κ : Type} [DecidableEq κ] {K : PySem.W.Frag} {S : Hp} {k : κ} {v : V} {d : D} (rv : Rep K S v d) {kvs : List (κ × V)} {kds : List (κ × D)} (h : kvs.map Prod.fst = kds.map Prod.fst) (r : Reps K S (kvs.map Prod.snd) (kds.map Prod.snd)) :
    (putK kvs k v).map Prod.fst = (put kds k d).map Prod.fst ∧ Reps K S ((putK kvs k v).map Prod.snd) ((put kds k d).map Prod.snd) := by
  unfold putK put
  rw [put_fst k v d h]
  split
  · exact reps_put rv h r
  · rw [List.map_append, List.map_append, List.map_append, List.map_append, h]
    exact ⟨rfl, r.app (.cons rv .nil)⟩
theorem ds_setix (i : Nat) {x : Str} {p2 tpos : Pos} (hu : X.A.units + 65 < cLine) (hk : DE X F W e2 wk) (he : DE X F W e we) (hN : X.N[i]? = some x := by rfl) (hv : Vis X.env.scope x := by first | exact Or.inl rfl | exact Or.inr (Or.inl rfl) | exact Or.inr (Or.inr rfl)) (hd : (x == ("__debug__" : Str)) = false := by decide)
    (hcd : (x == ("__classdict__" : Str)) = false := by decide) (hs : swapsWithSole [.Subscript (.Name x p2) e2 tpos] e pos.line X.env = pure false := by rfl) (hw : swappedStores [.Subscript (.Name x p2) e2 tpos] e X.env = pure none := by rfl)
    (h1 : (assignEach [.Subscript (.Name x p2) e2 tpos] X.env).map (·.2) = [assign (.Subscript (.Name x p2) e2 tpos) X.env] := by rfl)
    (ha : ∀ v, assign (.Subscript (.Name x p2) e2 tpos) X.env v = (do
      let ov ← holding [v] (eval (.Name x p2) X.env)
      let iv ← holding [v, ov] (eval e2 X.env)
      standAt tpos
      holding [v, ov, iv] (setItem ov iv v)
      release [v, ov, iv] []) := by intro _; rfl) :
    DS X F W (.Assign [.Subscript (.Name x p2) e2 tpos] e pos) (wSet i wk we) := by
  refine ⟨ps_imp (ps_asg he.run (pg_sub (pe_var hN hv hd hcd) hk.run (psor set_list (set_dict (by omega))) ha) hs hw h1) fun Dn σ H ⟨l, env, k, hl, q⟩ => ?_, fun env Q Q' m h => ?_⟩
  · unfold wSet at q
    split at q
    · rename_i c en
      obtain ⟨a, hs1, hi, _, _⟩ := k.own en hl
      refine le_of he k q fun y hy v H1 c1 => ?_
      split at hy
      · rename_i d ed
        have c2 := c1.stab ed
        have k2 : CE F ((.sh d, some v) :: l) env σ H1 := ⟨k.len, k.ok, c2⟩
        refine ⟨.ref a, hs1, ?_⟩
        refine ⟨(.sh d, some v) :: l, env, k2, hk.mono env _ _ (fun r z => ?_) hy⟩
        cases r with
        | ex cn fs => exact fun A dd H' hA hx c3 => z A dd σ H' hA hx ⟨k.len, k.ok, c3.tail⟩
        | ok zs =>
          intro u H2 c3
          dsimp only [rks] at z
          split at z
          · rename_i zd
            have k3 : CE F ((.sh zd, some u) :: (.sh d, some v) :: l) env σ H2 := ⟨k.len, k.ok, c3⟩
            have hl3 : ∀ q ∈ (Slot.sh zd, some u) :: (Slot.sh d, some v) :: l, q.1.env := fun q hq => by
              rcases List.mem_cons.mp hq with rfl | hq
              · trivial
              · rcases List.mem_cons.mp hq with rfl | hq
                · trivial
                · exact hl q hq
            obtain ⟨a2, hs2, _, c4, nb4⟩ := k3.own en hl3
            rw [hs1] at hs2; cases hs2
            obtain ⟨S2, g2, rc2, cc2, up2⟩ := c4.mut nb4
            obtain ⟨v', ev', rv⟩ := cc2 (Slot.sh d, some v) (by simp)
            cases ev'
            have kl : CE F l env σ H2 := k.at c3.tail.tail
            have fin : ∀ o' c', RC F.K S2 (some o') c' → LSp F W l Dn (.nx (env.set i (.ow c'))) → Dn.nx σ (upd H2 a o') := fun o' c' r z => by
              have c5 := up2 o' c' r
              exact z σ _ (kl.ownSet en hs1 (c5.sub (List.Sublist.cons_cons _ ((List.sublist_cons_self _ _).trans (List.sublist_cons_self _ _)))))
            cases c with
            | lst ds =>
              obtain ⟨n, j, rfl, hj, z⟩ := z
              have eu := C.shInt c3
              cases eu
              obtain ⟨vs, ev, rr⟩ := rc2
              exact .inl ⟨a, vs, n, j, rfl, rfl, ev, by rw [rr.len]; exact hj, fin (.lst (vs.set j v)) (.lst (ds.set j d)) ⟨_, rfl, rr.set j rv⟩ z⟩
            | dk kds =>
              obtain ⟨j, hj, hz, z⟩ := z
              have eu := c3.key hj
              obtain ⟨kvs, ev, hk2, rr⟩ := rc2
              have hlen : kvs.length = kds.length := by simpa using congrArg List.length hk2
              exact .inr ⟨a, _, rfl, .inl ⟨kvs, j, ev, eu, by rw [hlen, sizeLine_eq]; exact hz, rfl⟩, fin (.dK (putK kvs j v)) (.dk (put kds j d)) ⟨_, rfl, rc_putK rv hk2 rr⟩ z⟩
            | dt kds =>
              obtain ⟨j, hj, hz, z⟩ := z
              cases zd with
              | tup es =>
                obtain ⟨S0, g0, r0⟩ := c3.sh0
                obtain ⟨ta, et, ht⟩ := rep_keyT r0 hj
                obtain ⟨kvs, ev, hk2, rr⟩ := rc2
                have hlen : kvs.length = kds.length := by simpa using congrArg List.length hk2
                exact .inr ⟨a, _, rfl, .inr ⟨kvs, j, ta, ev, et, g0.sh _ _ ht, by rw [hlen, sizeLine_eq]; exact hz, rfl⟩, fin (.dT (putK kvs j v)) (.dt (put kds j d)) ⟨_, rfl, rc_putK rv hk2 rr⟩ z⟩
              | _ => cases hj
            | _ => exact z.elim
          · exact z.elim
      · exact hy.elim
    · exact q.elim
  · unfold wSet at h ⊢
    split at h
    · refine mono_rks he.mono (fun y hy => ?_) m h
      split at hy
      · refine mono_rks hk.mono (fun z hz => ?_) m hy
        split at hz
        · exact setOf_mono (fun c z => m _ z) hz
        · exact hz.elim
      · exact hy.elim
    · exact h.elim
end
end DL

set_option Elab.async false
set_option linter.all false
set_option maxRecDepth 100000
set_option maxHeartbeats 4000000
/-! DL, part 7: built-in functions, slices, comprehensions, raising, a def's body -/
namespace DL
open PySem PySem.Spec PyProof.Rows L2

section
variable {X : Cx} {F : Fr} {W : WX} {e e2 tg : Expr} {es : List Expr} {we we2 wc wt : WE} {wi : WI} {pos p : Pos}

/-! ### built-in functions by their names -/
theorem de_b1 {x : Str} {id : String} {r : List V → Hp → VK → Prop} {o : O1} (hc : CallR X (.builtin id) r) (sn : SndUn F (fun x H Q => r [x] H Q) o) (om : O1Mono o) (hm : X.mg x = none) (hv : bootBuiltins x = some (.builtin id)) (he : DE X F W e we)
    (hg : Gl X x := by rfl) (hn : x ≠ "__name__" := by decide) (hdb : (x == ("__debug__" : Str)) = false := by decide) (hs : starEach (e :: []) X.env = (false, eval e X.env) :: starEach [] X.env := by rfl)
    (hpl : (backTo pos (starEach [] X.env)).any (·.1) = false := by rfl) : DE X F W (.Call (.Name x p) [e] [] pos) (wUn o we) :=
  ⟨pe_imp (pe_callB hc hg hm hv (pa_cons he.run pa_nil hs) hn hdb hs hpl) fun σ H Q h => le_un sn he h, mono_un he.mono om⟩
theorem de_t1 {x : Str} {id : String} {r : List V → Hp → VK → Prop} {o : O1} (hc : CallR X (.type id) r) (sn : SndUn F (fun x H Q => r [x] H Q) o) (om : O1Mono o) (hm : X.mg x = none) (hv : bootBuiltins x = some (.type id)) (he : DE X F W e we)
    (hg : Gl X x := by rfl) (hn : x ≠ "__name__" := by decide) (hdb : (x == ("__debug__" : Str)) = false := by decide) (hs : starEach (e :: []) X.env = (false, eval e X.env) :: starEach [] X.env := by rfl)
    (hpl : (backTo pos (starEach [] X.env)).any (·.1) = false := by rfl) : DE X F W (.Call (.Name x p) [e] [] pos) (wUn o we) :=
  ⟨pe_imp (pe_callTy hc hg hm hv (pa_cons he.run pa_nil hs) hn hdb hs hpl) fun σ H Q h => le_un sn he h, mono_un he.mono om⟩
theorem de_b2 {x : Str} {id : String} {r : List V → Hp → VK → Prop} {o : O2} (hc : CallR X (.builtin id) r) (sn : SndOp F (fun x y H Q => r [x, y] H Q) o) (om : OMono o) (hm : X.mg x = none) (hv : bootBuiltins x = some (.builtin id)) (he : DE X F W e we) (he2 : DE X F W e2 we2)
    (hg : Gl X x := by rfl) (hn : x ≠ "__name__" := by decide) (hdb : (x == ("__debug__" : Str)) = false := by decide) (hs : starEach (e :: [e2]) X.env = (false, eval e X.env) :: starEach [e2] X.env := by rfl)
    (hs2 : starEach (e2 :: []) X.env = (false, eval e2 X.env) :: starEach [] X.env := by rfl) (hpl : (backTo pos (starEach [e2] X.env)).any (·.1) = false := by rfl) : DE X F W (.Call (.Name x p) [e, e2] [] pos) (wOp o we we2) :=
  ⟨pe_imp (pe_callB hc hg hm hv (pa_cons he.run (pa_cons he2.run pa_nil hs2) hs) hn hdb hs hpl) fun σ H Q h => le_op sn he he2 h, mono_op he.mono he2.mono om⟩
/-- len -/
def lenOf : D → Option Int
  | .lst ds => some (ds.length : Int)
  | .tup ds => some (ds.length : Int)
  | .str s => if s.length ≤ 16777216 then some (s.length : Int) else none
  | .dk kds => some (kds.length : Int)
  | .dt kds => some (kds.length : Int)
  | _ => none
def oLen : O1 := fun x k => match x.dat with
  | some d => (match lenOf d with | some n => k (.sh (.int n)) | none => False)
  | none => False
theorem oLen_mono : O1Mono oLen := fun x k k' m h => by
  unfold oLen at h ⊢
  split at h
  · split at h
    · exact m _ h
    · exact h.elim
  · exact h.elim
def rLenA (K : PySem.W.Frag) : List V → Hp → VK → Prop := fun xs H Q => (((∃ p ys, xs = [.ref p] ∧ (SqL K H p ys ∨ SqT K H p ys) ∧ Q (.int ys.length) H) ∨ (∃ z, xs = [.str z] ∧ z.length ≤ sizeLine ∧ Q (.int z.length) H)) ∨ (∃ p kvs, xs = [V.ref p] ∧ Rd H p (.dK kvs) ∧ Q (.int (kvs.length : Int)) H)) ∨ rLenT xs H Q
theorem call_lenA : CallR X (.builtin "len") (rLenA X.K) := by
  refine ((call_len_seq.or call_len_str).or ?_).or call_len_dT
  intro pins s σ H xs us Q I r h
  obtain ⟨a, kvs, rfl, ha, q⟩ := h
  obtain ⟨u, rfl, ru⟩ := vals1 r
  cases ru
  exact d_len I ha fun t s' I' => ⟨.int kvs.length, H, I', ⟨t, rfl⟩, q⟩
theorem snd_len : SndUn F (fun x H Q => rLenA F.K [x] H Q) oLen := fun l H x vx ks Q hc ho hq => by
  unfold oLen at ho
  split at ho
  · rename_i d hd
    cases d with
    | lst ds =>
      obtain ⟨a, vs, ea, hl, hlen, _⟩ := hc.seqL hd
      cases ea
      exact .inl (.inl (.inl ⟨a, vs, rfl, .inl hl, by rw [hlen]; exact hq _ _ H ho (hc.tail.int _)⟩))
    | tup ds =>
      obtain ⟨a, vs, ea, hl, hlen, _⟩ := hc.seqT hd
      cases ea
      exact .inl (.inl (.inl ⟨a, vs, rfl, .inr hl, by rw [hlen]; exact hq _ _ H ho (hc.tail.int _)⟩))
    | str s =>
      obtain ⟨S, r⟩ := hc.repOf hd fun _ _ _ z => z
      cases r
      unfold lenOf at ho
      by_cases h : s.length ≤ 16777216
      · simp only [h, if_true] at ho
        exact .inl (.inl (.inr ⟨s, rfl, by rw [sizeLine_eq]; exact h, hq _ _ H ho (hc.tail.int _)⟩))
      · simp only [h, if_false] at ho
    | dk kds =>
      obtain ⟨a, kvs, ea, hr, hk, _⟩ := hc.dictK hd
      cases ea
      have hlen : kvs.length = kds.length := by simpa using congrArg List.length hk
      exact .inl (.inr ⟨a, kvs, rfl, hr, by rw [hlen]; exact hq _ _ H ho (hc.tail.int _)⟩)
    | dt kds =>
      obtain ⟨a, kvs, ea, hr, hk, _⟩ := hc.dictT hd
      cases ea
      have hlen : kvs.length = kds.length := by simpa using congrArg List.length hk
      exact .inr ⟨a, kvs, rfl, hr, by rw [hlen]; exact hq _ _ H ho (hc.tail.int _)⟩
    | _ => exact ho.elim
  · exact ho.elim
theorem de_len (hm : X.mg "len" = none) (he : DE X F W e we) (hg : Gl X "len" := by rfl) (hs : starEach (e :: []) X.env = (false, eval e X.env) :: starEach [] X.env := by rfl) (hpl : (backTo pos (starEach [] X.env)).any (·.1) = false := by rfl) (hK : X.K = F.K := by rfl) : DE X F W (.Call (.Name "len" p) [e] [] pos) (wUn oLen we) :=
  de_b1 (r := rLenA F.K) (by rw [← hK]; exact call_lenA) snd_len oLen_mono hm PySem.boot_len he hg (by decide) (by decide) hs hpl
/-- sum of whole numbers -/
def oSum : O1 := fun x k => match x.dat with
  | some (.lst ds) => ∃ ns : List Int, ds = ns.map D.int ∧ k (.sh (.int ns.sum))
  | _ => False
theorem de_sum (hc : X.calm = true) (hm : X.mg "sum" = none) (he : DE X F W e we) (hg : Gl X "sum" := by rfl) (hs : starEach (e :: []) X.env = (false, eval e X.env) :: starEach [] X.env := by rfl) (hpl : (backTo pos (starEach [] X.env)).any (·.1) = false := by rfl) (hK : X.K = F.K := by rfl) : DE X F W (.Call (.Name "sum" p) [e] [] pos) (wUn oSum we) :=
  de_b1 (r := rSum F.K) (by rw [← hK]; exact cr_sum hc) (fun l H x vx ks Q c ho hq => by
    unfold oSum at ho
    split at ho
    · rename_i ds hd
      obtain ⟨ns, rfl, hk⟩ := ho
      obtain ⟨a, vs, ea, hl, hlen, S, g, r, _⟩ := c.seqL hd
      cases ea
      rw [r.ints] at hl
      exact ⟨a, ns, rfl, hl, hq _ _ H hk (c.tail.int _)⟩
    · exact ho.elim) (fun x k k' m h => by
    unfold oSum at h ⊢
    split at h
    · obtain ⟨ns, e1, e2⟩ := h; exact ⟨ns, e1, m _ e2⟩
    · exact h.elim) hm (by decide +kernel) he hg (by decide) (by decide) hs hpl
/-- min(a, b), max(a, b) -/
def imin (i j : Int) : Int := if j < i then j else i
def imax (i j : Int) : Int := if j > i then j else i
def oMin : O2 := oI0 fun i j => .int (imin i j)
def oMax : O2 := oI0 fun i j => .int (imax i j)
theorem snd_i2 {g : Int → Int → Int} {r : List V → Hp → VK → Prop} (hr : ∀ i j H Q, Q (.int (g i j)) H → r [.int i, .int j] H Q) : SndOp F (fun x y H Q => r [x, y] H Q) (oI0 fun i j => .int (g i j)) := fun l H x y vx vy ks Q hc ho hq => by
  unfold oI0 at ho
  split at ho
  · rename_i i j
    have e1 := hc.shInt
    have e2 := hc.tail.shInt
    cases e1; cases e2
    exact hr i j H Q (hq _ _ H ho (hc.tail.tail.int _))
  · exact ho.elim
theorem de_min2 (hc : X.calm = true) (hm : X.mg "min" = none) (he : DE X F W e we) (he2 : DE X F W e2 we2) (hg : Gl X "min" := by rfl) (hs : starEach (e :: [e2]) X.env = (false, eval e X.env) :: starEach [e2] X.env := by rfl)
    (hs2 : starEach (e2 :: []) X.env = (false, eval e2 X.env) :: starEach [] X.env := by rfl) (hpl : (backTo pos (starEach [e2] X.env)).any (·.1) = false := by rfl) : DE X F W (.Call (.Name "min" p) [e, e2] [] pos) (wOp oMin we we2) :=
  de_b2 (call_min2 hc) (snd_i2 (g := fun i j => if j < i then j else i) (r := fun xs H Q => ∃ i j, xs = [V.int i, V.int j] ∧ Q (.int (if j < i then j else i)) H) fun i j H Q q => ⟨i, j, rfl, q⟩) oI0_mono hm (by decide +kernel) he he2 hg (by decide) (by decide) hs hs2 hpl
theorem de_max2 (hc : X.calm = true) (hm : X.mg "max" = none) (he : DE X F W e we) (he2 : DE X F W e2 we2) (hg : Gl X "max" := by rfl) (hs : starEach (e :: [e2]) X.env = (false, eval e X.env) :: starEach [e2] X.env := by rfl)
    (hs2 : starEach (e2 :: []) X.env = (false, eval e2 X.env) :: starEach [] X.env := by rfl) (hpl : (backTo pos (starEach [e2] X.env)).any (·.1) = false := by rfl) : DE X F W (.Call (.Name "max" p) [e, e2] [] pos) (wOp oMax we we2) :=
  de_b2 (call_max2 hc) (snd_i2 (g := fun i j => if j > i then j else i) (r := fun xs H Q => ∃ i j, xs = [V.int i, V.int j] ∧ Q (.int (if j > i then j else i)) H) fun i j H Q q => ⟨i, j, rfl, q⟩) oI0_mono hm (by decide +kernel) he he2 hg (by decide) (by decide) hs hs2 hpl
/-- list(x), dict(x): copies -/
def keyD : L2.Key → D
  | .inl i => .int i
  | .inr s => .str s
def listOf : D → Option (List D)
  | .lst ds => some ds
  | .tup ds => some ds
  | .dk kds => some (kds.map fun kv => keyD kv.1)
  | _ => none
def oList : O1 := fun x k => match x.dat with
  | some d => (match listOf d with | some ds => k (.ow (.lst ds)) | none => False)
  | none => False
def rListA (K : PySem.W.Frag) : List V → Hp → VK → Prop := fun xs H Q => (∃ p ys, xs = [.ref p] ∧ (SqL K H p ys ∨ SqT K H p ys) ∧ ∀ l, H l = none → Q (.ref l) (upd H l (.lst ys))) ∨
  (∃ (a : Addr) (kvs : List (L2.Key × V)), xs = [.ref a] ∧ Rd H a (.dK kvs) ∧ ∀ p, H p = none → Q (.ref p) (upd H p (.lst (kvs.map fun kv => kV kv.1))))
theorem rep_keyD {K : PySem.W.Frag} {S : Hp} (k : L2.Key) : Rep K S (kV k) (keyD k) := by cases k; exact .int; exact .str
theorem reps_keyD {K : PySem.W.Frag} {S : Hp} : ∀ ks : List L2.Key, Reps K S (ks.map kV) (ks.map keyD)
  | [] => .nil
  | k :: ks => .cons (rep_keyD k) (reps_keyD ks)
theorem repsIn {l : List Cell} {H : Hp} {x : Slot} {a : Addr} {vs : List V} {ds : List D} (h : C F ((x, some (.ref a)) :: l) H) (hx : x.dat = some (.lst ds) ∨ x.dat = some (.tup ds)) : ∃ vs, (SqL F.K H a vs ∨ SqT F.K H a vs) ∧ vs.length = ds.length ∧ ∀ S, GS F S H → (∀ q ∈ (x, some (V.ref a)) :: l, SC F S H q) → ∃ us, (SqL F.K H a us ∨ SqT F.K H a us) ∧ Reps F.K S us ds := by
  rcases hx with hx | hx
  · obtain ⟨b, us, ea, hl, hlen, _⟩ := h.seqL hx
    cases ea
    refine ⟨us, .inl hl, hlen, fun S g cc => ?_⟩
    have s := cc _ List.mem_cons_self
    cases x with
    | un => cases hx
    | sh d => cases hx; obtain ⟨w, ew, rw⟩ := s; cases ew; cases rw with
      | lst hq2 r2 => exact ⟨_, .inl (sqL_mono g.sh hq2), r2⟩
    | ow d => cases hx; obtain ⟨b, eb, _, _, vs', e2, r2⟩ := s; cases eb; exact ⟨vs', .inl (SqL.of e2), r2⟩
    | bo d => cases hx; obtain ⟨b, eb, _, vs', e2, r2⟩ := s; cases eb; exact ⟨vs', .inl (SqL.of e2), r2⟩
    | bt d => cases hx; obtain ⟨b, eb, vs', e2, r2⟩ := s; cases eb; exact ⟨vs', .inl (SqL.of e2), r2⟩
  · obtain ⟨b, us, ea, hl, hlen, _⟩ := h.seqT hx
    cases ea
    refine ⟨us, .inr hl, hlen, fun S g cc => ?_⟩
    have s := cc _ List.mem_cons_self
    cases x with
    | un => cases hx
    | sh d => cases hx; obtain ⟨w, ew, rw⟩ := s; cases ew; cases rw with
      | tup hq2 r2 => exact ⟨_, .inr (SqT.of (g.sh _ _ hq2)), r2⟩
    | ow d => cases hx; obtain ⟨b, eb, _, _, r⟩ := s; exact r.elim
    | bo d => cases hx; obtain ⟨b, eb, _, r⟩ := s; exact r.elim
    | bt d => cases hx; obtain ⟨b, eb, r⟩ := s; exact r.elim
/-- a new list from values that are read off what stands -/
theorem C.newFrom {l : List Cell} {H : Hp} {a : Addr} {vs : List V} {ds : List D} {S : Hp} (g : GS F S H) (cc : ∀ q ∈ l, SC F S H q) (pw : l.Pairwise Apart) (r : Reps F.K S vs ds) (ha : H a = none) : C F ((.ow (.lst ds), some (.ref a)) :: l) (upd H a (.lst vs)) := by
  have hS : S a = none := g.sh.free ha
  refine ⟨S, ⟨g.s0, g.sh.trans (same_new ha), g.h0.trans (same_new ha), g.fr⟩, fun q hq => ?_, List.pairwise_cons.mpr ⟨fun q hq _ oq => ?_, pw⟩⟩
  · rcases List.mem_cons.mp hq with rfl | hq
    · exact ⟨a, rfl, g.h0.free ha, hS, by rw [upd_same]; exact ⟨vs, rfl, r⟩⟩
    · exact (cc q hq).grow (Same.refl S) (same_new ha) fun b hb => .inl hb
  · obtain ⟨x, v⟩ := q
    cases x with
    | ow e =>
      obtain ⟨b, e1, _, _, r⟩ := cc _ hq
      intro z
      have z' : some (V.ref a) = v := z
      rw [← z'] at e1
      cases e1
      exact r.nn ha
    | _ => exact oq.elim
theorem C.newFromT {l : List Cell} {H : Hp} {a : Addr} {vs : List V} {ds : List D} {S : Hp} (g : GS F S H) (cc : ∀ q ∈ l, SC F S H q) (pw : l.Pairwise Apart) (r : Reps F.K S vs ds) (ha : H a = none) : C F ((.sh (.tup ds), some (.ref a)) :: l) (upd H a (.tup vs)) := by
  have hS : S a = none := g.sh.free ha
  refine ⟨upd S a (.tup vs), g.new ha, fun q hq => ?_, pw_cons_noOw (fun z => z) pw⟩
  rcases List.mem_cons.mp hq with rfl | hq
  · exact ⟨_, rfl, .tup upd_same (r.mono (same_new hS))⟩
  · refine (cc q hq).grow (same_new hS) (same_new ha) fun b hb => ?_
    by_cases e : b = a
    · subst e; exact .inr ha
    · rw [upd_ne e] at hb; exact .inl hb
theorem snd_list : SndUn F (fun x H Q => rListA F.K [x] H Q) oList := fun l H x vx ks Q hc ho hq => by
  unfold oList at ho
  split at ho
  · rename_i d hd
    have pwl : l.Pairwise Apart := by obtain ⟨_, _, _, pw⟩ := hc; exact (List.pairwise_cons.mp pw).2
    cases d with
    | lst ds =>
      obtain ⟨a, vs, ea, hl, hlen, S, g, r, cc, _⟩ := hc.seqL hd
      cases ea
      exact .inl ⟨a, vs, rfl, .inl hl, fun b hb => hq _ _ _ ho (C.newFrom g (fun q hq => cc q (List.mem_cons_of_mem _ hq)) pwl r hb)⟩
    | tup ds =>
      obtain ⟨a, vs, ea, hl, hlen, S, g, r, cc, _⟩ := hc.seqT hd
      cases ea
      exact .inl ⟨a, vs, rfl, .inr hl, fun b hb => hq _ _ _ ho (C.newFrom g (fun q hq => cc q (List.mem_cons_of_mem _ hq)) pwl r hb)⟩
    | dk kds =>
      obtain ⟨a, kvs, ea, hr, hk, S, g, r, cc, pw⟩ := hc.dictK hd
      cases ea
      refine .inr ⟨a, kvs, rfl, hr, fun b hb => hq _ _ _ ho ?_⟩
      have e1 : (kvs.map fun kv => kV kv.1) = (kvs.map Prod.fst).map kV := by rw [List.map_map]; rfl
      have e2 : (kds.map fun kv => keyD kv.1) = (kds.map Prod.fst).map keyD := by rw [List.map_map]; rfl
      rw [e1, e2, hk]
      exact C.newFrom g (fun q hq => cc q (List.mem_cons_of_mem _ hq)) pwl (reps_keyD _) hb
    | _ => exact ho.elim
  · exact ho.elim
theorem oList_mono : O1Mono oList := fun x k k' m h => by
  unfold oList at h ⊢
  split at h
  · split at h
    · exact m _ h
    · exact h.elim
  · exact h.elim
theorem de_list (hc : X.calm = true) (hm : X.mg "list" = none) (he : DE X F W e we) (hg : Gl X "list" := by rfl) (hs : starEach (e :: []) X.env = (false, eval e X.env) :: starEach [] X.env := by rfl) (hpl : (backTo pos (starEach [] X.env)).any (·.1) = false := by rfl) (hK : X.K = F.K := by rfl) : DE X F W (.Call (.Name "list" p) [e] [] pos) (wUn oList we) :=
  de_t1 (r := rListA F.K) (by rw [← hK]; exact call_list_of.or (call_listD hc)) snd_list oList_mono hm (by decide +kernel) he hg (by decide) (by decide) hs hpl
def oDict : O1 := fun x k => match x.dat with
  | some (.dk kds) => k (.ow (.dk kds))
  | _ => False
theorem de_dict (hm : X.mg "dict" = none) (he : DE X F W e we) (hg : Gl X "dict" := by rfl) (hs : starEach (e :: []) X.env = (false, eval e X.env) :: starEach [] X.env := by rfl) (hpl : (backTo pos (starEach [] X.env)).any (·.1) = false := by rfl) : DE X F W (.Call (.Name "dict" p) [e] [] pos) (wUn oDict we) :=
  de_t1 call_dictD (fun l H x vx ks Q hc ho hq => by
    unfold oDict at ho
    split at ho
    · rename_i kds hd
      obtain ⟨a, kvs, ea, hr, hk, S, g, r, cc, pw⟩ := hc.dictK hd
      cases ea
      refine ⟨a, kvs, rfl, hr, fun b hb => hq _ _ _ ho ?_⟩
      have hS : S b = none := g.sh.free hb
      have pwl := (List.pairwise_cons.mp pw).2
      refine ⟨S, ⟨g.s0, g.sh.trans (same_new hb), g.h0.trans (same_new hb), g.fr⟩, fun q hq => ?_, List.pairwise_cons.mpr ⟨fun q hq _ oq => ?_, pwl⟩⟩
      · rcases List.mem_cons.mp hq with rfl | hq
        · exact ⟨b, rfl, g.h0.free hb, hS, by rw [upd_same]; exact ⟨kvs, rfl, hk, r⟩⟩
        · exact (cc q (List.mem_cons_of_mem _ hq)).grow (Same.refl S) (same_new hb) fun c hc => .inl hc
      · obtain ⟨y, v⟩ := q
        cases y with
        | ow e =>
          obtain ⟨c, e1, _, _, r⟩ := cc _ (List.mem_cons_of_mem _ hq)
          intro z
          have z' : some (V.ref b) = v := z
          rw [← z'] at e1
          cases e1
          exact r.nn hb
        | _ => exact oq.elim
    · exact ho.elim) (fun x k k' m h => by
    unfold oDict at h ⊢
    split at h
    · exact m _ h
    · exact h.elim) hm (by decide +kernel) he hg (by decide) (by decide) hs hpl
/-- isinstance(x, T), T a built-in class -/
def tyD : D → String
  | .non => "NoneType"
  | .bl _ => "bool"
  | .int _ => "int"
  | .str _ => "str"
  | .tup _ => "tuple"
  | .lst _ => "list"
  | .dk _ => "dict"
  | .dt _ => "dict"
def isD (d : D) (T : String) : Bool := (tyD d == T) || (tyD d == "bool" && T == "int")
def oIsi (T : String) : O1 := fun x k => match x.dat with
  | some d => k (.sh (.bl (isD d T)))
  | none => False
theorem C.ty {l : List Cell} {H : Hp} {x : Slot} {v : V} {d : D} (h : C F ((x, some v) :: l) H) (hx : x.dat = some d) : TyX F.K H v (.type (tyD d)) := by
  obtain ⟨S, g, cc, _⟩ := h
  have s := cc _ List.mem_cons_self
  have one : ∀ {d : D} {a : Addr}, RC F.K S (H a) d → TyX F.K H (.ref a) (.type (tyD d)) := fun {d a} r => by
    cases d with
    | lst ds => obtain ⟨vs, e2, r⟩ := r; exact .base (.lst e2)
    | dk kds => obtain ⟨kvs, e2, _⟩ := r; exact .base (.dK e2)
    | dt kds => obtain ⟨kvs, e2, _⟩ := r; exact .base (.dT e2)
    | _ => exact r.elim
  cases x with
  | un => cases hx
  | sh d' =>
    cases hx
    obtain ⟨u, e, r⟩ := s
    cases e
    cases r with
    | non => exact .base .non
    | bl => exact .base (.bl _)
    | int => exact .base (.int _)
    | str => exact .base (.str _)
    | tup hq _ => exact .base (.tup (g.sh _ _ hq))
    | lst hq _ =>
      rcases hq with hq | ⟨o, its, n, hk, hc, _⟩
      · rcases hq with hq | ⟨o, hq⟩
        · exact .base (.lst (g.sh _ _ hq))
        · exact .base (.frz (g.sh _ _ hq))
      · exact .kList hk hc
    | dk hq _ _ =>
      rcases hq with hq | ⟨o, hq⟩
      · exact .base (.dK (g.sh _ _ hq))
      · exact .fDict (g.sh _ _ hq)
    | dt hq _ _ => exact .base (.dT (g.sh _ _ hq))
  | ow d' => cases hx; obtain ⟨a, e, _, _, r⟩ := s; cases e; exact one r
  | bo d' => cases hx; obtain ⟨a, e, _, r⟩ := s; cases e; exact one r
  | bt d' => cases hx; obtain ⟨a, e, r⟩ := s; cases e; exact one r
def KitOk (T : String) : Prop := ∀ t ∈ ["NoneType", "bool", "int", "str", "tuple", "list", "dict"], kitB t T = some ((t == T) || (t == "bool" && T == "int"))
theorem tyD_mem (d : D) : tyD d ∈ ["NoneType", "bool", "int", "str", "tuple", "list", "dict"] := by cases d <;> simp [tyD]
theorem de_isi {T : Str} {U : String} {tp : Pos} (hm : X.mg "isinstance" = none) (hT : X.mg T = none) (hv : bootBuiltins T = some (.type U)) (kit : KitOk U) (he : DE X F W e we) (hcl : ClsV (.ty U) (.type U)) (hg : Gl X "isinstance" := by rfl) (hgT : Gl X T := by rfl) (hn : T ≠ "__name__" := by decide) (hdT : (T == ("__debug__" : Str)) = false := by decide)
    (hs : starEach (e :: [.Name T tp]) X.env = (false, eval e X.env) :: starEach [.Name T tp] X.env := by rfl) (hpl : (backTo pos (starEach [.Name T tp] X.env)).any (·.1) = false := by rfl) (hK : X.K = F.K := by rfl) :
    DE X F W (.Call (.Name "isinstance" p) [e, .Name T tp] [] pos) (wUn (oIsi U) we) := by
  refine ⟨pe_imp (pe_callB (r := rIsi X.K) call_isi hg hm (by decide +kernel) (pa_cons he.run (pa_cons (pe_bltn (v := .ty U) hgT hT hv rfl hn hdT) pa_nil) hs) (by decide) (by decide) hs hpl) fun σ H Q ⟨l, env, k, q⟩ => ?_, mono_un he.mono fun x k k' m h => ?_⟩
  · refine ⟨l, env, k, lep_mono he.mono q (fun x hx v H1 c1 => ?_) fun c fs z => z⟩
    unfold oIsi at hx
    split at hx
    · rename_i d hd
      refine ⟨v, .ty U, .type (tyD d), .type U, isD d U, rfl, hcl, by rw [hK]; exact c1.ty hd, kit_ty (kit _ (tyD_mem d)), hx _ H1 (c1.tail.bl _)⟩
    · exact hx.elim
  · unfold oIsi at h ⊢
    split at h
    · exact m _ h
    · exact h.elim

/-! ### slices -/
abbrev WO := En → (R (Option Int) → Prop) → Prop
def LOp (F : Fr) (W : WX) (l : List Cell) (env : En) (σ : L2.St) (Q : Option Int → Hp → Prop) : R (Option Int) → Prop
  | .ok o => ∀ H', C F (l ++ env.zip σ) H' → Q o H'
  | .ex c fs => ∀ A d H', F.mg c = some (.ref A) → XF H' d fs → C F (l ++ env.zip σ) H' → W (.ref A) d σ H'
def LO (F : Fr) (W : WX) (w : WO) : TO := fun σ H Q => ∃ l env, CE F l env σ H ∧ w env (LOp F W l env σ Q)
structure DO (X : Cx) (F : Fr) (W : WX) (e : Option Expr) (w : WO) : Prop where
  run : PO X e (LO F W w)
  mono : Mono w
theorem po_imp {o : Option Expr} {t t' : TO} (h : PO X o t) (q : ∀ σ H Q, t' σ H Q → t σ H Q) : PO X o t' := ⟨fun pins s σ H Q I z => h.run pins s σ H Q I (q _ _ _ z)⟩
def wNoP : WO := fun _ Q => Q (.ok none)
def wPart (we : WE) : WO := fun env Q => we env (rk (fun x => match x with | .sh (.int i) => Q (.ok (some i)) | _ => False) Q)
theorem do_none : DO X F W none wNoP := ⟨po_imp po_none fun σ H Q ⟨l, env, k, q⟩ => q H k.c, fun _ _ _ m h => m _ h⟩
theorem do_some (he : DE X F W e we) : DO X F W (some e) (wPart we) := by
  refine ⟨po_imp (po_some he.run) fun σ H Q ⟨l, env, k, q⟩ => ⟨l, env, k, lep_mono he.mono q (fun x hx v H1 c1 => ?_) fun c fs z => z⟩, fun env Q Q' m h => mono_rk he.mono (fun x hx => ?_) m h⟩
  · split at hx
    · rename_i i
      have e1 := c1.shInt
      cases e1
      exact ⟨i, rfl, hx H1 c1.tail⟩
    · exact hx.elim
  · split at hx
    · exact m _ hx
    · exact hx.elim
def cutD {α : Type} (xs : List α) (lo hi : Option Int) : List α := (xs.drop (HT.sIx xs.length 0 lo)).take (HT.sIx xs.length xs.length hi - HT.sIx xs.length 0 lo)
def sliceOf (x : Slot) (lo hi : Option Int) (k : Slot → Prop) : Prop := match x.dat with
  | some (.lst ds) => k (.ow (.lst (cutD ds lo hi)))
  | some (.tup ds) => ¬ (HT.sIx ds.length 0 lo = 0 ∧ HT.sIx ds.length ds.length hi = ds.length) ∧ k (.sh (.tup (cutD ds lo hi)))
  | some (.str s) => s.length ≤ 16777216 ∧ k (.sh (.str (cutS s lo hi)))
  | _ => False
theorem sliceOf_mono {x : Slot} {lo hi : Option Int} {k k' : Slot → Prop} (m : ∀ z, k z → k' z) (h : sliceOf x lo hi k) : sliceOf x lo hi k' := by
  unfold sliceOf at h ⊢
  split at h
  · exact m _ h
  · exact ⟨h.1, m _ h.2⟩
  · exact ⟨h.1, m _ h.2⟩
  · exact h.elim
def wSlice (we : WE) (wl wh : WO) : WE := fun env Q => we env (rk (fun x => wl env (rk (fun lo => wh env (rk (fun hi => sliceOf x lo hi fun z => Q (.ok z)) Q)) Q)) Q)
def rSlA (K : PySem.W.Frag) : V → Option Int → Option Int → Hp → VK → Prop := fun x lo hi H Q => (rSlL K x lo hi H Q ∨ rSlT K x lo hi H Q) ∨ rSlS x lo hi H Q
theorem lop_mono {β : Type} {w : WO} {l : List Cell} {env : En} {σ : L2.St} {k : Option Int → Prop} {Q : R β → Prop} {Q' : Option Int → Hp → Prop} (m : Mono w) (h : w env (rk k Q))
    (h1 : ∀ x, k x → ∀ H', C F (l ++ env.zip σ) H' → Q' x H') (h2 : ∀ c fs, Q (.ex c fs) → LOp F W l env σ Q' (.ex c fs)) : w env (LOp F W l env σ Q') :=
  m env _ _ (fun r q => match r, q with
    | .ok x, q => h1 x q
    | .ex c fs, q => h2 c fs q) h
theorem de_slice {lo hi : Option Expr} {wl wh : WO} {p2 : Pos} (he : DE X F W e we) (hl : DO X F W lo wl) (hh : DO X F W hi wh) (hK : X.K = F.K := by rfl) : DE X F W (.Subscript e (.Slice lo hi none p2) pos) (wSlice we wl wh) := by
  refine ⟨pe_imp (pe_slice (r := rSlA F.K) (by rw [← hK]; exact (sl_list.or sl_tup).or sl_str) he.run hl.run hh.run) fun σ H Q ⟨l, env, k, q⟩ => ⟨l, env, k, lep_mono he.mono q (fun x hx v H1 c1 => ?_) fun c fs z => z⟩, fun env Q Q' m h => mono_rk he.mono (fun x hx => mono_rk hl.mono (fun lo hlo => mono_rk hh.mono (fun hi hhi => sliceOf_mono (fun z hz => m _ hz) hhi) m hlo) m hx) m h⟩
  refine ⟨(x, some v) :: l, env, k.to1 c1, lop_mono hl.mono hx (fun a ha H2 c2 => ?_) fun c fs z => fun A d H' hA hx c3 => z A d H' hA hx c3.tail⟩
  refine ⟨(x, some v) :: l, env, k.to1 c2, lop_mono hh.mono ha (fun b hb H3 c3 => ?_) fun c fs z => fun A d H' hA hx c3 => z A d H' hA hx c3.tail⟩
  have c4 : C F ((x, some v) :: (l ++ env.zip σ)) H3 := c3
  have pwl : (l ++ env.zip σ).Pairwise Apart := by obtain ⟨_, _, _, pw⟩ := c4; exact (List.pairwise_cons.mp pw).2
  unfold sliceOf at hb
  split at hb
  · rename_i ds hd
    obtain ⟨p, vs, ea, hq, hlen, S, g, r, cc, _⟩ := c4.seqL hd
    cases ea
    refine .inl (.inl ⟨p, vs, rfl, hq, fun n hn => hb _ _ (C.newFrom g (fun q hq => cc q (List.mem_cons_of_mem _ hq)) pwl ?_ hn)⟩)
    unfold cutV cutD
    rw [hlen]
    exact (r.drop _).take _
  · rename_i ds hd
    obtain ⟨p, vs, ea, hq, hlen, S, g, r, cc, _⟩ := c4.seqT hd
    cases ea
    refine .inl (.inr ⟨p, vs, rfl, hq, by rw [hlen]; exact hb.1, fun n hn => hb.2 _ _ (C.newFromT g (fun q hq => cc q (List.mem_cons_of_mem _ hq)) pwl ?_ hn)⟩)
    unfold cutV cutD
    rw [hlen]
    exact (r.drop _).take _
  · rename_i s hd
    obtain ⟨S, r⟩ := c4.repOf hd fun _ _ _ z => z
    cases r
    exact .inr ⟨s, rfl, by rw [sizeLine_eq]; exact hb.1, hb.2 _ H3 (c4.tail.str _)⟩
  · exact hb.elim
end
end DL

set_option Elab.async false
set_option linter.all false
set_option maxRecDepth 100000
set_option maxHeartbeats 4000000
/-! DL, part 8: comprehensions, raising, a def's body, the law's end -/
namespace DL
open PySem PySem.Spec PyProof.Rows L2

/-! ### forgetting a name; [e for x in xs if ..] -/
theorem C.revalue {F : Fr} {H : Hp} : ∀ {l1 l2 : List Cell} {a : List Cell}, l1.length = l2.length → (∀ (i : Nat) p q, l1[i]? = some p → l2[i]? = some q → p = q ∨ q.1 = .un) → C F (a ++ l1) H → C F (a ++ l2) H
  | [], [], a, _, _, h => h
  | [], _ :: _, _, h, _, _ => by simp at h
  | _ :: _, [], _, h, _, _ => by simp at h
  | p :: l1, q :: l2, a, hl, hr, h => by
    have h1 : C F ((a ++ [q]) ++ l1) H := by
      rcases hr 0 p q rfl rfl with rfl | e
      · rw [List.append_assoc]; exact h
      · have h2 : C F (a ++ l1) H := h.front.tail
        have h3 : C F ((.un, q.2) :: (a ++ l1)) H := h2.un _
        rw [List.append_assoc]
        have : q = (.un, q.2) := by rw [← e]
        rw [this]
        exact h3.back
    have h2 := C.revalue (l1 := l1) (l2 := l2) (a := a ++ [q]) (by simpa using hl) (fun i p' q' e1 e2 => hr (i + 1) p' q' (by simpa using e1) (by simpa using e2)) h1
    rw [List.append_assoc] at h2
    exact h2
section
variable {X : Cx} {F : Fr} {W : WX} {e e2 tg : Expr} {es : List Expr} {st : Stmt} {we we2 wc wt : WE} {wi : WI} {w : WS} {pos p : Pos}
theorem CE.un {l : List Cell} {env : En} {σ : L2.St} {H : Hp} (k : CE F l env σ H) (i : Nat) (v : Option V) : CE F l (env.set i .un) (σ.set i v) H := by
  refine ⟨by simp [k.len], fun y hy => ?_, ?_⟩
  · rcases List.mem_or_eq_of_mem_set hy with hy | rfl
    · exact k.ok y hy
    · trivial
  · rw [zip_set]
    refine C.revalue (l1 := env.zip σ) (by simp) (fun j p q h1 h2 => ?_) k.c
    rw [List.getElem?_set] at h2
    split at h2
    · split at h2
      · cases h2; exact .inr rfl
      · cases h2
    · rw [h1] at h2; cases h2; exact .inl rfl
theorem set_same {α : Type} {l : List α} {i : Nat} {x : α} (h : l[i]? = some x) : l.set i x = l := by
  apply List.ext_getElem?
  intro j
  rw [List.getElem?_set]
  split
  · subst_vars
    split
    · rw [h]
    · rename_i hlt
      rw [List.getElem?_eq_none (by omega)]
  · rfl
/-- a name is forgotten -/
def wFgt (i : Nat) (w : WS) : WS := fun env Q => w (env.set i .un) Q
theorem ds_fgt (i : Nat) (h : DS X F W st w) : DS X F W st (wFgt i w) := ⟨ps_imp h.run fun D σ H ⟨l, env, k, hl, q⟩ => ⟨l, env.set i .un, by
    by_cases hi : i < σ.length
    · have e : σ.set i σ[i] = σ := set_same (List.getElem?_eq_getElem hi)
      have := k.un i σ[i]
      rw [e] at this
      exact this
    · have e : env.set i .un = env := List.set_eq_of_length_le (by rw [k.len]; omega)
      rw [e]; exact k, hl, q⟩, fun env Q Q' m q => h.mono _ _ _ m q⟩
def rk0 {α : Type} (k : α → Prop) : R α → Prop
  | .ok x => k x
  | .ex _ _ => False
def W0 : WX := fun _ _ _ _ => False
def lcL (i : Nat) (wt we : WE) : List D → En → List D → (List D → Prop) → Prop
  | [], _, acc, k => k acc
  | d :: ds, env, acc, k => wt (env.set i (.sh d)) (rk0 (asB fun b => match b with
    | true => we (env.set i (.sh d)) (rk0 fun y => match y.stab with
      | some z => acc.length < 16777216 ∧ lcL i wt we ds env (acc ++ [z]) k
      | none => False)
    | false => lcL i wt we ds env acc k))
def unAt (env : En) (i : Nat) : Prop := match env[i]? with
  | some .un => True
  | _ => False
def wLc (i : Nat) (wi : WI) (wt we : WE) : WE := fun env Q => unAt env i ∧ wi env (rk (fun ds => lcL i wt we ds env [] fun acc => Q (.ok (.ow (.lst acc)))) Q)
theorem mono_rk0 {α : Type} {w : En → (R α → Prop) → Prop} (m : Mono w) {k k' : α → Prop} {env : En} (hk : ∀ x, k x → k' x) (h : w env (rk0 k)) : w env (rk0 k') :=
  m env _ _ (fun r q => match r, q with
    | .ok x, q => hk x q
    | .ex c fs, q => q) h
theorem lcL_mono {i : Nat} (mt : Mono wt) (me : Mono we) : ∀ {ds : List D} {env : En} {acc : List D} {k k' : List D → Prop}, (∀ a, k a → k' a) → lcL i wt we ds env acc k → lcL i wt we ds env acc k'
  | [], _, _, _, _, m, h => m _ h
  | d :: ds, env, acc, k, k', m, h => mono_rk0 mt (fun x hx => asB_mono (fun b z => match b, z with
    | true, z => mono_rk0 me (fun y hy => by
      split at hy
      · exact ⟨hy.1, lcL_mono mt me m hy.2⟩
      · exact hy.elim) z
    | false, z => lcL_mono mt me m z) hx) h
theorem mono_lc {i : Nat} (mi : Mono wi) (mt : Mono wt) (me : Mono we) : Mono (wLc i wi wt we) := fun env Q Q' m h => ⟨h.1, mono_rk mi (fun ds z => lcL_mono mt me (fun a z => m _ z) z) m h.2⟩
/-- a comprehension's test -/
def LTt (F : Fr) (wt : WE) : TT := LT F W0 wt
theorem asB_inv {k : Bool → Prop} {x : Slot} (h : asB k x) : ∃ b, x = .sh (.bl b) ∧ k b := by
  unfold asB at h
  split at h
  · exact ⟨_, rfl, h⟩
  · exact h.elim
theorem lc_core' {iter : Expr} {x : Str} {px : Pos} {i : Nat} {tt : TT} {te : TE} (hi : DI X F W (.Name x px) iter wi) (mt : Mono wt) (me : Mono we) (htt : ∀ σ H Q, LT F W0 wt σ H Q → tt σ H Q) (hte : ∀ σ H Q, LE F W0 we σ H Q → te σ H Q)
    {σ : L2.St} {H : Hp} {Q : VK} {l : List Cell} {env : En} {Qe : R Slot → Prop} (k : CE F l env σ H) (q : wLc i wi wt we env Qe) (h1 : ∀ acc v H', Qe (.ok (.ow (.lst acc))) → C F ((.ow (.lst acc), some v) :: (l ++ env.zip σ)) H' → Q v H') (h2 : ∀ c fs, Qe (.ex c fs) → LIp F W l env σ (fun _ _ => True) (.ex c fs)) :
    tLc (LI F W wi) (gName i) tt te [i] σ H Q := by
  obtain ⟨hu, q⟩ := q
  have hun : env[i]? = some .un := by
    unfold unAt at hu
    split at hu
    · assumption
    · exact hu.elim
  refine ⟨l, env, k, hi.mono env _ _ (fun r z => ?_) q⟩
  cases r with
  | ex c fs => exact h2 c fs z
  | ok ds =>
    intro J gh H1 hgh its c1 Da hD
    have hne : ∀ q ∈ gh ++ (l ++ env.zip σ), ∀ d a, q = (Slot.bt d, some (V.ref a)) → a ≠ Da := fun q hq d a e z => by
      obtain ⟨S, g, cc, _⟩ := c1
      have s := cc q hq
      subst e z
      obtain ⟨b, eb, r⟩ := s
      cases eb
      exact r.nn hD
    have cacc : C F ((.ow (.lst []), some (.ref Da)) :: (gh ++ (l ++ env.zip σ))) (upd H1 Da (.lst [])) := c1.newOw hD fun S g a => ⟨[], rfl, .nil⟩
    refine ⟨fun j m H => m = ds.length - j ∧ j ≤ ds.length ∧ ∃ acc, C F ((.ow (.lst acc), some (.ref Da)) :: (gh ++ (l ++ env.zip σ))) H ∧ lcL i wt we (ds.drop j) env acc fun acc => Qe (.ok (.ow (.lst acc))), ⟨ds.length, by simp, Nat.zero_le _, [], cacc, by rw [List.drop_zero]; exact z⟩, ?_⟩
    rintro j m H2 ⟨rfl, hj, acc, c2, q2⟩
    by_cases hlt : j < ds.length
    · have e1 : ds[j]? = some ds[j] := List.getElem?_eq_getElem hlt
      have c2' : C F (gh ++ ((.ow (.lst acc), some (.ref Da)) :: (l ++ env.zip σ))) H2 := c2.back
      obtain ⟨go, yl⟩ := (its _ _ c2' j).1 _ e1
      have ed : ds.drop j = ds[j] :: ds.drop (j + 1) := List.drop_eq_getElem_cons hlt
      rw [ed] at q2
      refine .inr ⟨go, fun H' => ∃ acc, C F ((.ow (.lst acc), some (.ref Da)) :: (gh ++ (l ++ env.zip σ))) H' ∧ lcL i wt we (ds.drop (j + 1)) env acc fun acc => Qe (.ok (.ow (.lst acc))), fun H' ⟨acc', c', q'⟩ => ⟨ds.length - (j + 1), by omega, rfl, hlt, acc', c', q'⟩, fun y H' hy => ?_⟩
      have c3 := yl y H' hy
      -- the block's state
      have wipe1 : wipe σ [i] = σ.set i none := rfl
      have k0 : CE F ((.sh ds[j], some y) :: (.ow (.lst acc), some (.ref Da)) :: (gh ++ l)) env σ H' := ⟨k.len, k.ok, by
        have : C F ((.sh ds[j], some y) :: (.ow (.lst acc), some (.ref Da)) :: (gh ++ (l ++ env.zip σ))) H' := C.perm c3 (List.Perm.cons _ List.perm_middle)
        show C F ((.sh ds[j], some y) :: (.ow (.lst acc), some (.ref Da)) :: ((gh ++ l) ++ env.zip σ)) H'
        rw [List.append_assoc]; exact this⟩
      have hi2 : i < env.length := (List.getElem?_eq_some_iff.mp hun).1
      have k1 := k0.un i none
      rw [set_same hun] at k1
      have k2 : CE F ((.ow (.lst acc), some (.ref Da)) :: (gh ++ l)) (env.set i (.sh ds[j])) ((σ.set i none).set i (some y)) H' := C.setName (x := .sh ds[j]) k1.len k1.ok trivial hi2 k1.c
      -- back to the names ahead of it
      have back : ∀ {a : List Cell} {H5 : Hp}, C F (a ++ ((.ow (.lst acc), some (.ref Da)) :: (gh ++ l) ++ (env.set i (.sh ds[j])).zip ((σ.set i none).set i (some y)))) H5 → C F (a ++ ((.ow (.lst acc), some (.ref Da)) :: (gh ++ (l ++ env.zip σ)))) H5 := fun {a H5} c => by
        have : C F ((a ++ ((.ow (.lst acc), some (.ref Da)) :: (gh ++ l))) ++ env.zip σ) H5 := by
          refine C.revalue (l1 := (env.set i (.sh ds[j])).zip ((σ.set i none).set i (some y))) (by simp) (fun n p q e1 e2 => ?_) (by rw [List.append_assoc]; exact c)
          rw [List.set_set, zip_set, List.getElem?_set] at e1
          split at e1
          · subst_vars
            obtain ⟨v, e3, e4⟩ := zip_get k.len hun
            rw [e4] at e2
            cases e2
            exact .inr rfl
          · rw [e1] at e2; cases e2; exact .inl rfl
        rw [List.append_assoc] at this
        have e : ((Slot.ow (D.lst acc), some (V.ref Da)) :: (gh ++ l)) ++ env.zip σ = (Slot.ow (D.lst acc), some (V.ref Da)) :: (gh ++ (l ++ env.zip σ)) := by rw [List.cons_append, List.append_assoc]
        rw [e] at this
        exact this
      refine ⟨by rw [wipe1]; show (((σ.set i none).set i (some y)).set i none) = σ.set i none; rw [List.set_set, List.set_set], ?_⟩
      rw [wipe1]
      refine htt _ _ _ ⟨_, _, k2, mt _ _ _ (fun r z => ?_) q2⟩
      cases r with
      | ex c fs => exact z.elim
      | ok bx =>
        obtain ⟨b, eb, z⟩ := asB_inv (show asB _ bx from z)
        subst eb
        refine ⟨b, rfl, fun H4 c4 => ?_⟩
        cases b with
        | false =>
          rw [if_neg Bool.false_ne_true]
          exact ⟨acc, back (a := []) c4, z⟩
        | true =>
          rw [if_pos rfl]
          refine hte _ _ _ ⟨_, _, k2.at c4, me _ _ _ (fun r z => ?_) z⟩
          cases r with
          | ex c fs => exact z.elim
          | ok yv =>
            intro u H5 c5
            dsimp only [rk0] at z
            split at z
            · rename_i zd ez
              have c6 := c5.stab ez
              have c7 := back (a := [(.sh zd, some u)]) c6
              have c8 : C F ((.ow (.lst acc), some (.ref Da)) :: (.sh zd, some u) :: (gh ++ (l ++ env.zip σ))) H5 := C.swap c7
              obtain ⟨S, g, cc, pw⟩ := id c8
              have so := cc _ List.mem_cons_self
              obtain ⟨a0, ea, h0, hS, vs, ev, rr⟩ := so
              cases ea
              obtain ⟨u', eu, ru⟩ := cc (Slot.sh zd, some u) (by simp)
              cases eu
              refine ⟨vs, ev, by rw [rr.len, sizeLine_eq]; exact z.1, acc ++ [zd], ?_, z.2⟩
              obtain ⟨p1, p2⟩ := List.pairwise_cons.mp pw
              refine ⟨S, ⟨g.s0, fun b w e => ?_, fun b w e => ?_, g.fr⟩, fun q hq => ?_, List.pairwise_cons.mpr ⟨fun q hq _ => p1 q (List.mem_cons_of_mem _ hq) trivial, (List.pairwise_cons.mp p2).2⟩⟩
              · rw [upd_ne (ne_of_none e hS)]; exact g.sh b w e
              · rw [upd_ne (ne_of_none e h0)]; exact g.h0 b w e
              · rcases List.mem_cons.mp hq with rfl | hq
                · exact ⟨Da, rfl, h0, hS, by rw [upd_same]; exact ⟨_, rfl, rr.app (.cons ru .nil)⟩⟩
                · have s := cc q (List.mem_cons_of_mem _ (List.mem_cons_of_mem _ hq))
                  have ap := p1 q (List.mem_cons_of_mem _ hq)
                  have nb := hne q hq
                  obtain ⟨x, w⟩ := q
                  cases x with
                  | un => trivial
                  | sh d2 => exact s
                  | ow d2 =>
                    obtain ⟨a2, e2, h2, hS2, r2⟩ := s
                    have ne : a2 ≠ Da := fun z => by
                      subst z
                      exact ap trivial trivial e2.symm
                    exact ⟨a2, e2, h2, hS2, by rw [upd_ne ne]; exact r2⟩
                  | bo d2 =>
                    obtain ⟨a2, e2, h2, r2⟩ := s
                    have ne : a2 ≠ Da := fun z => by
                      subst z
                      exact h2 h0
                    exact ⟨a2, e2, h2, by rw [upd_ne ne]; exact r2⟩
                  | bt d2 =>
                    obtain ⟨a2, e2, r2⟩ := s
                    have ne : a2 ≠ Da := nb d2 a2 (by rw [e2])
                    exact ⟨a2, e2, by rw [upd_ne ne]; exact r2⟩
            · exact z.elim
    · have e : j = ds.length := by omega
      subst e
      rw [List.drop_length] at q2
      have c2' : C F (gh ++ ((.ow (.lst acc), some (.ref Da)) :: (l ++ env.zip σ))) H2 := c2.back
      exact .inl ⟨(its _ _ c2' _).2 (Nat.le_refl _), h1 acc _ H2 q2 (c2'.right)⟩
theorem de_lc (i : Nat) {iter elt : Expr} {scope : Scope} {x : Str} {px : Pos} {ifs : List Expr} {tt : TT} (hc : X.calm = true) (hN : X.N.Nodup) (hi : DI X F W (.Name x px) iter wi) (ok : BlkOk X.N X.env.scope scope [(x, i)])
    (hg : ∀ (s : Shared) (H : Hp) (C : Addr) (cl : List (Str × Addr)) (fp : List Addr), PG (X.blk s H scope (compEnvC scope cl C X.env) fp) (.Name x px) (gName i)) (ht : ∀ (s : Shared) (H : Hp) (C : Addr) (cl : List (Str × Addr)) (fp : List Addr), PTs (X.blk s H scope (compEnvC scope cl C X.env) fp) ifs tt)
    (htt : ∀ σ H Q, LT F W0 wt σ H Q → tt σ H Q) (mt : Mono wt) (he : ∀ (s : Shared) (H : Hp) (C : Addr) (cl : List (Str × Addr)) (fp : List Addr), DE (X.blk s H scope (compEnvC scope cl C X.env) fp) F W0 elt we) (me : Mono we) (hs : ∀ x, foldedSetIterable iter X.env x = pure x := by intro _; rfl) :
    DE X F W (.ListComp elt [⟨.Name x px, iter, ifs, 0⟩] scope pos) (wLc i wi wt we) :=
  ⟨pe_imp (pe_lc (own := [(x, i)]) hc hN hi.run ok hg ht (fun s H C cl fp => (he s H C cl fp).run) hs) fun σ H Q ⟨l, env, k, q⟩ => lc_core' hi mt me htt (fun _ _ _ z => z) k q (fun acc v H' z c => z v H' c) (fun c fs z => z), mono_lc hi.mono mt me⟩
theorem tt_yes : ∀ σ H Q, LT F W0 (wBl true) σ H Q → tYes σ H Q := fun σ H Q ⟨l, env, k, q⟩ => by
  obtain ⟨b, e, z⟩ := q
  cases e
  exact z H k.c
theorem ds_setLc (j : Nat) (i : Nat) {iter elt : Expr} {scope : Scope} {x y : Str} {px py spos : Pos} {ifs : List Expr} {tt : TT} (hc : X.calm = true) (hN : X.N.Nodup) (hy : X.N[j]? = some y) (hyl : X.env.scope.names.lookup y = some .local)
    (hsw : swapsWith (.ListComp elt [⟨.Name x px, iter, ifs, 0⟩] scope pos) (some (.Name y py)) spos.line X.env = pure true) (hi : DI X F W (.Name x px) iter wi) (ok : BlkOk X.N X.env.scope scope [(x, i)])
    (hg : ∀ (s : Shared) (H : Hp) (C : Addr) (cl : List (Str × Addr)) (fp : List Addr), PG (X.blk s H scope (compEnvC scope cl C X.env) fp) (.Name x px) (gName i)) (ht : ∀ (s : Shared) (H : Hp) (C : Addr) (cl : List (Str × Addr)) (fp : List Addr), PTs (X.blk s H scope (compEnvC scope cl C X.env) fp) ifs tt)
    (htt : ∀ σ H Q, LT F W0 wt σ H Q → tt σ H Q) (mt : Mono wt) (he : ∀ (s : Shared) (H : Hp) (C : Addr) (cl : List (Str × Addr)) (fp : List Addr), DE (X.blk s H scope (compEnvC scope cl C X.env) fp) F W0 elt we) (me : Mono we) (hs : ∀ x, foldedSetIterable iter X.env x = pure x := by intro _; rfl) :
    DS X F W (.Assign [.Name y py] (.ListComp elt [⟨.Name x px, iter, ifs, 0⟩] scope pos) spos) (wAsg (gN j) (wLc i wi wt we)) := by
  refine ⟨ps_imp (ps_setLc (own := [(x, i)]) hc hN hy hyl hsw hi.run ok hg ht (fun s H C cl fp => (he s H C cl fp).run) hs) fun D σ H ⟨l, env, k, hl, q⟩ => ?_, mono_asg (fun x env k k' m h => ?_) (mono_lc hi.mono mt me)⟩
  · have q : wLc i wi wt we env (rks _ _ env) := q
    show tLc (LI F W wi) (gName i) tt (LE F W0 we) [i] σ H (fun x H1 => gName j x σ H1 D.nx)
    refine lc_core' (Qe := rks (fun x => gN j x env fun env' => LSp F W l D (.nx env')) (LSp F W l D) env) hi mt me htt (fun _ _ _ z => z) k q (fun acc v H' z c => ?_) (fun c fs z => fun A d H' hA hx c2 => z A d σ H' hA hx (k.at c2))
    have z : gN j (.ow (.lst acc)) env (fun env' => LSp F W l D (.nx env')) := z
    exact z.2 _ _ (C.setName k.len k.ok trivial z.1 c)
  · unfold gN at h ⊢
    split at h
    · exact ⟨h.1, m _ h.2⟩
    · exact ⟨h.1, m _ h.2⟩
    · exact h.elim

/-! ### raise X('..') -/
def wRaise (c : Str) : WS := fun env Q => Q (.ex c [] env)
theorem ds_raise {c : Str} {A : Addr} (gC : F.mg c = some (.ref A)) (h : PS X st (fun _ σ H => W (.ref A) none σ H)) : DS X F W st (wRaise c) :=
  ⟨ps_imp h fun D σ H ⟨l, env, k, hl, q⟩ => q A none σ H gC (.inl ⟨rfl, rfl⟩) k, fun _ _ _ m h => m _ h⟩
end

/-! ### a def's body -/
def fin (Q : R Slot → Prop) : O → Prop
  | .ret (.sh d) => Q (.ok (.sh d))
  | .ret (.ow d) => Q (.ok (.ow d))
  | .nx _ => Q (.ok (.sh .non))
  | .ex c fs _ => Q (.ex c fs)
  | _ => False
/-- a def by its body: n names -/
def gOf (n : Nat) (w : WS) : G := fun xs Q => w (xs ++ List.replicate (n - xs.length) .un) (fin Q)
theorem fin_mono {Q Q' : R Slot → Prop} (m : ∀ r, Q r → Q' r) : ∀ o, fin Q o → fin Q' o
  | .ret (.sh _), h => m _ h
  | .ret (.ow _), h => m _ h
  | .ret .un, h => h
  | .ret (.bo _), h => h
  | .ret (.bt _), h => h
  | .nx _, h => m _ h
  | .bk _, h => h
  | .ct _, h => h
  | .ex _ _ _, h => m _ h
theorem gOf_mono {n : Nat} {w : WS} (m : SMono w) : GMono (gOf n w) := fun xs Q Q' mm h => m _ _ _ (fin_mono mm) h
theorem zip_app {α β : Type} : ∀ {xs : List α} {us : List β} (ys : List α) (vs : List β), xs.length = us.length → (xs ++ ys).zip (us ++ vs) = xs.zip us ++ ys.zip vs
  | [], [], _, _, _ => rfl
  | x :: xs, u :: us, ys, vs, h => by
    show (x, u) :: (xs ++ ys).zip (us ++ vs) = (x, u) :: (xs.zip us ++ ys.zip vs)
    rw [zip_app ys vs (by simpa using h)]
  | [], _ :: _, _, _, h => by simp at h
  | _ :: _, [], _, _, h => by simp at h
section
variable {P : Program} {w : World} {K : PySem.W.Frag} {mg : Str → Option Value} {base : Heap}
theorem C.unsR {F : Fr} {H : Hp} (n : Nat) : ∀ {m : Nat} {l : List Cell}, C F l H → C F (l ++ (List.replicate m (Slot.un)).zip (List.replicate m (none : Option V))) H
  | 0, l, h => by simpa using h
  | m + 1, l, h => by
    have : C F (l ++ ((Slot.un, (none : Option V)) :: (List.replicate m (Slot.un)).zip (List.replicate m (none : Option V)))) H := C.back ((C.unsR n (m := m) h).un none)
    rw [List.replicate_succ, List.replicate_succ]
    exact this
theorem fn_ok {x qual : Str} {st : Stmt} {f : Addr} {fd : FuncData} {N ps : List Str} {k : Nat} (Fn : Fun K x qual st f fd) (S : FnScope N ps (defScope st)) (hNP : ps.length ≤ N.length) {ws : WS}
    (hb : ∀ (cdv : Value) (A : Around) (outer : List PySem.Env) (s : Shared) (H S0 : Hp) (E : XK), Room k (A.deeper (envOfC qual (defScope st) s.heap.objs.size f cdv)) →
      DSs (cxOf (L2.CX P w) P w K mg base N qual (defScope st) f cdv A outer s H E) ⟨K, mg, H, S0⟩ (fun c d _ H' => E c d H') (defBody st) ws) :
    FnOk P w K mg base (L2.CX P w) (k + 1) f fd ps (spG K mg ps.length (gOf N.length ws)) := by
  refine Fn.okX S (fun vs H Q E h => h.1) (fun cdv A outer s H vs Q E hr h => ?_)
  obtain ⟨hl, xs, S0, hx, hst, c, h⟩ := h
  have h : ws (xs ++ List.replicate (N.length - xs.length) .un) (fin (CallP ⟨K, mg, H, S0⟩ Q E)) := h
  refine ⟨_, (hb cdv A outer s H S0 E hr).run, [], xs ++ List.replicate (N.length - xs.length) .un, ⟨?_, ?_, ?_⟩, fun p hp => by simp at hp, (hb cdv A outer s H S0 E hr).mono _ _ _ (fun o z => ?_) h⟩
  · unfold L2.start; simp [hx]
  · intro y hy
    rcases List.mem_append.mp hy with hy | hy
    · rcases hst y hy with z | z
      · exact still_env z
      · rw [z]; trivial
    · rw [(List.mem_replicate.mp hy).2]; trivial
  · unfold L2.start
    rw [zip_app _ _ (by simp [hx]), hx]
    exact C.unsR 0 c
  · cases o with
    | ret y =>
      cases y with
      | sh d => exact z
      | ow d => exact z
      | un => exact z.elim
      | bo d => exact z.elim
      | bt d => exact z.elim
    | nx e => exact fun σ' H' k' => z .non H' (C.non (k'.c.sub (List.nil_sublist _)))
    | bk e => exact z.elim
    | ct e => exact z.elim
    | ex cn fs e => exact fun A d σ' H' hA hx k' => z A d H' hA hx (k'.c.sub (List.nil_sublist _))
/-- the law's own promise, from its word over values -/
theorem law_sp {γ : G} (hγ : ∀ ns : List Int, ns.length ≤ 63 → γ [.sh (.lst (ns.map D.int))] fun r => r = .ok (.sh (.bl true))) (m : GMono γ) {H : Hp} {a : Addr} {ns : List Int} (hn : ns.length ≤ 63) (hS : SqL K H a (ns.map V.int)) :
    spG K mg 1 γ [.ref a] H (fun v _ => v = .bl true) fun _ _ _ => False := by
  refine ⟨rfl, [.sh (.lst (ns.map D.int))], H, rfl, fun x hx => ?_, ?_, m _ _ _ (fun r z => ?_) (hγ ns hn)⟩
  · have e : x = .sh (.lst (ns.map D.int)) := by simpa using hx
    subst e; exact .inl trivial
  · refine ⟨H, ⟨Same.refl H, Same.refl H, Same.refl H, fun a z => .inl z⟩, fun p hp => ?_, by simp [List.zip]⟩
    have e : p = (Slot.sh (.lst (ns.map D.int)), some (V.ref a)) := by simpa using hp
    subst e
    exact ⟨_, rfl, .lst hS (Reps.ofInts ns)⟩
  · subst z
    intro v H' c
    have e := c.shBl
    cases e
    rfl
theorem noCX {H : Hp} {s : Shared} {e : Value} {s' : Shared} (h : L2.CX P w [] H s (fun _ _ _ => False) e s') : False := by
  obtain ⟨_, _, _, _, _, _, _, _, _, _, _, _, z⟩ := h
  exact z.elim
theorem room65 {k : Nat} {A : Around} (r : Room k A) : A.units + 65 < cLine := by have := r.un; omega
end
end DL

set_option Elab.async false
set_option linter.all false
set_option maxRecDepth 100000
set_option maxHeartbeats 4000000
/-! DL, part 9: each word is monotone; where a def stands -/
namespace DL
open PySem PySem.Spec PyProof.Rows L2
section
variable {we we2 wc wt : WE} {wA : WA} {wi : WI} {wl wh : WO} {g : WG} {w w1 w2 : WS}
theorem m_var (i : Nat) : Mono (wVar i) := fun env Q Q' m h => by
  unfold wVar at h ⊢
  split at h
  · exact m _ h
  · exact m _ h
  · exact m _ h
  · exact h.elim
theorem m_int {i : Int} : Mono (wInt i) := fun _ _ _ m h => m _ h
theorem m_bl {i : Bool} : Mono (wBl i) := fun _ _ _ m h => m _ h
theorem m_str {i : Str} : Mono (wStr i) := fun _ _ _ m h => m _ h
theorem m_non : Mono wNon := fun _ _ _ m h => m _ h
theorem oNeg_mono : O1Mono oNeg := fun x k k' m h => by
  unfold oNeg at h ⊢
  split at h
  · exact m _ h
  · exact h.elim
theorem oSum_mono : O1Mono oSum := fun x k k' m h => by
  unfold oSum at h ⊢
  split at h
  · obtain ⟨ns, e1, e2⟩ := h; exact ⟨ns, e1, m _ e2⟩
  · exact h.elim
theorem oDict_mono : O1Mono oDict := fun x k k' m h => by
  unfold oDict at h ⊢
  split at h
  · exact m _ h
  · exact h.elim
theorem oIsi_mono {T : String} : O1Mono (oIsi T) := fun x k k' m h => by
  unfold oIsi at h ⊢
  split at h
  · exact m _ h
  · exact h.elim
theorem m_ite (hc : Mono wc) (ha : Mono we) (hb : Mono we2) : Mono (wIte wc we we2) := fun env Q Q' m h => mono_rk hc (fun x hx => asB_mono (fun b q => match b, q with
  | true, q => ha env _ _ m q
  | false, q => hb env _ _ m q) hx) m h
theorem m_nil : Mono aNil := fun _ _ _ m h => m _ h
theorem m_cons (h1 : Mono we) (h2 : Mono wA) : Mono (aCons we wA) := fun env Q Q' m q => mono_rk h1 (fun x hx => mono_rk h2 (fun xs hxs => m _ hxs) m hx) m q
theorem m_tup (h : Mono wA) : Mono (wTup wA) := fun env Q Q' m q => mono_rk h (fun xs hx => by
  split at hx
  · exact ⟨hx.1, m _ hx.2⟩
  · exact hx.elim) m q
theorem m_lst (h : Mono wA) : Mono (wLst wA) := fun env Q Q' m q => mono_rk h (fun xs hx => by
  split at hx
  · exact ⟨hx.1, m _ hx.2⟩
  · exact hx.elim) m q
theorem m_call {γ : G} (mg : GMono γ) (h : Mono wA) : Mono (wCall γ wA) := fun env Q Q' mm q => mono_rk h (fun xs hx => mg _ _ _ (outK_mono mm) hx) mm q
theorem m_nop : Mono wNoP := fun _ _ _ m h => m _ h
theorem m_part (h : Mono we) : Mono (wPart we) := fun env Q Q' m q => mono_rk h (fun x hx => by
  split at hx
  · exact m _ hx
  · exact hx.elim) m q
theorem m_slice (h : Mono we) (h1 : Mono wl) (h2 : Mono wh) : Mono (wSlice we wl wh) := fun env Q Q' m q => mono_rk h (fun x hx => mono_rk h1 (fun lo hlo => mono_rk h2 (fun hi hhi => sliceOf_mono (fun z hz => m _ hz) hhi) m hlo) m hx) m q
theorem m_iter (h : Mono we) : Mono (wIter we) := fun env Q Q' m q => mono_rk h (fun x hx => stillK_mono (fun ds z => m _ z) hx) m q
theorem m_rng1 (h : Mono wA) : Mono (wRng1 wA) := fun env Q Q' m q => mono_rk h (fun x hx => ints1_mono (fun j z => ⟨z.1, m _ z.2⟩) hx) m q
theorem m_rng2 (h : Mono wA) : Mono (wRng2 wA) := fun env Q Q' m q => mono_rk h (fun x hx => ints2_mono (fun i j z => ⟨z.1, m _ z.2⟩) hx) m q
theorem m_enum (h : Mono wA) : Mono (wEnum wA) := fun env Q Q' m q => mono_rk h (fun x hx => lst1_mono (fun j z => m _ z) hx) m q
theorem g_name {i : Nat} : GtMono (gN i) := fun x env k k' m h => by
  unfold gN at h ⊢
  split at h
  · exact ⟨h.1, m _ h.2⟩
  · exact ⟨h.1, m _ h.2⟩
  · exact h.elim
theorem g_tup {is : List Nat} : GtMono (gT is) := fun x env k k' m h => by
  unfold gT at h ⊢
  split at h
  · exact wSets_mono m h
  · exact wSets_mono m h
  · exact h.elim
theorem m_next : SMono wNext := fun _ _ _ m h => m _ h
theorem m_brk : SMono wBrk := fun _ _ _ m h => m _ h
theorem m_cnt : SMono wCnt := fun _ _ _ m h => m _ h
theorem m_if (hc : Mono wc) (h1 : SMono w1) (h2 : SMono w2) : SMono (wIf wc w1 w2) := fun env Q Q' m h => mono_rks hc (fun x hx => asB_mono (fun b z => match b, z with
    | true, z => h1 env _ _ m z
    | false, z => h2 env _ _ m z) hx) m h
theorem m_ret (h : Mono we) : SMono (wRet we) := fun env Q Q' m q => mono_rks h (fun x z => m _ z) m q
theorem m_retN : SMono wRetN := fun _ _ _ m h => m _ h
theorem m_retV {i : Nat} : SMono (wRetV i) := fun env Q Q' m h => by
  unfold wRetV at h ⊢
  split at h
  · exact m _ h
  · exact m _ h
  · exact h.elim
theorem m_drop (h : Mono we) : SMono (wDrop we) := fun env Q Q' m q => mono_rks h (fun x z => m _ z) m q
theorem m_aug {i : Nat} {f : Int → Int → Int} (h : Mono we) : SMono (wAug i f we) := fun env Q Q' m q => by
  unfold wAug at q ⊢
  split at q
  · exact mono_rks h (fun x z => by
      split at z
      · exact m _ z
      · exact z.elim) m q
  · exact q.elim
theorem m_for (hg : GtMono g) (hi : Mono wi) (hb : SMono w) : SMono (wFor g wi w) := fun env Q Q' m h => mono_rks hi (fun ds z => mono_loop hg hb ds env Q Q' m z) m h
theorem m_while (hc : Mono wc) (hb : SMono w) : SMono (wWhile wc w) := fun env Q Q' m ⟨n, h⟩ => ⟨n, mono_wh hc hb n env Q Q' m h⟩
theorem m_app {i : Nat} (h : Mono we) : SMono (wApp i we) := fun env Q Q' m q => by
  unfold wApp at q ⊢
  split at q
  · exact mono_rks h (fun y hy => by
      split at hy
      · exact ⟨hy.1, m _ hy.2⟩
      · exact hy.elim) m q
  · exact q.elim
theorem m_set {i : Nat} (h1 : Mono we) (h2 : Mono we2) : SMono (wSet i we we2) := fun env Q Q' m h => by
  unfold wSet at h ⊢
  split at h
  · refine mono_rks h2 (fun y hy => ?_) m h
    split at hy
    · refine mono_rks h1 (fun z hz => ?_) m hy
      split at hz
      · exact setOf_mono (fun c z => m _ z) hz
      · exact hz.elim
    · exact hy.elim
  · exact h.elim
theorem m_frz {i : Nat} (h : SMono w) : SMono (wFrz i w) := fun env Q Q' m q => by
  unfold wFrz at q ⊢
  split at q
  · exact h _ _ _ m q
  · exact q.elim
theorem m_fgt {i : Nat} (h : SMono w) : SMono (wFgt i w) := fun env Q Q' m q => h _ _ _ m q
theorem m_raise {c : Str} : SMono (wRaise c) := fun _ _ _ m h => m _ h
end
/-! ### defs by their names -/
def DefAt (K : PySem.W.Frag) (mg : Str → Option Value) (x : Str) (st : Stmt) (ps : List Str) : Prop := ∃ f fd, Fun K x x st f fd ∧ mg x = some (.ref f) ∧ ∀ (s : Shared) (us : List Value), us.length = ps.length → BindsTo s fd ⟨us, []⟩ (ps.zip us)
def FnAt (P : Program) (w : World) (K : PySem.W.Frag) (mg : Str → Option Value) (base : Heap) (x : Str) (k n : Nat) (γ : G) : Prop :=
  (∃ f fd ps, FnOk P w K mg base (L2.CX P w) k f fd ps (spG K mg n γ) ∧ mg x = some (.ref f) ∧ PySem.W.keepIn K (.ref f) = true ∧ Binds K fd ps []) ∧ GMono γ
section
variable {P : Program} {w : World} {K : PySem.W.Frag} {mg : Str → Option Value} {base : Heap}
theorem fn_at {x : Str} {st : Stmt} {N ps : List Str} {k n : Nat} {ws : WS} (T : DefAt K mg x st ps) (S : FnScope N ps (defScope st)) (hNP : ps.length ≤ N.length) (hm : SMono ws) (hn : ps.length = n)
    (hb : ∀ (f : Addr) (cdv : Value) (A : Around) (outer : List PySem.Env) (s : Shared) (H S0 : Hp) (E : XK), Room k (A.deeper (envOfC x (defScope st) s.heap.objs.size f cdv)) →
      DSs (cxOf (L2.CX P w) P w K mg base N x (defScope st) f cdv A outer s H E) ⟨K, mg, H, S0⟩ (fun c d _ H' => E c d H') (defBody st) ws) :
    FnAt P w K mg base x (k + 1) n (gOf N.length ws) := by
  obtain ⟨f, fd, Fn, hx, bd⟩ := T
  subst hn
  exact ⟨⟨f, fd, ps, fn_ok Fn S hNP (fun cdv A outer s H S0 E hr => hb f cdv A outer s H S0 E hr), hx, Fn.kp, fun s us _ hl => by rw [List.append_nil] at hl ⊢; exact bd s us hl⟩, gOf_mono hm⟩
end
section
variable {X : Cx} {F : Fr} {W : WX} {e : Expr} {es : List Expr} {wA : WA} {pos p : Pos}
theorem de_own {k j n : Nat} {γ : G} {x : Str} (A : FnAt X.prog X.w F.K F.mg X.base x k n γ) (hr : Room j X.A) (hj : k ≤ j) (tk : Takes X W) (ha : DA X F W (e :: es) wA) (hnA : ∀ env Q, wA env Q → wA env fun r => Q r ∧ ∀ xs, r = .ok xs → xs.length = n) (hn : (e :: es).length = n)
    (hg : Gl X x := by rfl) (hdb : (x == ("__debug__" : Str)) = false := by decide) (he : starEach (e :: es) X.env = (false, eval e X.env) :: starEach es X.env := by rfl) (hpl : (backTo pos (starEach es X.env)).any (·.1) = false := by rfl) (hK : X.K = F.K := by rfl) (hM : X.mg = F.mg := by rfl) :
    DE X F W (.Call (.Name x p) (e :: es) [] pos) (wCall γ wA) := by
  obtain ⟨⟨f, fd, ps, Fk, hm, hk, hb⟩, m⟩ := A
  refine de_call m (by rw [hK, hM]; exact Fk) (hr.mono hj) (by rw [hM]; exact hm) (by rw [hK]; exact hk) (by rw [hK]; exact hb) tk hn ha hnA hg hdb he hpl
end
/-! ### where the defs stand; the law -/
theorem def_at {K : PySem.W.Frag} {h : Heap} {mg : Str → Option Value} {x : Str} {st : Stmt} {ps : List Str} {f : Addr} {oc : Value} {od an : Option Addr} {osl : Array (Option Value)} {kV doc pm cdv ct : Value} (X : K.In h) (G : h.Ns mainGlobals mg)
    (a : PySem.W.nsIn K mainGlobals x = some (some (.ref f))) (l : K.lookup f = some ⟨oc, od, .func (PySem.W.fnOf x x (defArgs st) (defBody st) (defScope st) .none kV doc pm an cdv ct), osl⟩) (c : PySem.W.codeIn K cdv x = true) (k : PySem.W.keepIn K (.ref f) = true)
    (hb : ∀ us : List Value, us.length = ps.length → bindArgs (PySem.W.fnOf x x (defArgs st) (defBody st) (defScope st) .none kV doc pm an cdv ct) ⟨us, []⟩ = pure (ps.zip us)) : DefAt K mg x st ps :=
  ⟨f, _, fun_mk l c k, PySem.W.mg_of X G a, fun s us hl => .of_eq (hb us hl)⟩
def spLaw (K : PySem.W.Frag) : Sp := fun vs H Q _ => ∃ (a : Addr) (ns : List Int), vs = [.ref a] ∧ SqL K H a (ns.map V.int) ∧ ns.length ≤ 63 ∧ ∀ H', Q (.bl true) H'
theorem law_at {P : Program} {w : World} {K : PySem.W.Frag} {mg : Str → Option Value} {st : Stmt} {N : List Str} {x : Str} {k : Nat} {ws : WS} {fa : Addr} (T : DefAt K mg "law" st [x]) (S : FnScope N [x] (defScope st)) (hNP : 1 ≤ N.length) (hm : SMono ws) (hfa : mg "law" = some (.ref fa))
    (hγ : ∀ ns : List Int, ns.length ≤ 63 → gOf N.length ws [.sh (.lst (ns.map D.int))] fun r => r = .ok (.sh (.bl true)))
    (hb : ∀ (base : Heap), K.In base → base.Ns mainGlobals mg → ∀ (f : Addr) (cdv : Value) (A : Around) (outer : List PySem.Env) (s : Shared) (H S0 : Hp) (E : XK), Room k (A.deeper (envOfC "law" (defScope st) s.heap.objs.size f cdv)) →
      DSs (cxOf (L2.CX P w) P w K mg base N "law" (defScope st) f cdv A outer s H E) ⟨K, mg, H, S0⟩ (fun c d _ H' => E c d H') (defBody st) ws) :
    ∃ fd : FuncData, (∀ (s : Shared) (v : Value), BindsTo s fd ⟨[v], []⟩ [(x, v)]) ∧ ∀ base : Heap, K.In base → base.Ns mainGlobals mg → FnOk P w K mg base (L2.CX P w) (k + 1) fa fd [x] (spLaw K) := by
  obtain ⟨f, fd, Fn, hx, bd⟩ := T
  rw [hfa] at hx
  cases hx
  refine ⟨fd, fun s v => bd s [v] rfl, fun base h1 h2 => ?_⟩
  refine (fn_ok Fn S hNP (fun cdv A outer s H S0 E hr => hb base h1 h2 fa cdv A outer s H S0 E hr)).imp fun vs H Q E ⟨a, ns, ev, hS, hn, hq⟩ => ?_
  subst ev
  have h := law_sp (K := K) (mg := mg) (H := H) (a := a) hγ (gOf_mono hm) hn hS
  obtain ⟨hl, xs, S, h1, h2, h3, h4⟩ := h
  have fin : ∀ (v : V) (H' : Hp), v = .bl true → Q v H' := fun v H' e => (e ▸ hq H')
  refine ⟨hl, xs, S, h1, h2, h3, gOf_mono hm _ _ _ (fun r z => ?_) h4⟩
  cases r with
  | ex c fs => exact fun A d H' hA hx hc => (z A d H' hA hx hc).elim
  | ok y =>
    cases y with
    | sh d => exact fun v H' c => fin v H' (z v H' c)
    | ow d => exact fun v H' c => fin v H' (z v H' c)
    | un => exact z
    | bo d => exact z
    | bt d => exact z
end DL

set_option Elab.async false
set_option linter.all false
set_option maxRecDepth 100000
set_option maxHeartbeats 4000000
/-! DL, part 10: further words -/
namespace DL
open PySem PySem.Spec PyProof.Rows L2
section
variable {X : Cx} {F : Fr} {W : WX} {a b c e o : Expr} {es : List Expr} {is : List Nat} {st : Stmt} {wa wb wc we : WE} {wA : WA} {w : WS} {wi : WI} {pos p apos cpos : Pos} {x : Str}
theorem nac {i : Nat} (r : NamesAt X es is) (hi : X.N[i]? = some x := by rfl) (hx : Loc X.env.scope x := by first | exact Or.inl rfl | exact Or.inr rfl) (hf : X.fn x = true ∨ X.env.scope.names.lookup x = some .local := by first | exact .inl rfl | exact .inr rfl) : NamesAt X (.Name x p :: es) (i :: is) := .cons hi hx hf r

/-! ### truth of a value -/
def truOf : D → Option Bool
  | .non => some false
  | .bl b => some b
  | .int i => some (i != 0)
  | .str s => if s.length ≤ 16777216 then some ((s.length : Int) != 0) else none
  | .lst ds => some (!ds.isEmpty)
  | .tup ds => some (!ds.isEmpty)
  | _ => none
def wTru (we : WE) : WE := fun env Q => we env (rk (fun x => match x.dat with
  | some d => (match truOf d with | some b => Q (.ok (.sh (.bl b))) | none => False)
  | none => False) Q)
theorem m_tru (h : Mono we) : Mono (wTru we) := fun env Q Q' m q => mono_rk h (fun x hx => by
  split at hx
  · split at hx
    · exact m _ hx
    · exact hx.elim
  · exact hx.elim) m q
theorem C.tru {l : List Cell} {H : Hp} {y : Slot} {v : V} {d : D} {k : Bool} (h : C F ((y, some v) :: l) H) (hy : y.dat = some d) (ht : truOf d = some k) : TruV F.K v H k := by
  cases d with
  | lst ds =>
    obtain ⟨a, vs, ea, hl, hlen, _⟩ := h.seqL hy
    cases ea
    cases ht
    refine .inl ⟨vs, hl, ?_⟩
    cases vs <;> cases ds <;> first | rfl | simp at hlen
  | tup ds =>
    obtain ⟨a, vs, ea, hl, hlen, _⟩ := h.seqT hy
    cases ea
    cases ht
    refine .inr (.inl ⟨vs, hl, ?_⟩)
    cases vs <;> cases ds <;> first | rfl | simp at hlen
  | non => obtain ⟨S, r⟩ := h.repOf hy fun _ _ _ z => z; cases r; cases ht; rfl
  | bl b => obtain ⟨S, r⟩ := h.repOf hy fun _ _ _ z => z; cases r; cases ht; rfl
  | int i => obtain ⟨S, r⟩ := h.repOf hy fun _ _ _ z => z; cases r; cases ht; rfl
  | str s =>
    obtain ⟨S, r⟩ := h.repOf hy fun _ _ _ z => z
    cases r
    by_cases hs : s.length ≤ 16777216
    · have e : truOf (.str s) = some ((s.length : Int) != 0) := if_pos hs
      rw [e] at ht
      cases ht
      exact ⟨by rw [sizeLine_eq]; exact hs, rfl⟩
    · have e : truOf (.str s) = none := if_neg hs
      rw [e] at ht
      cases ht
  | dk _ => cases ht
  | dt _ => cases ht
theorem dt_tru (h : DE X F W e we) (he : ∀ whole, isTrue e X.env whole = (do let v ← whole; standAt e.pos; holding [v] (truthy v)) := by intro _; rfl) (hK : X.K = F.K := by rfl) : DT X F W e (wTru we) := by
  refine ⟨pt_imp (pt_truth h.run he) fun σ H Q ⟨l, env, k, q⟩ => ⟨l, env, k, h.mono env _ _ (fun r z => ?_) q⟩, m_tru h.mono⟩
  cases r with
  | ex c fs => exact z
  | ok y =>
    intro v H' c
    dsimp only [rk] at z
    split at z
    · rename_i d hd
      split at z
      · rename_i b hb
        obtain ⟨b', e, z⟩ := z
        cases e
        exact ⟨b, by rw [hK]; exact c.tru hd hb, z H' c.tail⟩
      · exact z.elim
    · exact z.elim

/-! ### a < b < c -/
def wChain (o1 o2 : O2) (wa wb wc : WE) : WE := fun env Q => wa env (rk (fun x => wb env (rk (fun y => o1 x y (asB fun k => match k with
  | true => wc env (rk (fun z => o2 y z fun z => Q (.ok z)) Q)
  | false => Q (.ok (.sh (.bl false))))) Q)) Q)
theorem m_chain {o1 o2 : O2} (h1 : OMono o1) (h2 : OMono o2) (ha : Mono wa) (hb : Mono wb) (hc : Mono wc) : Mono (wChain o1 o2 wa wb wc) := fun env Q Q' m q => mono_rk ha (fun x hx => mono_rk hb (fun y hy => h1 _ _ _ _ (fun z hz => asB_mono (fun k hk => match k, hk with
  | true, hk => mono_rk hc (fun z hz => h2 _ _ _ _ (fun z hz => m _ hz) hz) m hk
  | false, hk => m _ hk) hz) hy) m hx) m q
/-- an operator that leaves its operands as they are -/
def SndOpK (F : Fr) (r : R2) (o : O2) : Prop := ∀ (l : List Cell) (H : Hp) (x y : Slot) (vx vy : V) (ks : Slot → Prop) (Q : VK),
  C F ((y, some vy) :: (x, some vx) :: l) H → o x y ks → (∀ z v, ks z → C F ((z, some v) :: (y, some vy) :: (x, some vx) :: l) H → Q v H) → r vx vy H Q
theorem oI0_blK {g : Int → Int → Bool} : SndOpK F (rI0 fun i j => .bl (g i j)) (oI0 fun i j => .bl (g i j)) := fun l H x y vx vy ks Q hc ho hq => by
  unfold oI0 at ho
  split at ho
  · rename_i i j
    have e1 := hc.shInt
    have e2 := hc.tail.shInt
    cases e1; cases e2
    exact ⟨i, j, rfl, rfl, hq _ _ ho (hc.bl _)⟩
  · exact ho.elim
theorem de_chain {op op' : CmpOp} {r r' : R2} {o1 o2 : O2} (ho : OpR X (compareOp op) r) (ho' : OpR X (compareOp op') r') (s1 : SndOpK F r o1) (s2 : SndOp F r' o2) (m1 : OMono o1) (m2 : OMono o2) (ha : DE X F W a wa) (hb : DE X F W b wb) (hc : DE X F W c wc)
    (hm : lastMarks [op, op'] [b, c] = false := by with_unfolding_all rfl) : DE X F W (.Compare a [op, op'] [b, c] pos) (wChain o1 o2 wa wb wc) := by
  refine ⟨pe_imp (pe_chain ho ho' ha.run hb.run hc.run hm) fun σ H Q ⟨l, env, k, q⟩ => ⟨l, env, k, lep_mono ha.mono q (fun x hx v H1 c1 => ?_) fun c fs q => q⟩, m_chain m1 m2 ha.mono hb.mono hc.mono⟩
  refine ⟨(x, some v) :: l, env, k.to1 c1, lep_mono hb.mono hx (fun y hy u H2 c2 => ?_) fun c fs q => fun A d H' hA hx c3 => q A d H' hA hx c3.tail⟩
  refine s1 _ H2 x y v u _ _ c2 hy fun z vz hz cz => ?_
  obtain ⟨kb, ek, hk⟩ := asB_inv hz
  subst ek
  have ez := cz.shBl
  cases ez
  refine ⟨kb, rfl, ?_⟩
  cases kb with
  | true =>
    rw [if_pos rfl]
    refine ⟨(y, some u) :: (x, some v) :: l, env, ⟨k.len, k.ok, c2⟩, lep_mono hc.mono hk (fun z hz w H3 c3 => ?_) fun c fs q => fun A d H' hA hx c3 => q A d H' hA hx c3.tail.tail⟩
    exact s2 _ H3 y z u w _ Q c3 hz fun z2 vz H' hz2 cz2 => hz2 vz H' cz2.swap.tail
  | false =>
    rw [if_neg Bool.false_ne_true]
    exact hk _ H2 (c2.tail.tail.bl _)

/-! ### new dicts, d.get(k) -/
def wDnK : WE := fun _ Q => Q (.ok (.ow (.dk [])))
def wDnT : WE := fun _ Q => Q (.ok (.ow (.dt [])))
theorem m_dnK : Mono wDnK := fun _ _ _ m h => m _ h
theorem m_dnT : Mono wDnT := fun _ _ _ m h => m _ h
theorem de_dnK : DE X F W (.Dict [] [] pos) wDnK := ⟨pe_imp pe_dnewK fun σ H Q ⟨l, env, k, h⟩ => fun q hq => h _ _ (k.c.newOw hq fun S g a => ⟨[], rfl, rfl, .nil⟩), m_dnK⟩
theorem de_dnT : DE X F W (.Dict [] [] pos) wDnT := ⟨pe_imp pe_dnewT fun σ H Q ⟨l, env, k, h⟩ => fun q hq => h _ _ (k.c.newOw hq fun S g a => ⟨[], rfl, rfl, .nil⟩), m_dnT⟩
def getOf (d e : D) (k : D → Prop) : Prop := match d with
  | .dk kds => ∃ j, e.key = some j ∧ k ((lk kds j).getD .non)
  | .dt kds => ∃ j, e.keyT = some j ∧ k ((lk kds j).getD .non)
  | _ => False
def isDict : D → Prop
  | .dk _ => True
  | .dt _ => True
  | _ => False
theorem getOf_mono {d e : D} {k k' : D → Prop} (m : ∀ z, k z → k' z) (h : getOf d e k) : getOf d e k' := by
  cases d with
  | dk s => obtain ⟨i, h1, h3⟩ := h; exact ⟨i, h1, m _ h3⟩
  | dt s => obtain ⟨i, h1, h3⟩ := h; exact ⟨i, h1, m _ h3⟩
  | _ => exact h.elim
def wGet (wa wb : WE) : WE := fun env Q => wa env (rk (fun x => match x.dat with
  | some d => isDict d ∧ wb env (rk (fun y => match y with
    | .sh e => getOf d e fun z => Q (.ok (.sh z))
    | _ => False) Q)
  | none => False) Q)
theorem m_get (ha : Mono wa) (hb : Mono wb) : Mono (wGet wa wb) := fun env Q Q' m q => mono_rk ha (fun x hx => by
  split at hx
  · refine ⟨hx.1, mono_rk hb (fun y hy => ?_) m hx.2⟩
    split at hy
    · exact getOf_mono (fun z hz => m _ hz) hy
    · exact hy.elim
  · exact hx.elim) m q
theorem C.isDict {l : List Cell} {H : Hp} {y : Slot} {v : V} {d : D} (h : C F ((y, some v) :: l) H) (hy : y.dat = some d) (hd : DL.isDict d) : ∃ a, v = .ref a ∧ IsD H a := by
  cases d with
  | dk kds => obtain ⟨a, kvs, ea, hr, _⟩ := h.dictK hy; cases ea; exact ⟨a, rfl, .inl ⟨kvs, hr⟩⟩
  | dt kds => obtain ⟨a, kvs, ea, hr, _⟩ := h.dictT hy; cases ea; exact ⟨a, rfl, .inr ⟨kvs, .inl hr⟩⟩
  | _ => exact hd.elim
theorem de_get (hu : X.A.units + 65 < cLine) (ha : DE X F W a wa) (hb : DE X F W b wb) (hbase : attributeBase a "get" X.env (eval a X.env) = eval a X.env := by rfl)
    (hfew : ((backTo cpos (starEach [b] X.env)).all (fun x => !x.1) && (backToKw cpos (keywordEach [] X.env)).all (fun x => x.1.isSome) && decide (([b] : List Expr).length + ([] : List Keyword).length + (if ([] : List Keyword).isEmpty then 0 else 1) < 30)) = true := by rfl)
    (hline : (apos.endLine == cpos.line) = true := by rfl) (htrees : backTo cpos (starEach [b] X.env) = [(false, eval b X.env)] := by rfl) : DE X F W (.Call (.Attribute a "get" apos) [b] [] cpos) (wGet wa wb) := by
  refine ⟨pe_imp (pe_dget1 (by omega) ha.run hb.run ⟨hbase, hfew, hline, htrees⟩) fun σ H Q ⟨l, env, k, q⟩ => ⟨l, env, k, lep_mono ha.mono q (fun x hx v H1 c1 => ?_) fun c fs q => q⟩, m_get ha.mono hb.mono⟩
  split at hx
  · rename_i d hd
    obtain ⟨hdd, hx⟩ := hx
    obtain ⟨a0, ea, hI⟩ := c1.isDict hd hdd
    subst ea
    refine ⟨a0, rfl, hI, (x, some (.ref a0)) :: l, env, k.to1 c1, lep_mono hb.mono hx (fun y hy u H2 c2 => ?_) fun c fs q => fun A d H' hA hx c3 => q A d H' hA hx c3.tail⟩
    have c2' : C F ((y, some u) :: (x, some (V.ref a0)) :: (l ++ env.zip σ)) H2 := c2
    split at hy
    · rename_i e
      cases d with
      | dk kds =>
        obtain ⟨j, h1, h3⟩ := hy
        have ek := c2'.key h1
        obtain ⟨a1, kvs, ea, hr, hk, S, g, r, cc, pw⟩ := c2'.tail.dictK hd
        cases ea
        refine ⟨valV kvs j, .inl ⟨kvs, j, hr, ek, rfl⟩, ?_⟩
        rcases lk_valV j hk r with ⟨n, m⟩ | ⟨d', v', n, m, rr⟩
        · rw [n] at h3; rw [m]; exact h3 _ H2 c2'.tail.tail.non
        · rw [n] at h3; rw [m]; exact h3 _ H2 ((C.beside g cc pw rr).swap.tail)
      | dt kds =>
        obtain ⟨j, h1, h3⟩ := hy
        cases e with
        | tup es =>
          obtain ⟨S0, g0, r0⟩ := c2'.sh0
          obtain ⟨ta, et, ht⟩ := rep_keyT r0 h1
          obtain ⟨a1, kvs, ea, hr, hk, S, g, r, cc, pw⟩ := c2'.tail.dictT hd
          cases ea
          refine ⟨valV kvs j, .inr ⟨kvs, j, ta, .inl hr, et, g0.sh _ _ ht, rfl⟩, ?_⟩
          rcases lk_valV j hk r with ⟨n, m⟩ | ⟨d', v', n, m, rr⟩
          · rw [n] at h3; rw [m]; exact h3 _ H2 c2'.tail.tail.non
          · rw [n] at h3; rw [m]; exact h3 _ H2 ((C.beside g cc pw rr).swap.tail)
        | _ => cases h1
      | _ => exact hdd.elim
    · exact hy.elim
  · exact hx.elim

/-! ### xs + ys of lists -/
def rCatL (K : PySem.W.Frag) : R2 := fun x y H Q => ∃ l b xs zs, x = .ref l ∧ y = .ref b ∧ SqL K H l xs ∧ SqL K H b zs ∧ xs.length + zs.length ≤ sizeLine ∧ ∀ p, H p = none → Q (.ref p) (upd H p (.lst (xs ++ zs)))
def oCat : O2 := fun x y k => match x.dat, y.dat with
  | some (.lst ds), some (.lst es) => ds.length + es.length ≤ 16777216 ∧ k (.ow (.lst (ds ++ es)))
  | _, _ => False
theorem oCat_mono : OMono oCat := fun x y k k' m h => by
  unfold oCat at h ⊢
  split at h
  · exact ⟨h.1, m _ h.2⟩
  · exact h.elim

/-! ### xs.reverse(), xs.clear() -/
def wReverse (i : Nat) : WS := fun env Q => match env[i]? with
  | some (.ow (.lst ds)) => Q (.nx (env.set i (.ow (.lst ds.reverse))))
  | _ => False
def wClear (i : Nat) : WS := fun env Q => match env[i]? with
  | some (.ow (.lst _)) => Q (.nx (env.set i (.ow (.lst []))))
  | _ => False
theorem m_reverse {i : Nat} : SMono (wReverse i) := fun env Q Q' m h => by
  unfold wReverse at h ⊢
  split at h
  · exact m _ h
  · exact h.elim
theorem m_clear {i : Nat} : SMono (wClear i) := fun env Q Q' m h => by
  unfold wClear at h ⊢
  split at h
  · exact m _ h
  · exact h.elim
theorem ds_reverse (i : Nat) {p2 : Pos} (hpe : PE X (.Call (.Attribute (.Name x p2) "reverse" apos) [] [] cpos) (tBM0 X.K "list" rReverse (tVar i))) (hsw : swapsWith (.Call (.Attribute (.Name x p2) "reverse" apos) [] [] cpos) none pos.line X.env = pure false := by rfl) (hK : X.K = F.K := by rfl) :
    DS X F W (.Expr (.Call (.Attribute (.Name x p2) "reverse" apos) [] [] cpos) pos) (wReverse i) := by
  refine ⟨ps_imp (ps_expr hpe hsw) fun Dn σ H ⟨l, env, k, hl, q⟩ => ?_, m_reverse⟩
  unfold wReverse at q
  split at q
  · rename_i ds en
    obtain ⟨a, hs1, hi, c1, nb⟩ := k.own en hl
    obtain ⟨S, g, ⟨vs, ev, rr⟩, cc, up⟩ := c1.mut nb
    refine ⟨.ref a, hs1, .inl ⟨rfl, vs, by rw [hK]; exact SqL.of ev⟩, a, vs, rfl, rfl, ev, q σ _ (k.ownSet en hs1 (up (.lst vs.reverse) (.lst ds.reverse) ⟨_, rfl, rr.rev⟩))⟩
  · exact q.elim
theorem ds_clear (i : Nat) {p2 : Pos} (hpe : PE X (.Call (.Attribute (.Name x p2) "clear" apos) [] [] cpos) (tBM0 X.K "list" rClear (tVar i))) (hsw : swapsWith (.Call (.Attribute (.Name x p2) "clear" apos) [] [] cpos) none pos.line X.env = pure false := by rfl) (hK : X.K = F.K := by rfl) :
    DS X F W (.Expr (.Call (.Attribute (.Name x p2) "clear" apos) [] [] cpos) pos) (wClear i) := by
  refine ⟨ps_imp (ps_expr hpe hsw) fun Dn σ H ⟨l, env, k, hl, q⟩ => ?_, m_clear⟩
  unfold wClear at q
  split at q
  · rename_i ds en
    obtain ⟨a, hs1, hi, c1, nb⟩ := k.own en hl
    obtain ⟨S, g, ⟨vs, ev, rr⟩, cc, up⟩ := c1.mut nb
    refine ⟨.ref a, hs1, .inl ⟨rfl, vs, by rw [hK]; exact SqL.of ev⟩, a, vs, rfl, rfl, ev, q σ _ (k.ownSet en hs1 (up (.lst []) (.lst []) ⟨_, rfl, .nil⟩))⟩
  · exact q.elim

/-! ### raising an own error -/
def ExcAt (K : PySem.W.Frag) (mg : Str → Option Value) (x : Str) : Prop := ∃ C, mg x = some (.ref C) ∧ PySem.W.excIn K C [.type "ValueError", .type "Exception", .type "BaseException", .type "object"] "ValueError.__new__" = true ∧ PySem.W.keepIn K (.ref C) = true ∧
  PySem.W.subIn K (.ref C) (.type "BaseException") = some true ∧ PySem.W.typeIn K (.ref C) = some (.type "type") ∧ PySem.W.isClsIn K C = true
theorem ds_raiseX {c m : Str} {j : Nat} {p2 pos2 : Pos} (E : ExcAt F.K F.mg c) (tk : Takes X W) (hc : X.calm = true := by rfl) (hg : Gl X c := by rfl) (hdb : (c == ("__debug__" : Str)) = false := by decide) (hK : X.K = F.K := by rfl) (hM : X.mg = F.mg := by rfl) :
    DS X F W (.Raise (some (.Call (.Name c p) [.Constant (.str m) j p2] [] pos)) none pos2) (wRaise c) := by
  obtain ⟨C, gC, q, kC, b, t, i⟩ := E
  exact ds_raise gC (ps_raise hc tk (pmk_own PySem.F.excBase_ValueError (by rw [hK]; exact q) (by rw [hM]; exact gC) (by rw [hK]; exact kC) (raises_own (by rw [hK]; exact b) (by rw [hK]; exact t)) hg hdb))

/-! ### zip of two lists -/
def lst2 (k : List D → List D → Prop) : List Slot → Prop
  | [x, y] => lst1 (fun ds => lst1 (fun es => k ds es) [y]) [x]
  | _ => False
theorem lst2_mono {k k' : List D → List D → Prop} (m : ∀ i j, k i j → k' i j) {xs : List Slot} (h : lst2 k xs) : lst2 k' xs := by
  unfold lst2 at h ⊢
  split at h
  · exact lst1_mono (fun ds h => lst1_mono (fun es h => m _ _ h) h) h
  · exact h.elim
def wZip (wA : WA) : WI := fun env Q => wA env (rk (lst2 fun ds es => Q (.ok (zipD ds es))) Q)
theorem m_zip (h : Mono wA) : Mono (wZip wA) := fun env Q Q' m q => mono_rk h (fun x hx => lst2_mono (fun j i z => m _ z) hx) m q
/-- the values at a still slot, in any later part that nobody changes -/
theorem C.stillVals {l : List Cell} {H : Hp} {y : Slot} {a : Addr} {ds : List D} {S : Hp} (g : GS F S H) (hd : y.dat = some (.lst ds)) (s : SC F S H (y, some (.ref a))) : ∃ vs, SqL F.K H a vs ∧ Reps F.K S vs ds := by
  cases y with
  | un => cases hd
  | sh d => cases hd; obtain ⟨w, ew, rw⟩ := s; cases ew; cases rw with
    | lst hq2 r2 => exact ⟨_, sqL_mono g.sh hq2, r2⟩
  | ow d => cases hd; obtain ⟨b, eb, _, _, vs', e2, r2⟩ := s; cases eb; exact ⟨vs', SqL.of e2, r2⟩
  | bo d => cases hd; obtain ⟨b, eb, _, vs', e2, r2⟩ := s; cases eb; exact ⟨vs', SqL.of e2, r2⟩
  | bt d => cases hd; obtain ⟨b, eb, vs', e2, r2⟩ := s; cases eb; exact ⟨vs', SqL.of e2, r2⟩
theorem zipD_get {ds es : List D} {i : Nat} {d : D} (h : (zipD ds es)[i]? = some d) : ∃ d1 d2, ds[i]? = some d1 ∧ es[i]? = some d2 ∧ d = .tup [d1, d2] := by
  unfold zipD at h
  rw [List.getElem?_map] at h
  obtain ⟨⟨d1, d2⟩, hz, e⟩ := Option.map_eq_some_iff.mp h
  rw [List.getElem?_zip_eq_some] at hz
  exact ⟨d1, d2, hz.1, hz.2, e.symm⟩
theorem itz_s {a b : Addr} {ds es : List D} {y z : Slot} (hd : y.dat = some (.lst ds)) (he : z.dat = some (.lst es)) : ItS F (Itz F.K a b) (zipD ds es) [(y, some (.ref a)), (z, some (.ref b))] := by
  intro l H c i
  obtain ⟨S, g, cc, pw⟩ := id c
  have sy := cc (y, some (V.ref a)) (by simp)
  have sz := cc (z, some (V.ref b)) (by simp)
  obtain ⟨vs, hq, r⟩ := C.stillVals (l := l) g hd sy
  obtain ⟨us, hq2, r2⟩ := C.stillVals (l := l) g he sz
  refine ⟨fun d hd' => ?_, fun hi => ⟨vs, us, hq, hq2, by
    have e : (zipD ds es).length = min ds.length es.length := by simp [zipD]
    have := r.len
    have := r2.len
    omega⟩⟩
  obtain ⟨d1, d2, h1, h2, ed⟩ := zipD_get hd'
  subst ed
  obtain ⟨u, hu, ru⟩ := r.get h1
  obtain ⟨u2, hu2, ru2⟩ := r2.get h2
  refine ⟨⟨vs, us, u, u2, hq, hq2, hu, hu2⟩, fun x H' ⟨T, z1, z2, ex, hT, eH, hz1, hz2⟩ => ?_⟩
  subst ex eH
  have := hz1 vs hq
  rw [hu] at this
  cases this
  have := hz2 us hq2
  rw [hu2] at this
  cases this
  exact C.newFromT g cc pw (.cons ru (.cons ru2 .nil)) hT
theorem lst2_ghost {xs : List Slot} {k : List D → List D → Prop} {vs : List V} {l : List Cell} {H : Hp} (hx : lst2 k xs) (hl : vs.length = xs.length) (c : C F (xs.zip (vs.map some) ++ l) H) : ∃ a b ds es y z, vs = [.ref a, .ref b] ∧ k ds es ∧ y.still ∧ z.still ∧ y.dat = some (.lst ds) ∧ z.dat = some (.lst es) ∧ C F ((y, some (.ref a)) :: (z, some (.ref b)) :: l) H ∧ (∃ us, SqL F.K H a us) ∧ ∃ us, SqL F.K H b us := by
  unfold lst2 at hx
  split at hx
  · rename_i x1 x2
    match vs, hl with
    | [v1, v2], _ =>
      have c1 : C F ([x1].zip ([v1].map some) ++ ((x2, some v2) :: l)) H := c
      obtain ⟨a, ds, y, e1, h1, s1, d1, c2, u1⟩ := lst1_ghost hx rfl c1
      have c3 : C F ([x2].zip ([v2].map some) ++ ((y, some (V.ref a)) :: l)) H := C.swap c2
      obtain ⟨b, es, z, e2, h2, s2, d2, c4, u2⟩ := lst1_ghost h1 rfl c3
      cases e1; cases e2
      exact ⟨a, b, ds, es, y, z, rfl, h2, s1, s2, d1, d2, c4.swap, u1, u2⟩
  · exact hx.elim
theorem di_zip {elts : List Expr} {kk : Nat} {tpos : Pos} (hm : X.mg "zip" = none) (ha : DA X F W [a, b] wA) (hg : Gl X "zip" := by rfl) (hs : starEach [a, b] X.env = (false, eval a X.env) :: starEach [b] X.env := by rfl) (hpl : (backTo pos (starEach [b] X.env)).any (·.1) = false := by rfl) (hK : X.K = F.K := by rfl) :
    DI X F W (.Tuple elts kk tpos) (.Call (.Name "zip" p) [a, b] [] pos) (wZip wA) := by
  refine ⟨pi_imp (pi_zip hg hm ha.run hs hpl) fun σ H Rk ⟨l, env, k, q⟩ => ⟨l, env, k, lap_mono ha.mono q (fun xs hx vs H1 hl c1 => ?_) fun c fs z => z⟩, m_zip ha.mono⟩
  obtain ⟨a1, b1, ds, es, y, z, ev, hk, s1, s2, d1, d2, c2, ⟨u1, q1⟩, u2, q2⟩ := lst2_ghost hx hl c1
  rw [hK]
  exact ⟨a1, b1, u1, u2, ev, q1, q2, hk _ [(y, some (.ref a1)), (z, some (.ref b1))] H1 (fun q hq => by
    rcases List.mem_cons.mp hq with rfl | hq
    · exact still_env s1
    · exact one_env (still_env s2) q hq) (itz_s d1 d2) c2⟩
end
/-! ### built-in classes -/
theorem boot_int_ : bootBuiltins "int" = some (.type "int") := by decide +kernel
theorem boot_bool_ : bootBuiltins "bool" = some (.type "bool") := by decide +kernel
theorem boot_str_ : bootBuiltins "str" = some (.type "str") := by decide +kernel
theorem boot_list_ : bootBuiltins "list" = some (.type "list") := by decide +kernel
theorem boot_tuple_ : bootBuiltins "tuple" = some (.type "tuple") := by decide +kernel
theorem boot_dict_ : bootBuiltins "dict" = some (.type "dict") := by decide +kernel
theorem kit_int : KitOk "int" := by unfold KitOk; decide +kernel
theorem kit_bool : KitOk "bool" := by unfold KitOk; decide +kernel
theorem kit_str : KitOk "str" := by unfold KitOk; decide +kernel
theorem kit_list : KitOk "list" := by unfold KitOk; decide +kernel
theorem kit_tuple : KitOk "tuple" := by unfold KitOk; decide +kernel
theorem kit_dict : KitOk "dict" := by unfold KitOk; decide +kernel
theorem clsV_int : ClsV (.ty "int") (.type "int") := .ty _
theorem clsV_bool : ClsV (.ty "bool") (.type "bool") := .ty _
theorem clsV_str : ClsV (.ty "str") (.type "str") := .ty _
theorem clsV_list : ClsV (.ty "list") (.type "list") := .ty _
theorem clsV_tuple : ClsV (.ty "tuple") (.type "tuple") := .ty _
theorem clsV_dict : ClsV (.ty "dict") (.type "dict") := .ty _
end DL

set_option Elab.async false
set_option linter.all false
set_option maxRecDepth 100000
set_option maxHeartbeats 4000000
/-! DL, part 11: comparisons as tests -/
namespace DL
open PySem PySem.Spec PyProof.Rows L2
section
variable {X : Cx} {F : Fr} {W : WX} {a b c e o : Expr} {wa wb wc we : WE} {pos p : Pos}
theorem lt_le {w : WE} (m : Mono w) {σ : L2.St} {H : Hp} {Q : Bool → Hp → Prop} (h : LT F W w σ H Q) : LE F W w σ H fun x H' => ∃ k, x = .bl k ∧ Q k H' := by
  obtain ⟨l, env, k, q⟩ := h
  refine ⟨l, env, k, m env _ _ (fun r z => ?_) q⟩
  cases r with
  | ok x =>
    obtain ⟨b, rfl, z⟩ := z
    exact fun v H' c => by
      have e := c.shBl
      cases e
      exact ⟨b, rfl, z H' c.tail⟩
  | ex c fs => exact z
theorem dt_cmp {op : CmpOp} {r : R2} {o : O2} (ho : OpR X (compareOp op) r) (sn : SndOp F r o) (om : OMono o) (ha : DE X F W a wa) (hb : DE X F W b wb) (hm : behindInMarks op b = false) : DT X F W (.Compare a [op] [b] pos) (wOp o wa wb) :=
  ⟨pt_imp (pt_cmpR ho ha.run hb.run hm) fun _ _ _ h => le_op sn ha hb (lt_le (mono_op ha.mono hb.mono om) h), mono_op ha.mono hb.mono om⟩
theorem dt_lt (ha : DE X F W a wa) (hb : DE X F W b wb) : DT X F W (.Compare a [.Lt] [b] pos) (wOp oLt wa wb) := dt_cmp op_lt oI0_bl oI0_mono ha hb (nomark _)
theorem dt_le (ha : DE X F W a wa) (hb : DE X F W b wb) : DT X F W (.Compare a [.LtE] [b] pos) (wOp oLe wa wb) := dt_cmp op_le oI0_bl oI0_mono ha hb (nomark _)
theorem dt_gt (ha : DE X F W a wa) (hb : DE X F W b wb) : DT X F W (.Compare a [.Gt] [b] pos) (wOp oGt wa wb) := dt_cmp op_gt oI0_bl oI0_mono ha hb (nomark _)
theorem dt_ge (ha : DE X F W a wa) (hb : DE X F W b wb) : DT X F W (.Compare a [.GtE] [b] pos) (wOp oGe wa wb) := dt_cmp op_ge oI0_bl oI0_mono ha hb (nomark _)
theorem dt_eq (hu : X.A.units + 65 < cLine) (ha : DE X F W a wa) (hb : DE X F W b wb) (hK : X.K = F.K := by rfl) : DT X F W (.Compare a [.Eq] [b] pos) (wOp (oEq false) wa wb) :=
  dt_cmp (r := rEqA F.K) (by rw [← hK]; exact op_eq.or (op_eqD (by omega))) snd_eq oEq_mono ha hb (nomark _)
theorem dt_ne (hu : X.A.units + 65 < cLine) (ha : DE X F W a wa) (hb : DE X F W b wb) (hK : X.K = F.K := by rfl) : DT X F W (.Compare a [.NotEq] [b] pos) (wOp (oEq true) wa wb) :=
  dt_cmp (r := rNeA F.K) (by rw [← hK]; exact op_ne.or (op_neD (by omega))) snd_ne oEq_mono ha hb (nomark _)
theorem dt_in (hu : X.A.units + 65 < cLine) (ha : DE X F W a wa) (hb : DE X F W b wb) (hm : behindInMarks .In b = false := by rfl) (hK : X.K = F.K := by rfl) : DT X F W (.Compare a [.In] [b] pos) (wOp (oIn false) wa wb) :=
  dt_cmp (r := rInA F.K false) (by rw [← hK]; exact op_inA hu) snd_in oIn_mono ha hb hm
theorem dt_notIn (hu : X.A.units + 65 < cLine) (ha : DE X F W a wa) (hb : DE X F W b wb) (hm : behindInMarks .NotIn b = false := by rfl) (hK : X.K = F.K := by rfl) : DT X F W (.Compare a [.NotIn] [b] pos) (wOp (oIn true) wa wb) :=
  dt_cmp (r := rInA F.K true) (by rw [← hK]; exact op_notInA hu) snd_in oIn_mono ha hb hm
theorem dt_isB (ha : DE X F W a wa) (hb : DE X F W b wb) : DT X F W (.Compare a [.Is] [b] pos) (wOp (oIsB false) wa wb) := dt_cmp op_isBl (fun l H x y vx vy ks Q hc ho hq => by
  unfold oIsB at ho
  split at ho
  · rename_i i j
    have e1 := hc.shBl
    have e2 := hc.tail.shBl
    cases e1; cases e2
    refine ⟨i, j, rfl, rfl, hq _ _ H ho ?_⟩
    rw [Bool.false_xor]
    exact hc.tail.tail.bl _
  · exact ho.elim) oIsB_mono ha hb (nomark _)
theorem dt_isnB (ha : DE X F W a wa) (hb : DE X F W b wb) : DT X F W (.Compare a [.IsNot] [b] pos) (wOp (oIsB true) wa wb) := dt_cmp op_notBl (fun l H x y vx vy ks Q hc ho hq => by
  unfold oIsB at ho
  split at ho
  · rename_i i j
    have e1 := hc.shBl
    have e2 := hc.tail.shBl
    cases e1; cases e2
    refine ⟨i, j, rfl, rfl, hq _ _ H ho ?_⟩
    rw [Bool.true_xor]
    exact hc.tail.tail.bl _
  · exact ho.elim) oIsB_mono ha hb (nomark _)
theorem dt_isN {j : Nat} {p : Pos} (ha : DE X F W a wa) : DT X F W (.Compare a [.Is] [.Constant .none j p] pos) (wUn (oIsN false) wa) :=
  ⟨pt_imp (pt_cmpR op_isN ha.run pe_non (nomark _)) fun _ _ _ h => le_isN (neg := false) (fun x H Q q => ⟨rfl, by rw [Bool.false_xor] at q; exact q⟩) ha (lt_le (mono_un ha.mono oIsN_mono) h), mono_un ha.mono oIsN_mono⟩
theorem dt_isnN {j : Nat} {p : Pos} (ha : DE X F W a wa) : DT X F W (.Compare a [.IsNot] [.Constant .none j p] pos) (wUn (oIsN true) wa) :=
  ⟨pt_imp (pt_cmpR op_notN ha.run pe_non (nomark _)) fun _ _ _ h => le_isN (neg := true) (fun x H Q q => ⟨rfl, by rw [Bool.true_xor] at q; exact q⟩) ha (lt_le (mono_un ha.mono oIsN_mono) h), mono_un ha.mono oIsN_mono⟩
theorem le_chain {r r' : R2} {o1 o2 : O2} (s1 : SndOpK F r o1) (s2 : SndOp F r' o2) (ha : DE X F W a wa) (hb : DE X F W b wb) (hc : DE X F W c wc) {σ : L2.St} {H : Hp} {Q : VK} (h : LE F W (wChain o1 o2 wa wb wc) σ H Q) : tChain r r' (LE F W wa) (LE F W wb) (LE F W wc) σ H Q := by
  obtain ⟨l, env, k, q⟩ := h
  refine ⟨l, env, k, lep_mono ha.mono q (fun x hx v H1 c1 => ?_) fun c fs q => q⟩
  refine ⟨(x, some v) :: l, env, k.to1 c1, lep_mono hb.mono hx (fun y hy u H2 c2 => ?_) fun c fs q => fun A d H' hA hx c3 => q A d H' hA hx c3.tail⟩
  refine s1 _ H2 x y v u _ _ c2 hy fun z vz hz cz => ?_
  obtain ⟨kb, ek, hk⟩ := asB_inv hz
  subst ek
  have ez := cz.shBl
  cases ez
  refine ⟨kb, rfl, ?_⟩
  cases kb with
  | true =>
    rw [if_pos rfl]
    refine ⟨(y, some u) :: (x, some v) :: l, env, ⟨k.len, k.ok, c2⟩, lep_mono hc.mono hk (fun z hz w H3 c3 => ?_) fun c fs q => fun A d H' hA hx c3 => q A d H' hA hx c3.tail.tail⟩
    exact s2 _ H3 y z u w _ Q c3 hz fun z2 vz H' hz2 cz2 => hz2 vz H' cz2.swap.tail
  | false =>
    rw [if_neg Bool.false_ne_true]
    exact hk _ H2 (c2.tail.tail.bl _)
theorem dt_chain {op op' : CmpOp} {r r' : R2} {o1 o2 : O2} (ho : OpR X (compareOp op) r) (ho' : OpR X (compareOp op') r') (s1 : SndOpK F r o1) (s2 : SndOp F r' o2) (m1 : OMono o1) (m2 : OMono o2) (ha : DE X F W a wa) (hb : DE X F W b wb) (hc : DE X F W c wc)
    (hm : lastMarks [op, op'] [b, c] = false := by with_unfolding_all rfl) : DT X F W (.Compare a [op, op'] [b, c] pos) (wChain o1 o2 wa wb wc) :=
  ⟨pt_imp (pt_chain ho ho' ha.run hb.run hc.run hm) fun _ _ _ h => le_chain s1 s2 ha hb hc (lt_le (m_chain m1 m2 ha.mono hb.mono hc.mono) h), m_chain m1 m2 ha.mono hb.mono hc.mono⟩
end
end DL

set_option Elab.async false
set_option linter.all false
set_option maxRecDepth 100000
set_option maxHeartbeats 4000000
namespace DL
open PySem PySem.Spec PyProof.Rows L2
/-! ### what stays folded while a word is laid open -/
class Kont (α : Type) where
  k : α → Prop
class PK where
  p : Prop
def HoldI {α : Type} [i : Kont α] : α → Prop := i.k
abbrev Hold {α : Type} (k : α → Prop) : α → Prop := @HoldI α ⟨k⟩
theorem hold {α : Type} {k : α → Prop} {x : α} (h : k x) : @HoldI α ⟨k⟩ x := h
def ifI (b : Bool) [p : PK] [q : PK] : Prop := match b with
  | true => p.p
  | false => q.p
abbrev ifB (b : Bool) (p q : Prop) : Prop := @ifI b ⟨p⟩ ⟨q⟩
theorem ifB_true {p q : Prop} : @ifI true ⟨p⟩ ⟨q⟩ = p := rfl
theorem ifB_false {p q : Prop} : @ifI false ⟨p⟩ ⟨q⟩ = q := rfl
theorem ifB_of {b : Bool} {p q : Prop} (h1 : b = true → p) (h2 : b = false → q) : @ifI b ⟨p⟩ ⟨q⟩ := by
  cases b
  · exact h2 rfl
  · exact h1 rfl
/-- with the test as a Prop -/
theorem ifD_of {c : Prop} [Decidable c] {p q : Prop} (h1 : c → p) (h2 : ¬ c → q) : @ifI (decide c) ⟨p⟩ ⟨q⟩ := ifB_of (fun h => h1 (of_decide_eq_true h)) (fun h => h2 (of_decide_eq_false h))
theorem ifN_of {c : Prop} [Decidable c] {p q : Prop} (h1 : ¬ c → p) (h2 : c → q) : @ifI (!decide c) ⟨p⟩ ⟨q⟩ := ifB_of (fun h => h1 (by simpa using h)) (fun h => h2 (by simpa using h))
theorem ifB_pos {b : Bool} {p q : Prop} (h : b = true) (h1 : p) : @ifI b ⟨p⟩ ⟨q⟩ := by subst h; exact h1
theorem ifB_neg {b : Bool} {p q : Prop} (h : b = false) (h1 : q) : @ifI b ⟨p⟩ ⟨q⟩ := by subst h; exact h1
/-- both ways lead on to one place -/
theorem ifB_join {b : Bool} {p q : Prop} (h1 : p) (h2 : q) : @ifI b ⟨p⟩ ⟨q⟩ := ifB_of (fun _ => h1) (fun _ => h2)
section
variable {wa wb wc : WE} {w w1 w2 : WS} {g : WG} {wi : WI} {wA : WA} {γ : G} {env : En}
theorem h_call {Q : R Slot → Prop} : wCall γ wA env Q = wA env (rk (fun xs => γ (xs.map Slot.arg) (@HoldI _ ⟨outK Q⟩)) Q) := rfl
theorem h_if {Q : O → Prop} : wIf wc w1 w2 env Q = wc env (rks (asB fun b => @ifI b ⟨w1 env Q⟩ ⟨w2 env Q⟩) Q env) := by
  unfold wIf
  congr
theorem h_and {Q : R Slot → Prop} : wAnd wa wb env Q = wa env (rk (asB fun b => @ifI b ⟨wb env Q⟩ ⟨Q (.ok (.sh (.bl false)))⟩) Q) := by unfold wAnd; congr
theorem h_or {Q : R Slot → Prop} : wOr wa wb env Q = wa env (rk (asB fun b => @ifI b ⟨Q (.ok (.sh (.bl true)))⟩ ⟨wb env Q⟩) Q) := by unfold wOr; congr
theorem h_ite {Q : R Slot → Prop} : wIte wc wa wb env Q = wc env (rk (asB fun b => @ifI b ⟨wa env Q⟩ ⟨wb env Q⟩) Q) := by unfold wIte; congr
theorem h_for {Q : O → Prop} : wFor g wi w env Q = wi env (rks (fun ds => wLoop g w ds env (@HoldI _ ⟨Q⟩)) Q env) := rfl
/-- what follows a statement; opened only once the names ahead of it are plain -/
def nxK (w2 : WS) (Q : O → Prop) : O → Prop
  | .nx e => w2 e Q
  | .ret x => Q (.ret x)
  | .bk e => Q (.bk e)
  | .ct e => Q (.ct e)
  | .ex c fs e => Q (.ex c fs e)
theorem h_seq {Q : O → Prop} : wSeq w1 w2 env Q = w1 env (@HoldI _ ⟨nxK w2 Q⟩) := by
  unfold wSeq
  congr 1
  funext o
  cases o <;> rfl
theorem k_nx {Q : O → Prop} {e : En} : @HoldI _ ⟨nxK w2 Q⟩ (.nx e) = w2 e Q := rfl
theorem k_ret {Q : O → Prop} {x : Slot} : @HoldI _ ⟨nxK w2 Q⟩ (.ret x) = Q (.ret x) := rfl
theorem k_bk {Q : O → Prop} {e : En} : @HoldI _ ⟨nxK w2 Q⟩ (.bk e) = Q (.bk e) := rfl
theorem k_ct {Q : O → Prop} {e : En} : @HoldI _ ⟨nxK w2 Q⟩ (.ct e) = Q (.ct e) := rfl
theorem k_ex {Q : O → Prop} {c : Str} {fs : List (Str × D)} {e : En} : @HoldI _ ⟨nxK w2 Q⟩ (.ex c fs e) = Q (.ex c fs e) := rfl
def whH (wc : WE) (w : WS) (env : En) (Q : O → Prop) : Prop := ∃ n, wWh wc w n env Q
theorem h_while {Q : O → Prop} : wWhile wc w env Q = whH wc w env (@HoldI _ ⟨Q⟩) := rfl
def lcH (i : Nat) (wt we : WE) (ds : List D) (env : En) (k : List D → Prop) : Prop := lcL i wt we ds env [] k
theorem h_lc {i : Nat} {wt we : WE} {Q : R Slot → Prop} : wLc i wi wt we env Q = (unAt env i ∧ wi env (rk (fun ds => lcH i wt we ds env (@HoldI _ ⟨fun acc => Q (.ok (.ow (.lst acc)))⟩)) Q)) := rfl
theorem h_chain {o1 o2 : O2} {Q : R Slot → Prop} : wChain o1 o2 wa wb wc env Q = wa env (rk (fun x => wb env (rk (fun y => o1 x y (asB fun k => @ifI k ⟨wc env (rk (fun z => o2 y z fun z => Q (.ok z)) Q)⟩ ⟨Q (.ok (.sh (.bl false)))⟩)) Q)) Q) := by unfold wChain; congr
end
/-! ### == of plain values -/
theorem eqok_int {i j : Int} : EqOk (.int i) (.int j) = True := eq_true (.inl rfl)
theorem eqok_bl {i j : Bool} : EqOk (.bl i) (.bl j) = True := eq_true (.inl rfl)
theorem eqok_str {i j : Str} : EqOk (.str i) (.str j) = True := eq_true (.inl rfl)
theorem eqD_int {i j : Int} : eqD (.int i) (.int j) = decide (i = j) := by
  show PyData.eqv (.int i) (.int j) = _
  unfold PyData.eqv
  rfl
theorem eqD_bl {i j : Bool} : eqD (.bl i) (.bl j) = (i == j) := by
  show PyData.eqv (.bool i) (.bool j) = _
  unfold PyData.eqv
  cases i <;> cases j <;> rfl
theorem eqD_str {i j : Str} : eqD (.str i) (.str j) = (i == j) := by
  show PyData.eqv (.str i) (.str j) = _
  unfold PyData.eqv
  rfl
theorem rangeD_cons (lo : Int) (n : Nat) : rangeD lo (n + 1) = .int lo :: rangeD (lo + 1) n := by
  unfold rangeD
  rw [List.range_succ_eq_map, List.map_cons, List.map_map]
  congr 1
  · simp
  · apply List.map_congr_left
    intro x _
    simp only [Function.comp]
    congr 1
    show lo + ((x + 1 : Nat) : Int) = lo + 1 + (x : Int)
    omega
theorem rangeD_zero (lo : Int) : rangeD lo 0 = [] := rfl

end DL

set_option Elab.async false
set_option linter.all false
set_option maxRecDepth 100000
set_option maxHeartbeats 4000000
namespace DL
open PySem PySem.Spec PyProof.Rows L2
/-- _law_cell(_law_script, _law_place): 0 law_script 1 law_place -/
def w_law_cell : WS :=
 (wSeq (wIf (wOp oLt (wVar 1) (wUn oLen (wVar 0)))
 (wRet (wOp oIx (wVar 0) (wVar 1)))
 wNext)
 (wRet (wInt 0)))
theorem wm_law_cell : SMono w_law_cell := (mono_seq (m_if (mono_op (m_var 1) (mono_un (m_var 0) oLen_mono) oI0_mono) (m_ret (mono_op (m_var 0) (m_var 1) oIx_mono)) m_next) (m_ret m_int))
def g_law_cell : G := gOf 2 w_law_cell
theorem gm_law_cell : GMono g_law_cell := gOf_mono wm_law_cell
/-- _law_seed(_law_cell_here): 0 law_cell_here 1 law_one 2 law_two -/
def w_law_seed : WS :=
 (wSeq (wIf (wOp oGe (wVar 0) (wOp oPow (wInt 10) (wInt 18)))
 (wRetV 0)
 wNext)
 (wSeq (wAsg (gN 1) (wOp oMod (wOp oMul (wOp oMod (wOp oAdd (wOp oMul (wVar 0) (wInt 48271)) (wInt 7919)) (wInt 2147483647)) (wInt 16807)) (wInt 2147483629)))
 (wSeq (wAsg (gN 2) (wOp oMod (wOp oMul (wOp oMod (wOp oAdd (wOp oMul (wVar 0) (wInt 69621)) (wInt 104729)) (wInt 2147483587)) (wInt 40692)) (wInt 2147483399)))
 (wRet (wOp oAdd (wOp oMul (wVar 1) (wInt 2147483399)) (wVar 2))))))
theorem wm_law_seed : SMono w_law_seed := (mono_seq (m_if (mono_op (m_var 0) (mono_op m_int m_int oI_mono) oI0_mono) m_retV m_next) (mono_seq (mono_asg g_name (mono_op (mono_op (mono_op (mono_op (mono_op (m_var 0) m_int oI_mono) m_int oI0_mono) m_int oI_mono) m_int oI_mono) m_int oI_mono)) (mono_seq (mono_asg g_name (mono_op (mono_op (mono_op (mono_op (mono_op (m_var 0) m_int oI_mono) m_int oI0_mono) m_int oI_mono) m_int oI_mono) m_int oI_mono)) (m_ret (mono_op (mono_op (m_var 1) m_int oI_mono) (m_var 2) oI0_mono)))))
def g_law_seed : G := gOf 3 w_law_seed
theorem gm_law_seed : GMono g_law_seed := gOf_mono wm_law_seed
/-- _law_digits(_law_cell_here, _law_sizes): 0 law_cell_here 1 law_sizes 2 law_rest 3 law_found 4 law_k 5 law_size -/
def w_law_digits_b1 : WS :=
 (wSeq (wIf (wOp oLt (wVar 2) (wVar 5))
 (wAsg (gN 2) (wCall g_law_seed (aCons (wOp oAdd (wOp oAdd (wVar 2) (wOp oMul (wInt 131) (wVar 4))) (wOp oMod (wVar 0) (wInt 1009))) aNil)))
 wNext)
 (wSeq (wApp 3 (wOp oMod (wVar 2) (wVar 5)))
 (wAsg (gN 2) (wOp oDiv (wVar 2) (wVar 5)))))
theorem wm_law_digits_b1 : SMono w_law_digits_b1 := (mono_seq (m_if (mono_op (m_var 2) (m_var 5) oI0_mono) (mono_asg g_name (m_call gm_law_seed (m_cons (mono_op (mono_op (m_var 2) (mono_op m_int (m_var 4) oI_mono) oI0_mono) (mono_op (m_var 0) m_int oI_mono) oI0_mono) m_nil))) m_next) (mono_seq (m_app (mono_op (m_var 2) (m_var 5) oI_mono)) (mono_asg g_name (mono_op (m_var 2) (m_var 5) oI_mono))))
def w_law_digits : WS :=
 (wSeq (wAsg (gN 2) (wCall g_law_seed (aCons (wVar 0) aNil)))
 (wSeq (wAsg (gN 3) (wLst aNil))
 (wSeq (wFrz 1 (wFor (gT [4, 5]) (wEnum (aCons (wVar 1) aNil))
 w_law_digits_b1))
 (wRetV 3))))
theorem wm_law_digits : SMono w_law_digits := (mono_seq (mono_asg g_name (m_call gm_law_seed (m_cons (m_var 0) m_nil))) (mono_seq (mono_asg g_name (m_lst m_nil)) (mono_seq (m_frz (m_for g_tup (m_enum (m_cons (m_var 1) m_nil)) wm_law_digits_b1)) m_retV)))
def g_law_digits : G := gOf 6 w_law_digits
theorem gm_law_digits : GMono g_law_digits := gOf_mono wm_law_digits

theorem atI_ints {ns : List Int} {i : Nat} (h : i < ns.length) : atI (ns.map D.int) (i : Int) = some (.int ns[i]) := by
  have e : ixN (ns.map D.int).length (i : Int) = some i := by
    unfold ixN
    simp [h]
  unfold atI
  rw [e]
  simp [h]
theorem p_cell (ns : List Int) (i : Nat) (Q : R Slot → Prop) (h : ∀ c : Int, Q (.ok (.sh (.int c)))) : g_law_cell [.sh (.lst (ns.map D.int)), .sh (.int i)] Q := by
  simp -implicitDefEqProofs only [↓g_law_cell, ↓w_law_cell, ↓gOf, ↓h_while, ↓ifB_true, ↓ifB_false, ↓fin, ↓h_seq, ↓h_if, ↓wRet, ↓wRetN, ↓wRetV, ↓wAsg, ↓wFrz, ↓wFgt, ↓wDrop, ↓wAug, ↓wNext, ↓wBrk, ↓wCnt, ↓h_for, ↓wApp, ↓wSet, ↓wRaise, ↓wReverse, ↓wClear, ↓gN, ↓gT, ↓wSets, ↓rk, ↓rks, ↓rk0, ↓asB, ↓wVar, ↓wInt, ↓wBl, ↓wStr, ↓wNon, ↓wOp, ↓wUn, ↓wNot, ↓h_and, ↓h_or, ↓h_ite, ↓aNil, ↓aCons, ↓wTup, ↓wLst, ↓outK, ↓h_call, ↓oAdd, ↓oSub, ↓oMul, ↓oMod, ↓oDiv, ↓oPow, ↓oI0, ↓oI, ↓oLt, ↓oLe, ↓oGt, ↓oGe, ↓oNeg, ↓oIsB, ↓oIsN, ↓oEq, ↓oIx, ↓oIxN, ↓oIxL, ↓itemOf, ↓oLen, ↓oMin, ↓oMax, ↓oSum, ↓oList, ↓oDict, ↓oIsi, ↓wSlice, ↓wNoP, ↓wPart, ↓wIter, ↓stillK, ↓wRng1, ↓wRng2, ↓ints1, ↓ints2, ↓wEnum, ↓lst1, ↓wZip, ↓lst2, ↓wGet, ↓getOf, ↓wTru, ↓truOf, ↓h_chain, ↓wDnK, ↓wDnT, ↓h_lc, ↓unAt, Bool.decide_eq_true, Bool.decide_eq_false, Bool.and_true, Bool.and_false, Bool.true_and, Bool.false_and, beq_self_eq_true, Bool.true_beq, Bool.false_beq, decide_true, decide_false, eqok_int, eqok_bl, eqok_str, eqD_int, eqD_bl, eqD_str, frzS, stabs, Slot.stab, Slot.dat, Slot.arg, lenOf, enumD, zipD, List.set_cons_zero, List.set_cons_succ, List.getElem?_cons_zero, List.getElem?_cons_succ, List.getElem?_nil, List.length_cons, List.length_nil, List.cons_append, List.nil_append, List.reduceReplicate, List.map_cons, List.map_nil, Nat.reduceAdd, Nat.reduceSub, Nat.reduceLT, Nat.reduceLeDiff, Nat.zero_add, Nat.add_zero, true_and, and_true, Nat.zero_lt_succ, Int.reduceToNat, Int.reducePow, List.length_map, Int.reduceAdd, Nat.lt_add_one, Bool.true_xor, Bool.false_xor, Bool.not_not, rangeD_cons, rangeD_zero, Bool.not_true, Bool.not_false, fin, rk, rks, rk0, asB, outK, stillK, ints1, ints2, lst1, lst2, wSets, itemOf, truOf, getOf, ifB_true, ifB_false, k_nx, k_ret, k_bk, k_ct, k_ex]
  refine ifD_of (fun hd => ?_) (fun _ => h _)
  exact ⟨i, _, rfl, atI_ints (by omega), h _⟩
theorem cmulR {i j : Int} (h : 0 ≤ j ∧ j < 2 ^ 64) : CMul i j := .inr ⟨by omega, h.2⟩
theorem p_seed (c : Int) (Q : R Slot → Prop) (h : ∀ r : Int, Q (.ok (.sh (.int r)))) : g_law_seed [.sh (.int c)] Q := by
  simp -implicitDefEqProofs only [↓g_law_seed, ↓w_law_seed, ↓gOf, ↓h_while, ↓ifB_true, ↓ifB_false, ↓fin, ↓h_seq, ↓h_if, ↓wRet, ↓wRetN, ↓wRetV, ↓wAsg, ↓wFrz, ↓wFgt, ↓wDrop, ↓wAug, ↓wNext, ↓wBrk, ↓wCnt, ↓h_for, ↓wApp, ↓wSet, ↓wRaise, ↓wReverse, ↓wClear, ↓gN, ↓gT, ↓wSets, ↓rk, ↓rks, ↓rk0, ↓asB, ↓wVar, ↓wInt, ↓wBl, ↓wStr, ↓wNon, ↓wOp, ↓wUn, ↓wNot, ↓h_and, ↓h_or, ↓h_ite, ↓aNil, ↓aCons, ↓wTup, ↓wLst, ↓outK, ↓h_call, ↓oAdd, ↓oSub, ↓oMul, ↓oMod, ↓oDiv, ↓oPow, ↓oI0, ↓oI, ↓oLt, ↓oLe, ↓oGt, ↓oGe, ↓oNeg, ↓oIsB, ↓oIsN, ↓oEq, ↓oIx, ↓oIxN, ↓oIxL, ↓itemOf, ↓oLen, ↓oMin, ↓oMax, ↓oSum, ↓oList, ↓oDict, ↓oIsi, ↓wSlice, ↓wNoP, ↓wPart, ↓wIter, ↓stillK, ↓wRng1, ↓wRng2, ↓ints1, ↓ints2, ↓wEnum, ↓lst1, ↓wZip, ↓lst2, ↓wGet, ↓getOf, ↓wTru, ↓truOf, ↓h_chain, ↓wDnK, ↓wDnT, ↓h_lc, ↓unAt, Bool.decide_eq_true, Bool.decide_eq_false, Bool.and_true, Bool.and_false, Bool.true_and, Bool.false_and, beq_self_eq_true, Bool.true_beq, Bool.false_beq, decide_true, decide_false, eqok_int, eqok_bl, eqok_str, eqD_int, eqD_bl, eqD_str, frzS, stabs, Slot.stab, Slot.dat, Slot.arg, lenOf, enumD, zipD, List.set_cons_zero, List.set_cons_succ, List.getElem?_cons_zero, List.getElem?_cons_succ, List.getElem?_nil, List.length_cons, List.length_nil, List.cons_append, List.nil_append, List.reduceReplicate, List.map_cons, List.map_nil, Nat.reduceAdd, Nat.reduceSub, Nat.reduceLT, Nat.reduceLeDiff, Nat.zero_add, Nat.add_zero, true_and, and_true, Nat.zero_lt_succ, Int.reduceToNat, Int.reducePow, List.length_map, Int.reduceAdd, Nat.lt_add_one, Bool.true_xor, Bool.false_xor, Bool.not_not, rangeD_cons, rangeD_zero, Bool.not_true, Bool.not_false, fin, rk, rks, rk0, asB, outK, stillK, ints1, ints2, lst1, lst2, wSets, itemOf, truOf, getOf, ifB_true, ifB_false, k_nx, k_ret, k_bk, k_ct, k_ex]
  refine ⟨⟨by decide, by decide, by decide⟩, ?_⟩
  refine ifB_join (h _) ?_
  simp -implicitDefEqProofs only [↓gOf, ↓h_while, ↓ifB_true, ↓ifB_false, ↓fin, ↓h_seq, ↓h_if, ↓wRet, ↓wRetN, ↓wRetV, ↓wAsg, ↓wFrz, ↓wFgt, ↓wDrop, ↓wAug, ↓wNext, ↓wBrk, ↓wCnt, ↓h_for, ↓wApp, ↓wSet, ↓wRaise, ↓wReverse, ↓wClear, ↓gN, ↓gT, ↓wSets, ↓rk, ↓rks, ↓rk0, ↓asB, ↓wVar, ↓wInt, ↓wBl, ↓wStr, ↓wNon, ↓wOp, ↓wUn, ↓wNot, ↓h_and, ↓h_or, ↓h_ite, ↓aNil, ↓aCons, ↓wTup, ↓wLst, ↓outK, ↓h_call, ↓oAdd, ↓oSub, ↓oMul, ↓oMod, ↓oDiv, ↓oPow, ↓oI0, ↓oI, ↓oLt, ↓oLe, ↓oGt, ↓oGe, ↓oNeg, ↓oIsB, ↓oIsN, ↓oEq, ↓oIx, ↓oIxN, ↓oIxL, ↓itemOf, ↓oLen, ↓oMin, ↓oMax, ↓oSum, ↓oList, ↓oDict, ↓oIsi, ↓wSlice, ↓wNoP, ↓wPart, ↓wIter, ↓stillK, ↓wRng1, ↓wRng2, ↓ints1, ↓ints2, ↓wEnum, ↓lst1, ↓wZip, ↓lst2, ↓wGet, ↓getOf, ↓wTru, ↓truOf, ↓h_chain, ↓wDnK, ↓wDnT, ↓h_lc, ↓unAt, Bool.decide_eq_true, Bool.decide_eq_false, Bool.and_true, Bool.and_false, Bool.true_and, Bool.false_and, beq_self_eq_true, Bool.true_beq, Bool.false_beq, decide_true, decide_false, eqok_int, eqok_bl, eqok_str, eqD_int, eqD_bl, eqD_str, frzS, stabs, Slot.stab, Slot.dat, Slot.arg, lenOf, enumD, zipD, List.set_cons_zero, List.set_cons_succ, List.getElem?_cons_zero, List.getElem?_cons_succ, List.getElem?_nil, List.length_cons, List.length_nil, List.cons_append, List.nil_append, List.reduceReplicate, List.map_cons, List.map_nil, Nat.reduceAdd, Nat.reduceSub, Nat.reduceLT, Nat.reduceLeDiff, Nat.zero_add, Nat.add_zero, true_and, and_true, Nat.zero_lt_succ, Int.reduceToNat, Int.reducePow, List.length_map, Int.reduceAdd, Nat.lt_add_one, Bool.true_xor, Bool.false_xor, Bool.not_not, rangeD_cons, rangeD_zero, Bool.not_true, Bool.not_false, fin, rk, rks, rk0, asB, outK, stillK, ints1, ints2, lst1, lst2, wSets, itemOf, truOf, getOf, ifB_true, ifB_false, k_nx, k_ret, k_bk, k_ct, k_ex]
  exact ⟨cmulR (by decide), by decide, cmulR (by decide), by decide, cmulR (by decide), by decide, cmulR (by decide), by decide, cmulR (by decide), h _⟩
def DigQ : List Int → (List Int → Prop) → Prop
  | [], k => k []
  | s :: ss, k => ∀ d : Int, 0 ≤ d → d < s → DigQ ss fun ds => k (d :: ds)
def SizesOk (ss : List Int) : Prop := ∀ s ∈ ss, 0 < s ∧ s ≤ 1000000000000000000000000000000
theorem divW_of {a s : Int} (h : 0 < s ∧ s ≤ 1000000000000000000000000000000) : CDivW a s := by
  refine ⟨h.1, ?_⟩
  have h1 : s.natAbs < 2 ^ 100 := by have := h.2; omega
  have h2 : s.natAbs ≠ 0 := by omega
  exact Nat.lt_trans ((Nat.log2_lt h2).mpr h1) (by decide)
/-- behind one turn of a loop -/
def lpK (I : En → Prop) (Q : O → Prop) : O → Prop
  | .nx e => I e
  | .ct e => I e
  | .bk e => Q (.nx e)
  | .ret x => Q (.ret x)
  | .ex c fs e => Q (.ex c fs e)
theorem loop_step {g : WG} {b : WS} {d : D} {ds : List D} {env : En} {Q : O → Prop} (mg : GtMono g) (mb : SMono b) (I : En → Prop) (hI : ∀ e, I e → wLoop g b ds e Q) (h : g (.sh d) env fun e1 => b e1 (lpK I Q)) : wLoop g b (d :: ds) env Q :=
  mg _ _ _ _ (fun e1 z => mb _ _ _ (fun o z => match o, z with
    | .nx e, z => hI e z
    | .ct e, z => hI e z
    | .bk e, z => z
    | .ret x, z => z
    | .ex c fs e, z => z) z) h
theorem loop_from {g : WG} {b : WS} {Q : O → Prop} (mg : GtMono g) (mb : SMono b) (I : Nat → En → Prop) : ∀ (ds : List D) (j : Nat) (env : En), I j env → (∀ k d e, ds[k]? = some d → I (j + k) e → g (.sh d) e fun e1 => b e1 (lpK (I (j + k + 1)) Q)) → (∀ e, I (j + ds.length) e → Q (.nx e)) → wLoop g b ds env Q
  | [], j, env, h0, h, hq => hq env h0
  | d :: ds, j, env, h0, h, hq => loop_step mg mb (I (j + 1)) (fun e he => loop_from mg mb I ds (j + 1) e he (fun k d' e' hd hi => by
      have := h (k + 1) d' e' (by simpa using hd) (by rw [show j + (k + 1) = j + 1 + k from by omega]; exact hi)
      rw [show j + (k + 1) = j + 1 + k from by omega] at this
      exact this) (fun e' hi => hq e' (by rw [List.length_cons, show j + (ds.length + 1) = j + 1 + ds.length from by omega]; exact hi))) (h 0 d env rfl h0)
/-- a for's own law: I k holds ahead of the turn k -/
theorem loop_inv {g : WG} {b : WS} {ds : List D} {env : En} {Q : O → Prop} (mg : GtMono g) (mb : SMono b) (I : Nat → En → Prop) (h0 : I 0 env) (h : ∀ k d e, ds[k]? = some d → I k e → g (.sh d) e fun e1 => b e1 (lpK (I (k + 1)) Q)) (hq : ∀ e, I ds.length e → Q (.nx e)) : wLoop g b ds env Q :=
  loop_from mg mb I ds 0 env h0 (fun k d e hd hi => by rw [Nat.zero_add] at hi ⊢; exact h k d e hd hi) (fun e hi => hq e (by rwa [Nat.zero_add] at hi))
theorem wh_inv {wc : WE} {b : WS} {Q : O → Prop} (mc : Mono wc) (mb : SMono b) (I : Nat → En → Prop) (h : ∀ n e, I n e → wc e (rks (asB fun x => match x with
    | true => b e (lpK (fun e' => ∃ m, m < n ∧ I m e') Q)
    | false => Q (.nx e)) Q e)) : ∀ n env, I n env → ∀ t, n < t → wWh wc b t env Q := by
  intro n
  induction n using Nat.strongRecOn with
  | ind n ih =>
    intro env h0 t ht
    cases t with
    | zero => omega
    | succ t =>
      refine mono_rks mc (fun x hx => asB_mono (fun bb z => ?_) hx) (fun r z => z) (h n env h0)
      cases bb with
      | true =>
        refine mb _ _ _ (fun o z => ?_) z
        have go : ∀ e, (∃ m, m < n ∧ I m e) → wWh wc b t e Q := fun e ⟨m, hm, hi⟩ => ih m hm e hi t (by omega)
        cases o with
        | nx e => exact go e z
        | ct e => exact go e z
        | bk e => exact z
        | ret x => exact z
        | ex c fs e => exact z
      | false => exact z
/-- a while's own law -/
theorem while_inv {wc : WE} {b : WS} {env : En} {Q : O → Prop} (mc : Mono wc) (mb : SMono b) (I : Nat → En → Prop) (n : Nat) (h0 : I n env) (h : ∀ n e, I n e → wc e (rks (asB fun x => match x with
    | true => b e (lpK (fun e' => ∃ m, m < n ∧ I m e') Q)
    | false => Q (.nx e)) Q e)) : wWhile wc b env Q := ⟨n + 1, wh_inv mc mb I h n env h0 _ (Nat.lt_succ_self n)⟩
theorem p_dloop (c : Int) (S : D) (Q : O → Prop) : ∀ (ss : List Int) (k : Nat) (rest : Int) (acc : List Int) (x y : Slot), SizesOk ss → acc.length + ss.length ≤ 16777216 → (DigQ ss fun ds => ∀ rest x y, Q (.nx [.sh (.int c), .sh S, .sh (.int rest), .ow (.lst ((acc ++ ds).map D.int)), x, y])) →
    wLoop (gT [4, 5]) w_law_digits_b1 (((ss.map D.int).zipIdx k).map fun (d, i) => D.tup [.int (i : Int), d]) [.sh (.int c), .sh S, .sh (.int rest), .ow (.lst (acc.map D.int)), x, y] Q
  | [], k, rest, acc, x, y, hs, hl, h => by
    have h := h rest x y
    rw [List.append_nil] at h
    exact h
  | s :: ss, k, rest, acc, x, y, hs, hl, h => by
    have hs1 := hs s List.mem_cons_self
    have tail : ∀ r2 : Int, wLoop (gT [4, 5]) w_law_digits_b1 (((ss.map D.int).zipIdx (k+1)).map fun (d, i) => D.tup [.int (i : Int), d]) [.sh (.int c), .sh S, .sh (.int (r2 / s)), .ow (.lst ((acc ++ [r2 % s]).map D.int)), .sh (.int k), .sh (.int s)] Q := fun r2 =>
      p_dloop c S Q ss (k + 1) (r2 / s) (acc ++ [r2 % s]) _ _ (fun z hz => hs z (List.mem_cons_of_mem _ hz)) (by simp at hl ⊢; omega) (by
        have := h (r2 % s) (Int.emod_nonneg _ (by omega)) (Int.emod_lt_of_pos _ hs1.1)
        simpa [List.append_assoc] using this)
    have hl2 : acc.length < 16777216 := by simp at hl; omega
    refine loop_step g_tup wm_law_digits_b1 (fun e => ∃ r2 : Int, e = [.sh (.int c), .sh S, .sh (.int (r2 / s)), .ow (.lst ((acc ++ [r2 % s]).map D.int)), .sh (.int k), .sh (.int s)]) (fun e ⟨r2, he⟩ => he ▸ tail r2) ?_
    simp -implicitDefEqProofs only [↓w_law_digits_b1, ↓lpK, ↓gOf, ↓h_while, ↓ifB_true, ↓ifB_false, ↓fin, ↓h_seq, ↓h_if, ↓wRet, ↓wRetN, ↓wRetV, ↓wAsg, ↓wFrz, ↓wFgt, ↓wDrop, ↓wAug, ↓wNext, ↓wBrk, ↓wCnt, ↓h_for, ↓wApp, ↓wSet, ↓wRaise, ↓wReverse, ↓wClear, ↓gN, ↓gT, ↓wSets, ↓rk, ↓rks, ↓rk0, ↓asB, ↓wVar, ↓wInt, ↓wBl, ↓wStr, ↓wNon, ↓wOp, ↓wUn, ↓wNot, ↓h_and, ↓h_or, ↓h_ite, ↓aNil, ↓aCons, ↓wTup, ↓wLst, ↓outK, ↓h_call, ↓oAdd, ↓oSub, ↓oMul, ↓oMod, ↓oDiv, ↓oPow, ↓oI0, ↓oI, ↓oLt, ↓oLe, ↓oGt, ↓oGe, ↓oNeg, ↓oIsB, ↓oIsN, ↓oEq, ↓oIx, ↓oIxN, ↓oIxL, ↓itemOf, ↓oLen, ↓oMin, ↓oMax, ↓oSum, ↓oList, ↓oDict, ↓oIsi, ↓wSlice, ↓wNoP, ↓wPart, ↓wIter, ↓stillK, ↓wRng1, ↓wRng2, ↓ints1, ↓ints2, ↓wEnum, ↓lst1, ↓wZip, ↓lst2, ↓wGet, ↓getOf, ↓wTru, ↓truOf, ↓h_chain, ↓wDnK, ↓wDnT, ↓h_lc, ↓unAt, Bool.decide_eq_true, Bool.decide_eq_false, Bool.and_true, Bool.and_false, Bool.true_and, Bool.false_and, beq_self_eq_true, Bool.true_beq, Bool.false_beq, decide_true, decide_false, eqok_int, eqok_bl, eqok_str, eqD_int, eqD_bl, eqD_str, frzS, stabs, Slot.stab, Slot.dat, Slot.arg, lenOf, enumD, zipD, List.set_cons_zero, List.set_cons_succ, List.getElem?_cons_zero, List.getElem?_cons_succ, List.getElem?_nil, List.length_cons, List.length_nil, List.cons_append, List.nil_append, List.reduceReplicate, List.map_cons, List.map_nil, Nat.reduceAdd, Nat.reduceSub, Nat.reduceLT, Nat.reduceLeDiff, Nat.zero_add, Nat.add_zero, true_and, and_true, Nat.zero_lt_succ, Int.reduceToNat, Int.reducePow, List.length_map, Int.reduceAdd, Nat.lt_add_one, Bool.true_xor, Bool.false_xor, Bool.not_not, rangeD_cons, rangeD_zero, Bool.not_true, Bool.not_false, fin, rk, rks, rk0, asB, outK, stillK, ints1, ints2, lst1, lst2, wSets, itemOf, truOf, getOf, ifB_true, ifB_false, k_nx, k_ret, k_bk, k_ct, k_ex]
    refine ifB_join ?_ ?_
    · simp -implicitDefEqProofs only [↓gOf, ↓h_while, ↓ifB_true, ↓ifB_false, ↓fin, ↓h_seq, ↓h_if, ↓wRet, ↓wRetN, ↓wRetV, ↓wAsg, ↓wFrz, ↓wFgt, ↓wDrop, ↓wAug, ↓wNext, ↓wBrk, ↓wCnt, ↓h_for, ↓wApp, ↓wSet, ↓wRaise, ↓wReverse, ↓wClear, ↓gN, ↓gT, ↓wSets, ↓rk, ↓rks, ↓rk0, ↓asB, ↓wVar, ↓wInt, ↓wBl, ↓wStr, ↓wNon, ↓wOp, ↓wUn, ↓wNot, ↓h_and, ↓h_or, ↓h_ite, ↓aNil, ↓aCons, ↓wTup, ↓wLst, ↓outK, ↓h_call, ↓oAdd, ↓oSub, ↓oMul, ↓oMod, ↓oDiv, ↓oPow, ↓oI0, ↓oI, ↓oLt, ↓oLe, ↓oGt, ↓oGe, ↓oNeg, ↓oIsB, ↓oIsN, ↓oEq, ↓oIx, ↓oIxN, ↓oIxL, ↓itemOf, ↓oLen, ↓oMin, ↓oMax, ↓oSum, ↓oList, ↓oDict, ↓oIsi, ↓wSlice, ↓wNoP, ↓wPart, ↓wIter, ↓stillK, ↓wRng1, ↓wRng2, ↓ints1, ↓ints2, ↓wEnum, ↓lst1, ↓wZip, ↓lst2, ↓wGet, ↓getOf, ↓wTru, ↓truOf, ↓h_chain, ↓wDnK, ↓wDnT, ↓h_lc, ↓unAt, Bool.decide_eq_true, Bool.decide_eq_false, Bool.and_true, Bool.and_false, Bool.true_and, Bool.false_and, beq_self_eq_true, Bool.true_beq, Bool.false_beq, decide_true, decide_false, eqok_int, eqok_bl, eqok_str, eqD_int, eqD_bl, eqD_str, frzS, stabs, Slot.stab, Slot.dat, Slot.arg, lenOf, enumD, zipD, List.set_cons_zero, List.set_cons_succ, List.getElem?_cons_zero, List.getElem?_cons_succ, List.getElem?_nil, List.length_cons, List.length_nil, List.cons_append, List.nil_append, List.reduceReplicate, List.map_cons, List.map_nil, Nat.reduceAdd, Nat.reduceSub, Nat.reduceLT, Nat.reduceLeDiff, Nat.zero_add, Nat.add_zero, true_and, and_true, Nat.zero_lt_succ, Int.reduceToNat, Int.reducePow, List.length_map, Int.reduceAdd, Nat.lt_add_one, Bool.true_xor, Bool.false_xor, Bool.not_not, rangeD_cons, rangeD_zero, Bool.not_true, Bool.not_false, fin, rk, rks, rk0, asB, outK, stillK, ints1, ints2, lst1, lst2, wSets, itemOf, truOf, getOf, ifB_true, ifB_false, k_nx, k_ret, k_bk, k_ct, k_ex]
      refine ⟨.inl (by omega), by decide, p_seed _ _ fun r => hold ?_⟩
      simp -implicitDefEqProofs only [↓lpK, ↓gOf, ↓h_while, ↓ifB_true, ↓ifB_false, ↓fin, ↓h_seq, ↓h_if, ↓wRet, ↓wRetN, ↓wRetV, ↓wAsg, ↓wFrz, ↓wFgt, ↓wDrop, ↓wAug, ↓wNext, ↓wBrk, ↓wCnt, ↓h_for, ↓wApp, ↓wSet, ↓wRaise, ↓wReverse, ↓wClear, ↓gN, ↓gT, ↓wSets, ↓rk, ↓rks, ↓rk0, ↓asB, ↓wVar, ↓wInt, ↓wBl, ↓wStr, ↓wNon, ↓wOp, ↓wUn, ↓wNot, ↓h_and, ↓h_or, ↓h_ite, ↓aNil, ↓aCons, ↓wTup, ↓wLst, ↓outK, ↓h_call, ↓oAdd, ↓oSub, ↓oMul, ↓oMod, ↓oDiv, ↓oPow, ↓oI0, ↓oI, ↓oLt, ↓oLe, ↓oGt, ↓oGe, ↓oNeg, ↓oIsB, ↓oIsN, ↓oEq, ↓oIx, ↓oIxN, ↓oIxL, ↓itemOf, ↓oLen, ↓oMin, ↓oMax, ↓oSum, ↓oList, ↓oDict, ↓oIsi, ↓wSlice, ↓wNoP, ↓wPart, ↓wIter, ↓stillK, ↓wRng1, ↓wRng2, ↓ints1, ↓ints2, ↓wEnum, ↓lst1, ↓wZip, ↓lst2, ↓wGet, ↓getOf, ↓wTru, ↓truOf, ↓h_chain, ↓wDnK, ↓wDnT, ↓h_lc, ↓unAt, Bool.decide_eq_true, Bool.decide_eq_false, Bool.and_true, Bool.and_false, Bool.true_and, Bool.false_and, beq_self_eq_true, Bool.true_beq, Bool.false_beq, decide_true, decide_false, eqok_int, eqok_bl, eqok_str, eqD_int, eqD_bl, eqD_str, frzS, stabs, Slot.stab, Slot.dat, Slot.arg, lenOf, enumD, zipD, List.set_cons_zero, List.set_cons_succ, List.getElem?_cons_zero, List.getElem?_cons_succ, List.getElem?_nil, List.length_cons, List.length_nil, List.cons_append, List.nil_append, List.reduceReplicate, List.map_cons, List.map_nil, Nat.reduceAdd, Nat.reduceSub, Nat.reduceLT, Nat.reduceLeDiff, Nat.zero_add, Nat.add_zero, true_and, and_true, Nat.zero_lt_succ, Int.reduceToNat, Int.reducePow, List.length_map, Int.reduceAdd, Nat.lt_add_one, Bool.true_xor, Bool.false_xor, Bool.not_not, rangeD_cons, rangeD_zero, Bool.not_true, Bool.not_false, fin, rk, rks, rk0, asB, outK, stillK, ints1, ints2, lst1, lst2, wSets, itemOf, truOf, getOf, ifB_true, ifB_false, k_nx, k_ret, k_bk, k_ct, k_ex]
      exact ⟨hs1.1, hl2, divW_of hs1, r, by rw [List.map_append]; rfl⟩
    · simp -implicitDefEqProofs only [↓lpK, ↓gOf, ↓h_while, ↓ifB_true, ↓ifB_false, ↓fin, ↓h_seq, ↓h_if, ↓wRet, ↓wRetN, ↓wRetV, ↓wAsg, ↓wFrz, ↓wFgt, ↓wDrop, ↓wAug, ↓wNext, ↓wBrk, ↓wCnt, ↓h_for, ↓wApp, ↓wSet, ↓wRaise, ↓wReverse, ↓wClear, ↓gN, ↓gT, ↓wSets, ↓rk, ↓rks, ↓rk0, ↓asB, ↓wVar, ↓wInt, ↓wBl, ↓wStr, ↓wNon, ↓wOp, ↓wUn, ↓wNot, ↓h_and, ↓h_or, ↓h_ite, ↓aNil, ↓aCons, ↓wTup, ↓wLst, ↓outK, ↓h_call, ↓oAdd, ↓oSub, ↓oMul, ↓oMod, ↓oDiv, ↓oPow, ↓oI0, ↓oI, ↓oLt, ↓oLe, ↓oGt, ↓oGe, ↓oNeg, ↓oIsB, ↓oIsN, ↓oEq, ↓oIx, ↓oIxN, ↓oIxL, ↓itemOf, ↓oLen, ↓oMin, ↓oMax, ↓oSum, ↓oList, ↓oDict, ↓oIsi, ↓wSlice, ↓wNoP, ↓wPart, ↓wIter, ↓stillK, ↓wRng1, ↓wRng2, ↓ints1, ↓ints2, ↓wEnum, ↓lst1, ↓wZip, ↓lst2, ↓wGet, ↓getOf, ↓wTru, ↓truOf, ↓h_chain, ↓wDnK, ↓wDnT, ↓h_lc, ↓unAt, Bool.decide_eq_true, Bool.decide_eq_false, Bool.and_true, Bool.and_false, Bool.true_and, Bool.false_and, beq_self_eq_true, Bool.true_beq, Bool.false_beq, decide_true, decide_false, eqok_int, eqok_bl, eqok_str, eqD_int, eqD_bl, eqD_str, frzS, stabs, Slot.stab, Slot.dat, Slot.arg, lenOf, enumD, zipD, List.set_cons_zero, List.set_cons_succ, List.getElem?_cons_zero, List.getElem?_cons_succ, List.getElem?_nil, List.length_cons, List.length_nil, List.cons_append, List.nil_append, List.reduceReplicate, List.map_cons, List.map_nil, Nat.reduceAdd, Nat.reduceSub, Nat.reduceLT, Nat.reduceLeDiff, Nat.zero_add, Nat.add_zero, true_and, and_true, Nat.zero_lt_succ, Int.reduceToNat, Int.reducePow, List.length_map, Int.reduceAdd, Nat.lt_add_one, Bool.true_xor, Bool.false_xor, Bool.not_not, rangeD_cons, rangeD_zero, Bool.not_true, Bool.not_false, fin, rk, rks, rk0, asB, outK, stillK, ints1, ints2, lst1, lst2, wSets, itemOf, truOf, getOf, ifB_true, ifB_false, k_nx, k_ret, k_bk, k_ct, k_ex]
      exact ⟨hs1.1, hl2, divW_of hs1, rest, by rw [List.map_append]; rfl⟩
theorem p_digits (ss : List Int) (hs : SizesOk ss) (hl : ss.length ≤ 16777216) (c : Int) (Q : R Slot → Prop) (h : DigQ ss fun ds => Q (.ok (.ow (.lst (ds.map D.int))))) : g_law_digits [.sh (.int c), .sh (.lst (ss.map D.int))] Q := by
  show gOf 6 w_law_digits _ Q
  have hb : w_law_digits = (wSeq (wAsg (gN 2) (wCall g_law_seed (aCons (wVar 0) aNil)))
   (wSeq (wAsg (gN 3) (wLst aNil))
   (wSeq (wFrz 1 (wFor (gT [4, 5]) (wEnum (aCons (wVar 1) aNil)) w_law_digits_b1)) (wRetV 3)))) := rfl
  rw [hb]
  simp only [gOf, fin, wSeq, wAsg, gN, wFrz, frzS, wFor, wEnum, lst1, aCons, aNil, wVar, wLst, stabs, wCall, rk, rks, outK, Slot.arg, wRetV, List.map_cons, List.map_nil, List.set_cons_zero, List.set_cons_succ, List.getElem?_cons_zero, List.getElem?_cons_succ, List.length_cons, List.length_nil, List.cons_append, List.nil_append, List.reduceReplicate, Nat.reduceAdd, Nat.reduceSub, Nat.reduceLT, Nat.reduceLeDiff, true_and]
  refine p_seed _ _ fun r => ?_
  refine p_dloop c (.lst (ss.map D.int)) _ ss 0 r [] _ _ hs (by simpa using hl) ?_
  have go : ∀ (ss : List Int) (k k' : List Int → Prop), (∀ ds, k ds → k' ds) → DigQ ss k → DigQ ss k' := by
    intro ss
    induction ss with
    | nil => exact fun k k' m h => m _ h
    | cons s ss ih => exact fun k k' m h d h1 h2 => ih _ _ (fun ds z => m _ z) (h d h1 h2)
  exact go ss _ _ (fun ds z rest x y => by
    rw [List.nil_append]; exact z) h

end DL

set_option Elab.async false
set_option linter.all false
set_option maxRecDepth 100000
set_option maxHeartbeats 4000000
namespace DL
open PySem PySem.Spec PyProof.Rows L2
/-- ahead(one, other): 0 one 1 other -/
def w_ahead : WS :=
 (wSeq (wIf (wOp (oEq true) (wUn (oIxN 0) (wVar 0)) (wUn (oIxN 0) (wVar 1)))
 (wRet (wOp oLt (wUn (oIxN 0) (wVar 0)) (wUn (oIxN 0) (wVar 1))))
 wNext)
 (wSeq (wIf (wOp (oEq true) (wUn (oIxN 1) (wVar 0)) (wUn (oIxN 1) (wVar 1)))
 (wRet (wOp oLt (wUn (oIxN 1) (wVar 0)) (wUn (oIxN 1) (wVar 1))))
 wNext)
 (wRet (wOp oLt (wUn (oIxN 2) (wVar 0)) (wUn (oIxN 2) (wVar 1))))))
theorem wm_ahead : SMono w_ahead := (mono_seq (m_if (mono_op (mono_un (m_var 0) oIxN_mono) (mono_un (m_var 1) oIxN_mono) oEq_mono) (m_ret (mono_op (mono_un (m_var 0) oIxN_mono) (mono_un (m_var 1) oIxN_mono) oI0_mono)) m_next) (mono_seq (m_if (mono_op (mono_un (m_var 0) oIxN_mono) (mono_un (m_var 1) oIxN_mono) oEq_mono) (m_ret (mono_op (mono_un (m_var 0) oIxN_mono) (mono_un (m_var 1) oIxN_mono) oI0_mono)) m_next) (m_ret (mono_op (mono_un (m_var 0) oIxN_mono) (mono_un (m_var 1) oIxN_mono) oI0_mono))))
def g_ahead : G := gOf 2 w_ahead
theorem gm_ahead : GMono g_ahead := gOf_mono wm_ahead
/-- _law_entry(_law_cell_here): 0 law_cell_here 1 law_big 2 law_rank 3 law_small 4 law_number 5 law_year 6 law_way 7 law_own -/
def w_law_entry : WS :=
 (wSeq (wAsg (gN 1) (wOp oAdd (wOp oPow (wInt 10) (wInt 12)) (wInt 1)))
 (wSeq (wFrz 1 (wAsg (gT [2, 3, 4, 5, 6, 7]) (wCall g_law_digits (aCons (wVar 0) (aCons (wLst (aCons (wInt 9) (aCons (wInt 2) (aCons (wVar 1) (aCons (wVar 1) (aCons (wInt 3) (aCons (wVar 1) aNil))))))) aNil)))))
 (wSeq (wIf (wOp (oEq false) (wVar 3) (wInt 0))
 (wSeq (wAsg (gN 4) (wOp oMod (wVar 4) (wInt 12)))
 (wAsg (gN 5) (wOp oMod (wVar 5) (wInt 12))))
 wNext)
 (wFrz 7 (wFrz 5 (wFrz 4 (wRet (wTup (aCons (wOp oAdd (wInt 1) (wVar 2)) (aCons (wVar 4) (aCons (wVar 5) (aCons (wOp oIx (wLst (aCons (wStr (PySem.Str.ofString "moves")) (aCons (wStr (PySem.Str.ofString "stays")) (aCons (wStr (PySem.Str.ofString "lapses")) aNil)))) (wVar 6)) (aCons (wVar 7) aNil)))))))))))))
theorem wm_law_entry : SMono w_law_entry := (mono_seq (mono_asg g_name (mono_op (mono_op m_int m_int oI_mono) m_int oI0_mono)) (mono_seq (m_frz (mono_asg g_tup (m_call gm_law_digits (m_cons (m_var 0) (m_cons (m_lst (m_cons m_int (m_cons m_int (m_cons (m_var 1) (m_cons (m_var 1) (m_cons m_int (m_cons (m_var 1) m_nil))))))) m_nil))))) (mono_seq (m_if (mono_op (m_var 3) m_int oEq_mono) (mono_seq (mono_asg g_name (mono_op (m_var 4) m_int oI_mono)) (mono_asg g_name (mono_op (m_var 5) m_int oI_mono))) m_next) (m_frz (m_frz (m_frz (m_ret (m_tup (m_cons (mono_op m_int (m_var 2) oI0_mono) (m_cons (m_var 4) (m_cons (m_var 5) (m_cons (mono_op (m_lst (m_cons m_str (m_cons m_str (m_cons m_str m_nil)))) (m_var 6) oIx_mono) (m_cons (m_var 7) m_nil)))))))))))))
def g_law_entry : G := gOf 8 w_law_entry
theorem gm_law_entry : GMono g_law_entry := gOf_mono wm_law_entry
/-- _law_due(_law_one, _law_other): 0 law_one 1 law_other 2 law_place -/
def w_law_due_b1 : WS :=
 (wIf (wOp (oEq true) (wOp oIx (wVar 0) (wVar 2)) (wOp oIx (wVar 1) (wVar 2)))
 (wRet (wOp oLt (wOp oIx (wVar 0) (wVar 2)) (wOp oIx (wVar 1) (wVar 2))))
 wNext)
theorem wm_law_due_b1 : SMono w_law_due_b1 := (m_if (mono_op (mono_op (m_var 0) (m_var 2) oIx_mono) (mono_op (m_var 1) (m_var 2) oIx_mono) oEq_mono) (m_ret (mono_op (mono_op (m_var 0) (m_var 2) oIx_mono) (mono_op (m_var 1) (m_var 2) oIx_mono) oI0_mono)) m_next)
def w_law_due : WS :=
 (wSeq (wFor (gN 2) (wRng1 (aCons (wInt 3) aNil))
 w_law_due_b1)
 (wRet (wBl false)))
theorem wm_law_due : SMono w_law_due := (mono_seq (m_for g_name (m_rng1 (m_cons m_int m_nil)) wm_law_due_b1) (m_ret m_bl))
def g_law_due : G := gOf 3 w_law_due
theorem gm_law_due : GMono g_law_due := gOf_mono wm_law_due
/-- law(_law_script): 0 law_script 1 law_one 2 law_other 3 law_choice 4 law_alike 5 law_first 6 law_second -/
def w_law_t9 : WS :=
 (wSeq (wAsg (gN 5) (wCall g_ahead (aCons (wVar 1) (aCons (wVar 2) aNil))))
 (wSeq (wAsg (gN 6) (wCall g_ahead (aCons (wVar 2) (aCons (wVar 1) aNil))))
 (wSeq (wIf (wOr (wAnd (wOp (oIsB true) (wVar 5) (wBl true)) (wOp (oIsB true) (wVar 5) (wBl false))) (wAnd (wOp (oIsB true) (wVar 6) (wBl true)) (wOp (oIsB true) (wVar 6) (wBl false))))
 (wRet (wBl false))
 wNext)
 (wRet (wAnd (wOp (oEq false) (wVar 5) (wCall g_law_due (aCons (wVar 1) (aCons (wVar 2) aNil)))) (wAnd (wOp (oEq false) (wVar 6) (wCall g_law_due (aCons (wVar 2) (aCons (wVar 1) aNil)))) (wOp (oEq true) (wVar 5) (wVar 6))))))))
theorem wm_law_t9 : SMono w_law_t9 := (mono_seq (mono_asg g_name (m_call gm_ahead (m_cons (m_var 1) (m_cons (m_var 2) m_nil)))) (mono_seq (mono_asg g_name (m_call gm_ahead (m_cons (m_var 2) (m_cons (m_var 1) m_nil)))) (mono_seq (m_if (mono_or (mono_and (mono_op (m_var 5) m_bl oIsB_mono) (mono_op (m_var 5) m_bl oIsB_mono)) (mono_and (mono_op (m_var 6) m_bl oIsB_mono) (mono_op (m_var 6) m_bl oIsB_mono))) (m_ret m_bl) m_next) (m_ret (mono_and (mono_op (m_var 5) (m_call gm_law_due (m_cons (m_var 1) (m_cons (m_var 2) m_nil))) oEq_mono) (mono_and (mono_op (m_var 6) (m_call gm_law_due (m_cons (m_var 2) (m_cons (m_var 1) m_nil))) oEq_mono) (mono_op (m_var 5) (m_var 6) oEq_mono)))))))
def w_law_t6 : WS :=
 (wSeq (wAsg (gN 4) (wTup (aCons (wUn (oIxN 0) (wVar 1)) (aCons (wUn (oIxN 1) (wVar 1)) (aCons (wUn (oIxN 2) (wVar 1)) (aCons (wUn (oIxN 3) (wVar 2)) (aCons (wUn (oIxN 4) (wVar 2)) aNil)))))))
 (wSeq (wIf (wOr (wOp (oIsB true) (wCall g_ahead (aCons (wVar 1) (aCons (wVar 1) aNil))) (wBl false)) (wOr (wOp (oIsB true) (wCall g_ahead (aCons (wVar 1) (aCons (wVar 4) aNil))) (wBl false)) (wOp (oIsB true) (wCall g_ahead (aCons (wVar 4) (aCons (wVar 1) aNil))) (wBl false))))
 (wRet (wBl false))
 wNext)
 (wSeq (wIf (wAnd (wOp (oEq false) (wUn (oIxN 1) (wVar 1)) (wUn (oIxN 1) (wVar 2))) (wOp (oEq false) (wUn (oIxN 2) (wVar 1)) (wUn (oIxN 2) (wVar 2))))
 (wRet (wBl true))
 wNext)
 w_law_t9)))
theorem wm_law_t6 : SMono w_law_t6 := (mono_seq (mono_asg g_name (m_tup (m_cons (mono_un (m_var 1) oIxN_mono) (m_cons (mono_un (m_var 1) oIxN_mono) (m_cons (mono_un (m_var 1) oIxN_mono) (m_cons (mono_un (m_var 2) oIxN_mono) (m_cons (mono_un (m_var 2) oIxN_mono) m_nil))))))) (mono_seq (m_if (mono_or (mono_op (m_call gm_ahead (m_cons (m_var 1) (m_cons (m_var 1) m_nil))) m_bl oIsB_mono) (mono_or (mono_op (m_call gm_ahead (m_cons (m_var 1) (m_cons (m_var 4) m_nil))) m_bl oIsB_mono) (mono_op (m_call gm_ahead (m_cons (m_var 4) (m_cons (m_var 1) m_nil))) m_bl oIsB_mono))) (m_ret m_bl) m_next) (mono_seq (m_if (mono_and (mono_op (mono_un (m_var 1) oIxN_mono) (mono_un (m_var 2) oIxN_mono) oEq_mono) (mono_op (mono_un (m_var 1) oIxN_mono) (mono_un (m_var 2) oIxN_mono) oEq_mono)) (m_ret m_bl) m_next) wm_law_t9)))
def w_law : WS :=
 (wSeq (wAsg (gN 1) (wCall g_law_entry (aCons (wCall g_law_cell (aCons (wVar 0) (aCons (wInt 1) aNil))) aNil)))
 (wSeq (wAsg (gN 2) (wCall g_law_entry (aCons (wCall g_law_cell (aCons (wVar 0) (aCons (wInt 2) aNil))) aNil)))
 (wSeq (wAsg (gN 3) (wUn (oIxN 0) (wCall g_law_digits (aCons (wCall g_law_cell (aCons (wVar 0) (aCons (wInt 0) aNil))) (aCons (wLst (aCons (wInt 4) aNil)) aNil)))))
 (wSeq (wIf (wOp (oEq false) (wVar 3) (wInt 1))
 (wAsg (gN 2) (wTup (aCons (wUn (oIxN 0) (wVar 1)) (aCons (wUn (oIxN 1) (wVar 2)) (aCons (wUn (oIxN 2) (wVar 2)) (aCons (wUn (oIxN 3) (wVar 2)) (aCons (wUn (oIxN 4) (wVar 2)) aNil)))))))
 wNext)
 (wSeq (wIf (wOp (oEq false) (wVar 3) (wInt 2))
 (wAsg (gN 2) (wTup (aCons (wUn (oIxN 0) (wVar 1)) (aCons (wUn (oIxN 1) (wVar 1)) (aCons (wUn (oIxN 2) (wVar 2)) (aCons (wUn (oIxN 3) (wVar 2)) (aCons (wUn (oIxN 4) (wVar 2)) aNil)))))))
 wNext)
 (wSeq (wIf (wOp (oEq false) (wVar 3) (wInt 3))
 (wAsg (gN 2) (wTup (aCons (wUn (oIxN 0) (wVar 1)) (aCons (wOp oMax (wInt 0) (wOp oSub (wUn (oIxN 1) (wVar 1)) (wInt 1))) (aCons (wUn (oIxN 2) (wVar 2)) (aCons (wUn (oIxN 3) (wVar 1)) (aCons (wUn (oIxN 4) (wVar 1)) aNil)))))))
 wNext)
 w_law_t6))))))
theorem wm_law : SMono w_law := (mono_seq (mono_asg g_name (m_call gm_law_entry (m_cons (m_call gm_law_cell (m_cons (m_var 0) (m_cons m_int m_nil))) m_nil))) (mono_seq (mono_asg g_name (m_call gm_law_entry (m_cons (m_call gm_law_cell (m_cons (m_var 0) (m_cons m_int m_nil))) m_nil))) (mono_seq (mono_asg g_name (mono_un (m_call gm_law_digits (m_cons (m_call gm_law_cell (m_cons (m_var 0) (m_cons m_int m_nil))) (m_cons (m_lst (m_cons m_int m_nil)) m_nil))) oIxN_mono)) (mono_seq (m_if (mono_op (m_var 3) m_int oEq_mono) (mono_asg g_name (m_tup (m_cons (mono_un (m_var 1) oIxN_mono) (m_cons (mono_un (m_var 2) oIxN_mono) (m_cons (mono_un (m_var 2) oIxN_mono) (m_cons (mono_un (m_var 2) oIxN_mono) (m_cons (mono_un (m_var 2) oIxN_mono) m_nil))))))) m_next) (mono_seq (m_if (mono_op (m_var 3) m_int oEq_mono) (mono_asg g_name (m_tup (m_cons (mono_un (m_var 1) oIxN_mono) (m_cons (mono_un (m_var 1) oIxN_mono) (m_cons (mono_un (m_var 2) oIxN_mono) (m_cons (mono_un (m_var 2) oIxN_mono) (m_cons (mono_un (m_var 2) oIxN_mono) m_nil))))))) m_next) (mono_seq (m_if (mono_op (m_var 3) m_int oEq_mono) (mono_asg g_name (m_tup (m_cons (mono_un (m_var 1) oIxN_mono) (m_cons (mono_op m_int (mono_op (mono_un (m_var 1) oIxN_mono) m_int oI0_mono) oI0_mono) (m_cons (mono_un (m_var 2) oIxN_mono) (m_cons (mono_un (m_var 1) oIxN_mono) (m_cons (mono_un (m_var 1) oIxN_mono) m_nil))))))) m_next) wm_law_t6))))))
def g_law : G := gOf 7 w_law
theorem gm_law : GMono g_law := gOf_mono wm_law

-- SET ent
-- CUT law 6 9
def lexB (a n y a' n' y' : Int) : Bool := if a = a' then (if n = n' then decide (y < y') else decide (n < n')) else decide (a < a')
def ent (a n y : Int) (z w : D) : D := .tup [.int a, .int n, .int y, z, w]
theorem p_entry (c : Int) (Q : R Slot → Prop) (h : ∀ (a n y : Int) (z w : D), Q (.ok (.sh (ent a n y z w)))) : g_law_entry [.sh (.int c)] Q := by
  simp -implicitDefEqProofs only [↓g_law_entry, ↓w_law_entry, ↓gOf, ↓h_while, ↓ifB_true, ↓ifB_false, ↓fin, ↓h_seq, ↓h_if, ↓wRet, ↓wRetN, ↓wRetV, ↓wAsg, ↓wFrz, ↓wFgt, ↓wDrop, ↓wAug, ↓wNext, ↓wBrk, ↓wCnt, ↓h_for, ↓wApp, ↓wSet, ↓wRaise, ↓wReverse, ↓wClear, ↓gN, ↓gT, ↓wSets, ↓rk, ↓rks, ↓rk0, ↓asB, ↓wVar, ↓wInt, ↓wBl, ↓wStr, ↓wNon, ↓wOp, ↓wUn, ↓wNot, ↓h_and, ↓h_or, ↓h_ite, ↓aNil, ↓aCons, ↓wTup, ↓wLst, ↓outK, ↓h_call, ↓oAdd, ↓oSub, ↓oMul, ↓oMod, ↓oDiv, ↓oPow, ↓oI0, ↓oI, ↓oLt, ↓oLe, ↓oGt, ↓oGe, ↓oNeg, ↓oIsB, ↓oIsN, ↓oEq, ↓oIx, ↓oIxN, ↓oIxL, ↓itemOf, ↓oLen, ↓oMin, ↓oMax, ↓oSum, ↓oList, ↓oDict, ↓oIsi, ↓wSlice, ↓wNoP, ↓wPart, ↓wIter, ↓stillK, ↓wRng1, ↓wRng2, ↓ints1, ↓ints2, ↓wEnum, ↓lst1, ↓wZip, ↓lst2, ↓wGet, ↓getOf, ↓wTru, ↓truOf, ↓h_chain, ↓wDnK, ↓wDnT, ↓h_lc, ↓unAt, Bool.decide_eq_true, Bool.decide_eq_false, Bool.and_true, Bool.and_false, Bool.true_and, Bool.false_and, beq_self_eq_true, Bool.true_beq, Bool.false_beq, decide_true, decide_false, eqok_int, eqok_bl, eqok_str, eqD_int, eqD_bl, eqD_str, frzS, stabs, Slot.stab, Slot.dat, Slot.arg, lenOf, enumD, zipD, List.set_cons_zero, List.set_cons_succ, List.getElem?_cons_zero, List.getElem?_cons_succ, List.getElem?_nil, List.length_cons, List.length_nil, List.cons_append, List.nil_append, List.reduceReplicate, List.map_cons, List.map_nil, Nat.reduceAdd, Nat.reduceSub, Nat.reduceLT, Nat.reduceLeDiff, Nat.zero_add, Nat.add_zero, true_and, and_true, Nat.zero_lt_succ, Int.reduceToNat, Int.reducePow, List.length_map, Int.reduceAdd, Nat.lt_add_one, Bool.true_xor, Bool.false_xor, Bool.not_not, rangeD_cons, rangeD_zero, Bool.not_true, Bool.not_false, fin, rk, rks, rk0, asB, outK, stillK, ints1, ints2, lst1, lst2, wSets, itemOf, truOf, getOf, ifB_true, ifB_false, k_nx, k_ret, k_bk, k_ct, k_ex, ent, ↓lpK, lpK, ↓DigQ]
  refine ⟨⟨by decide, by decide, by decide⟩, p_digits [9, 2, 1000000000001, 1000000000001, 3, 1000000000001] (by unfold SizesOk; decide) (by decide) c _ ?_⟩
  simp -implicitDefEqProofs only [↓gOf, ↓h_while, ↓ifB_true, ↓ifB_false, ↓fin, ↓h_seq, ↓h_if, ↓wRet, ↓wRetN, ↓wRetV, ↓wAsg, ↓wFrz, ↓wFgt, ↓wDrop, ↓wAug, ↓wNext, ↓wBrk, ↓wCnt, ↓h_for, ↓wApp, ↓wSet, ↓wRaise, ↓wReverse, ↓wClear, ↓gN, ↓gT, ↓wSets, ↓rk, ↓rks, ↓rk0, ↓asB, ↓wVar, ↓wInt, ↓wBl, ↓wStr, ↓wNon, ↓wOp, ↓wUn, ↓wNot, ↓h_and, ↓h_or, ↓h_ite, ↓aNil, ↓aCons, ↓wTup, ↓wLst, ↓outK, ↓h_call, ↓oAdd, ↓oSub, ↓oMul, ↓oMod, ↓oDiv, ↓oPow, ↓oI0, ↓oI, ↓oLt, ↓oLe, ↓oGt, ↓oGe, ↓oNeg, ↓oIsB, ↓oIsN, ↓oEq, ↓oIx, ↓oIxN, ↓oIxL, ↓itemOf, ↓oLen, ↓oMin, ↓oMax, ↓oSum, ↓oList, ↓oDict, ↓oIsi, ↓wSlice, ↓wNoP, ↓wPart, ↓wIter, ↓stillK, ↓wRng1, ↓wRng2, ↓ints1, ↓ints2, ↓wEnum, ↓lst1, ↓wZip, ↓lst2, ↓wGet, ↓getOf, ↓wTru, ↓truOf, ↓h_chain, ↓wDnK, ↓wDnT, ↓h_lc, ↓unAt, Bool.decide_eq_true, Bool.decide_eq_false, Bool.and_true, Bool.and_false, Bool.true_and, Bool.false_and, beq_self_eq_true, Bool.true_beq, Bool.false_beq, decide_true, decide_false, eqok_int, eqok_bl, eqok_str, eqD_int, eqD_bl, eqD_str, frzS, stabs, Slot.stab, Slot.dat, Slot.arg, lenOf, enumD, zipD, List.set_cons_zero, List.set_cons_succ, List.getElem?_cons_zero, List.getElem?_cons_succ, List.getElem?_nil, List.length_cons, List.length_nil, List.cons_append, List.nil_append, List.reduceReplicate, List.map_cons, List.map_nil, Nat.reduceAdd, Nat.reduceSub, Nat.reduceLT, Nat.reduceLeDiff, Nat.zero_add, Nat.add_zero, true_and, and_true, Nat.zero_lt_succ, Int.reduceToNat, Int.reducePow, List.length_map, Int.reduceAdd, Nat.lt_add_one, Bool.true_xor, Bool.false_xor, Bool.not_not, rangeD_cons, rangeD_zero, Bool.not_true, Bool.not_false, fin, rk, rks, rk0, asB, outK, stillK, ints1, ints2, lst1, lst2, wSets, itemOf, truOf, getOf, ifB_true, ifB_false, k_nx, k_ret, k_bk, k_ct, k_ex, ent, ↓lpK, lpK, ↓DigQ]
  intro a a1 a2 b b1 b2 c c1 c2 d d1 d2 e e1 e2 f f1 f2
  refine hold ?_
  simp -implicitDefEqProofs only [↓gOf, ↓h_while, ↓ifB_true, ↓ifB_false, ↓fin, ↓h_seq, ↓h_if, ↓wRet, ↓wRetN, ↓wRetV, ↓wAsg, ↓wFrz, ↓wFgt, ↓wDrop, ↓wAug, ↓wNext, ↓wBrk, ↓wCnt, ↓h_for, ↓wApp, ↓wSet, ↓wRaise, ↓wReverse, ↓wClear, ↓gN, ↓gT, ↓wSets, ↓rk, ↓rks, ↓rk0, ↓asB, ↓wVar, ↓wInt, ↓wBl, ↓wStr, ↓wNon, ↓wOp, ↓wUn, ↓wNot, ↓h_and, ↓h_or, ↓h_ite, ↓aNil, ↓aCons, ↓wTup, ↓wLst, ↓outK, ↓h_call, ↓oAdd, ↓oSub, ↓oMul, ↓oMod, ↓oDiv, ↓oPow, ↓oI0, ↓oI, ↓oLt, ↓oLe, ↓oGt, ↓oGe, ↓oNeg, ↓oIsB, ↓oIsN, ↓oEq, ↓oIx, ↓oIxN, ↓oIxL, ↓itemOf, ↓oLen, ↓oMin, ↓oMax, ↓oSum, ↓oList, ↓oDict, ↓oIsi, ↓wSlice, ↓wNoP, ↓wPart, ↓wIter, ↓stillK, ↓wRng1, ↓wRng2, ↓ints1, ↓ints2, ↓wEnum, ↓lst1, ↓wZip, ↓lst2, ↓wGet, ↓getOf, ↓wTru, ↓truOf, ↓h_chain, ↓wDnK, ↓wDnT, ↓h_lc, ↓unAt, Bool.decide_eq_true, Bool.decide_eq_false, Bool.and_true, Bool.and_false, Bool.true_and, Bool.false_and, beq_self_eq_true, Bool.true_beq, Bool.false_beq, decide_true, decide_false, eqok_int, eqok_bl, eqok_str, eqD_int, eqD_bl, eqD_str, frzS, stabs, Slot.stab, Slot.dat, Slot.arg, lenOf, enumD, zipD, List.set_cons_zero, List.set_cons_succ, List.getElem?_cons_zero, List.getElem?_cons_succ, List.getElem?_nil, List.length_cons, List.length_nil, List.cons_append, List.nil_append, List.reduceReplicate, List.map_cons, List.map_nil, Nat.reduceAdd, Nat.reduceSub, Nat.reduceLT, Nat.reduceLeDiff, Nat.zero_add, Nat.add_zero, true_and, and_true, Nat.zero_lt_succ, Int.reduceToNat, Int.reducePow, List.length_map, Int.reduceAdd, Nat.lt_add_one, Bool.true_xor, Bool.false_xor, Bool.not_not, rangeD_cons, rangeD_zero, Bool.not_true, Bool.not_false, fin, rk, rks, rk0, asB, outK, stillK, ints1, ints2, lst1, lst2, wSets, itemOf, truOf, getOf, ifB_true, ifB_false, k_nx, k_ret, k_bk, k_ct, k_ex, ent, ↓lpK, lpK, ↓DigQ]
  have he : ∃ z, atI [D.str (PySem.Str.ofString "moves"), D.str (PySem.Str.ofString "stays"), D.str (PySem.Str.ofString "lapses")] e = some z := by
    have : e = 0 ∨ e = 1 ∨ e = 2 := by omega
    rcases this with rfl | rfl | rfl <;> exact ⟨_, rfl⟩
  obtain ⟨z, hz⟩ := he
  refine ifB_join ?_ ?_
  · simp -implicitDefEqProofs only [↓gOf, ↓h_while, ↓ifB_true, ↓ifB_false, ↓fin, ↓h_seq, ↓h_if, ↓wRet, ↓wRetN, ↓wRetV, ↓wAsg, ↓wFrz, ↓wFgt, ↓wDrop, ↓wAug, ↓wNext, ↓wBrk, ↓wCnt, ↓h_for, ↓wApp, ↓wSet, ↓wRaise, ↓wReverse, ↓wClear, ↓gN, ↓gT, ↓wSets, ↓rk, ↓rks, ↓rk0, ↓asB, ↓wVar, ↓wInt, ↓wBl, ↓wStr, ↓wNon, ↓wOp, ↓wUn, ↓wNot, ↓h_and, ↓h_or, ↓h_ite, ↓aNil, ↓aCons, ↓wTup, ↓wLst, ↓outK, ↓h_call, ↓oAdd, ↓oSub, ↓oMul, ↓oMod, ↓oDiv, ↓oPow, ↓oI0, ↓oI, ↓oLt, ↓oLe, ↓oGt, ↓oGe, ↓oNeg, ↓oIsB, ↓oIsN, ↓oEq, ↓oIx, ↓oIxN, ↓oIxL, ↓itemOf, ↓oLen, ↓oMin, ↓oMax, ↓oSum, ↓oList, ↓oDict, ↓oIsi, ↓wSlice, ↓wNoP, ↓wPart, ↓wIter, ↓stillK, ↓wRng1, ↓wRng2, ↓ints1, ↓ints2, ↓wEnum, ↓lst1, ↓wZip, ↓lst2, ↓wGet, ↓getOf, ↓wTru, ↓truOf, ↓h_chain, ↓wDnK, ↓wDnT, ↓h_lc, ↓unAt, Bool.decide_eq_true, Bool.decide_eq_false, Bool.and_true, Bool.and_false, Bool.true_and, Bool.false_and, beq_self_eq_true, Bool.true_beq, Bool.false_beq, decide_true, decide_false, eqok_int, eqok_bl, eqok_str, eqD_int, eqD_bl, eqD_str, frzS, stabs, Slot.stab, Slot.dat, Slot.arg, lenOf, enumD, zipD, List.set_cons_zero, List.set_cons_succ, List.getElem?_cons_zero, List.getElem?_cons_succ, List.getElem?_nil, List.length_cons, List.length_nil, List.cons_append, List.nil_append, List.reduceReplicate, List.map_cons, List.map_nil, Nat.reduceAdd, Nat.reduceSub, Nat.reduceLT, Nat.reduceLeDiff, Nat.zero_add, Nat.add_zero, true_and, and_true, Nat.zero_lt_succ, Int.reduceToNat, Int.reducePow, List.length_map, Int.reduceAdd, Nat.lt_add_one, Bool.true_xor, Bool.false_xor, Bool.not_not, rangeD_cons, rangeD_zero, Bool.not_true, Bool.not_false, fin, rk, rks, rk0, asB, outK, stillK, ints1, ints2, lst1, lst2, wSets, itemOf, truOf, getOf, ifB_true, ifB_false, k_nx, k_ret, k_bk, k_ct, k_ex, ent, ↓lpK, lpK, ↓DigQ]
    exact ⟨by decide, by decide, e, z, rfl, hz, h _ _ _ _ _⟩
  · simp -implicitDefEqProofs only [↓gOf, ↓h_while, ↓ifB_true, ↓ifB_false, ↓fin, ↓h_seq, ↓h_if, ↓wRet, ↓wRetN, ↓wRetV, ↓wAsg, ↓wFrz, ↓wFgt, ↓wDrop, ↓wAug, ↓wNext, ↓wBrk, ↓wCnt, ↓h_for, ↓wApp, ↓wSet, ↓wRaise, ↓wReverse, ↓wClear, ↓gN, ↓gT, ↓wSets, ↓rk, ↓rks, ↓rk0, ↓asB, ↓wVar, ↓wInt, ↓wBl, ↓wStr, ↓wNon, ↓wOp, ↓wUn, ↓wNot, ↓h_and, ↓h_or, ↓h_ite, ↓aNil, ↓aCons, ↓wTup, ↓wLst, ↓outK, ↓h_call, ↓oAdd, ↓oSub, ↓oMul, ↓oMod, ↓oDiv, ↓oPow, ↓oI0, ↓oI, ↓oLt, ↓oLe, ↓oGt, ↓oGe, ↓oNeg, ↓oIsB, ↓oIsN, ↓oEq, ↓oIx, ↓oIxN, ↓oIxL, ↓itemOf, ↓oLen, ↓oMin, ↓oMax, ↓oSum, ↓oList, ↓oDict, ↓oIsi, ↓wSlice, ↓wNoP, ↓wPart, ↓wIter, ↓stillK, ↓wRng1, ↓wRng2, ↓ints1, ↓ints2, ↓wEnum, ↓lst1, ↓wZip, ↓lst2, ↓wGet, ↓getOf, ↓wTru, ↓truOf, ↓h_chain, ↓wDnK, ↓wDnT, ↓h_lc, ↓unAt, Bool.decide_eq_true, Bool.decide_eq_false, Bool.and_true, Bool.and_false, Bool.true_and, Bool.false_and, beq_self_eq_true, Bool.true_beq, Bool.false_beq, decide_true, decide_false, eqok_int, eqok_bl, eqok_str, eqD_int, eqD_bl, eqD_str, frzS, stabs, Slot.stab, Slot.dat, Slot.arg, lenOf, enumD, zipD, List.set_cons_zero, List.set_cons_succ, List.getElem?_cons_zero, List.getElem?_cons_succ, List.getElem?_nil, List.length_cons, List.length_nil, List.cons_append, List.nil_append, List.reduceReplicate, List.map_cons, List.map_nil, Nat.reduceAdd, Nat.reduceSub, Nat.reduceLT, Nat.reduceLeDiff, Nat.zero_add, Nat.add_zero, true_and, and_true, Nat.zero_lt_succ, Int.reduceToNat, Int.reducePow, List.length_map, Int.reduceAdd, Nat.lt_add_one, Bool.true_xor, Bool.false_xor, Bool.not_not, rangeD_cons, rangeD_zero, Bool.not_true, Bool.not_false, fin, rk, rks, rk0, asB, outK, stillK, ints1, ints2, lst1, lst2, wSets, itemOf, truOf, getOf, ifB_true, ifB_false, k_nx, k_ret, k_bk, k_ct, k_ex, ent, ↓lpK, lpK, ↓DigQ]
    exact ⟨e, z, rfl, hz, h _ _ _ _ _⟩
theorem p_due (a n y : Int) (z w : D) (a' n' y' : Int) (z' w' : D) (Q : R Slot → Prop) (h : Q (.ok (.sh (.bl (lexB a n y a' n' y'))))) : g_law_due [.sh (ent a n y z w), .sh (ent a' n' y' z' w')] Q := by
  simp -implicitDefEqProofs only [↓g_law_due, ↓w_law_due, ↓gOf, ↓h_while, ↓ifB_true, ↓ifB_false, ↓fin, ↓h_seq, ↓h_if, ↓wRet, ↓wRetN, ↓wRetV, ↓wAsg, ↓wFrz, ↓wFgt, ↓wDrop, ↓wAug, ↓wNext, ↓wBrk, ↓wCnt, ↓h_for, ↓wApp, ↓wSet, ↓wRaise, ↓wReverse, ↓wClear, ↓gN, ↓gT, ↓wSets, ↓rk, ↓rks, ↓rk0, ↓asB, ↓wVar, ↓wInt, ↓wBl, ↓wStr, ↓wNon, ↓wOp, ↓wUn, ↓wNot, ↓h_and, ↓h_or, ↓h_ite, ↓aNil, ↓aCons, ↓wTup, ↓wLst, ↓outK, ↓h_call, ↓oAdd, ↓oSub, ↓oMul, ↓oMod, ↓oDiv, ↓oPow, ↓oI0, ↓oI, ↓oLt, ↓oLe, ↓oGt, ↓oGe, ↓oNeg, ↓oIsB, ↓oIsN, ↓oEq, ↓oIx, ↓oIxN, ↓oIxL, ↓itemOf, ↓oLen, ↓oMin, ↓oMax, ↓oSum, ↓oList, ↓oDict, ↓oIsi, ↓wSlice, ↓wNoP, ↓wPart, ↓wIter, ↓stillK, ↓wRng1, ↓wRng2, ↓ints1, ↓ints2, ↓wEnum, ↓lst1, ↓wZip, ↓lst2, ↓wGet, ↓getOf, ↓wTru, ↓truOf, ↓h_chain, ↓wDnK, ↓wDnT, ↓h_lc, ↓unAt, Bool.decide_eq_true, Bool.decide_eq_false, Bool.and_true, Bool.and_false, Bool.true_and, Bool.false_and, beq_self_eq_true, Bool.true_beq, Bool.false_beq, decide_true, decide_false, eqok_int, eqok_bl, eqok_str, eqD_int, eqD_bl, eqD_str, frzS, stabs, Slot.stab, Slot.dat, Slot.arg, lenOf, enumD, zipD, List.set_cons_zero, List.set_cons_succ, List.getElem?_cons_zero, List.getElem?_cons_succ, List.getElem?_nil, List.length_cons, List.length_nil, List.cons_append, List.nil_append, List.reduceReplicate, List.map_cons, List.map_nil, Nat.reduceAdd, Nat.reduceSub, Nat.reduceLT, Nat.reduceLeDiff, Nat.zero_add, Nat.add_zero, true_and, and_true, Nat.zero_lt_succ, Int.reduceToNat, Int.reducePow, List.length_map, Int.reduceAdd, Nat.lt_add_one, Bool.true_xor, Bool.false_xor, Bool.not_not, rangeD_cons, rangeD_zero, Bool.not_true, Bool.not_false, fin, rk, rks, rk0, asB, outK, stillK, ints1, ints2, lst1, lst2, wSets, itemOf, truOf, getOf, ifB_true, ifB_false, k_nx, k_ret, k_bk, k_ct, k_ex, ent, ↓lpK, lpK, ↓DigQ]
  refine ⟨by unfold Bd62; decide, ?_⟩
  unfold lexB at h
  have mb := wm_law_due_b1
  refine loop_step g_name mb (fun e => e = [.sh (ent a n y z w), .sh (ent a' n' y' z' w'), .sh (.int 0)] ∧ a = a') ?_ ?_
  · rintro e ⟨rfl, rfl⟩
    rw [if_pos rfl] at h
    refine loop_step g_name mb (fun e => e = [.sh (ent a n y z w), .sh (ent a n' y' z' w'), .sh (.int 1)] ∧ n = n') ?_ ?_
    · rintro e ⟨rfl, rfl⟩
      rw [if_pos rfl] at h
      refine loop_step g_name mb (fun e => e = [.sh (ent a n y z w), .sh (ent a n y' z' w'), .sh (.int 2)] ∧ y = y') ?_ ?_
      · rintro e ⟨rfl, rfl⟩
        simp -implicitDefEqProofs only [↓wLoop, ↓gOf, ↓h_while, ↓ifB_true, ↓ifB_false, ↓fin, ↓h_seq, ↓h_if, ↓wRet, ↓wRetN, ↓wRetV, ↓wAsg, ↓wFrz, ↓wFgt, ↓wDrop, ↓wAug, ↓wNext, ↓wBrk, ↓wCnt, ↓h_for, ↓wApp, ↓wSet, ↓wRaise, ↓wReverse, ↓wClear, ↓gN, ↓gT, ↓wSets, ↓rk, ↓rks, ↓rk0, ↓asB, ↓wVar, ↓wInt, ↓wBl, ↓wStr, ↓wNon, ↓wOp, ↓wUn, ↓wNot, ↓h_and, ↓h_or, ↓h_ite, ↓aNil, ↓aCons, ↓wTup, ↓wLst, ↓outK, ↓h_call, ↓oAdd, ↓oSub, ↓oMul, ↓oMod, ↓oDiv, ↓oPow, ↓oI0, ↓oI, ↓oLt, ↓oLe, ↓oGt, ↓oGe, ↓oNeg, ↓oIsB, ↓oIsN, ↓oEq, ↓oIx, ↓oIxN, ↓oIxL, ↓itemOf, ↓oLen, ↓oMin, ↓oMax, ↓oSum, ↓oList, ↓oDict, ↓oIsi, ↓wSlice, ↓wNoP, ↓wPart, ↓wIter, ↓stillK, ↓wRng1, ↓wRng2, ↓ints1, ↓ints2, ↓wEnum, ↓lst1, ↓wZip, ↓lst2, ↓wGet, ↓getOf, ↓wTru, ↓truOf, ↓h_chain, ↓wDnK, ↓wDnT, ↓h_lc, ↓unAt, Bool.decide_eq_true, Bool.decide_eq_false, Bool.and_true, Bool.and_false, Bool.true_and, Bool.false_and, beq_self_eq_true, Bool.true_beq, Bool.false_beq, decide_true, decide_false, eqok_int, eqok_bl, eqok_str, eqD_int, eqD_bl, eqD_str, frzS, stabs, Slot.stab, Slot.dat, Slot.arg, lenOf, enumD, zipD, List.set_cons_zero, List.set_cons_succ, List.getElem?_cons_zero, List.getElem?_cons_succ, List.getElem?_nil, List.length_cons, List.length_nil, List.cons_append, List.nil_append, List.reduceReplicate, List.map_cons, List.map_nil, Nat.reduceAdd, Nat.reduceSub, Nat.reduceLT, Nat.reduceLeDiff, Nat.zero_add, Nat.add_zero, true_and, and_true, Nat.zero_lt_succ, Int.reduceToNat, Int.reducePow, List.length_map, Int.reduceAdd, Nat.lt_add_one, Bool.true_xor, Bool.false_xor, Bool.not_not, rangeD_cons, rangeD_zero, Bool.not_true, Bool.not_false, fin, rk, rks, rk0, asB, outK, stillK, ints1, ints2, lst1, lst2, wSets, itemOf, truOf, getOf, ifB_true, ifB_false, k_nx, k_ret, k_bk, k_ct, k_ex, ent, ↓lpK, lpK, ↓DigQ]
        refine hold ?_
        simp -implicitDefEqProofs only [↓gOf, ↓h_while, ↓ifB_true, ↓ifB_false, ↓fin, ↓h_seq, ↓h_if, ↓wRet, ↓wRetN, ↓wRetV, ↓wAsg, ↓wFrz, ↓wFgt, ↓wDrop, ↓wAug, ↓wNext, ↓wBrk, ↓wCnt, ↓h_for, ↓wApp, ↓wSet, ↓wRaise, ↓wReverse, ↓wClear, ↓gN, ↓gT, ↓wSets, ↓rk, ↓rks, ↓rk0, ↓asB, ↓wVar, ↓wInt, ↓wBl, ↓wStr, ↓wNon, ↓wOp, ↓wUn, ↓wNot, ↓h_and, ↓h_or, ↓h_ite, ↓aNil, ↓aCons, ↓wTup, ↓wLst, ↓outK, ↓h_call, ↓oAdd, ↓oSub, ↓oMul, ↓oMod, ↓oDiv, ↓oPow, ↓oI0, ↓oI, ↓oLt, ↓oLe, ↓oGt, ↓oGe, ↓oNeg, ↓oIsB, ↓oIsN, ↓oEq, ↓oIx, ↓oIxN, ↓oIxL, ↓itemOf, ↓oLen, ↓oMin, ↓oMax, ↓oSum, ↓oList, ↓oDict, ↓oIsi, ↓wSlice, ↓wNoP, ↓wPart, ↓wIter, ↓stillK, ↓wRng1, ↓wRng2, ↓ints1, ↓ints2, ↓wEnum, ↓lst1, ↓wZip, ↓lst2, ↓wGet, ↓getOf, ↓wTru, ↓truOf, ↓h_chain, ↓wDnK, ↓wDnT, ↓h_lc, ↓unAt, Bool.decide_eq_true, Bool.decide_eq_false, Bool.and_true, Bool.and_false, Bool.true_and, Bool.false_and, beq_self_eq_true, Bool.true_beq, Bool.false_beq, decide_true, decide_false, eqok_int, eqok_bl, eqok_str, eqD_int, eqD_bl, eqD_str, frzS, stabs, Slot.stab, Slot.dat, Slot.arg, lenOf, enumD, zipD, List.set_cons_zero, List.set_cons_succ, List.getElem?_cons_zero, List.getElem?_cons_succ, List.getElem?_nil, List.length_cons, List.length_nil, List.cons_append, List.nil_append, List.reduceReplicate, List.map_cons, List.map_nil, Nat.reduceAdd, Nat.reduceSub, Nat.reduceLT, Nat.reduceLeDiff, Nat.zero_add, Nat.add_zero, true_and, and_true, Nat.zero_lt_succ, Int.reduceToNat, Int.reducePow, List.length_map, Int.reduceAdd, Nat.lt_add_one, Bool.true_xor, Bool.false_xor, Bool.not_not, rangeD_cons, rangeD_zero, Bool.not_true, Bool.not_false, fin, rk, rks, rk0, asB, outK, stillK, ints1, ints2, lst1, lst2, wSets, itemOf, truOf, getOf, ifB_true, ifB_false, k_nx, k_ret, k_bk, k_ct, k_ex, ent, ↓lpK, lpK, ↓DigQ]
        simpa using h
      · simp -implicitDefEqProofs only [↓w_law_due_b1, ↓gOf, ↓h_while, ↓ifB_true, ↓ifB_false, ↓fin, ↓h_seq, ↓h_if, ↓wRet, ↓wRetN, ↓wRetV, ↓wAsg, ↓wFrz, ↓wFgt, ↓wDrop, ↓wAug, ↓wNext, ↓wBrk, ↓wCnt, ↓h_for, ↓wApp, ↓wSet, ↓wRaise, ↓wReverse, ↓wClear, ↓gN, ↓gT, ↓wSets, ↓rk, ↓rks, ↓rk0, ↓asB, ↓wVar, ↓wInt, ↓wBl, ↓wStr, ↓wNon, ↓wOp, ↓wUn, ↓wNot, ↓h_and, ↓h_or, ↓h_ite, ↓aNil, ↓aCons, ↓wTup, ↓wLst, ↓outK, ↓h_call, ↓oAdd, ↓oSub, ↓oMul, ↓oMod, ↓oDiv, ↓oPow, ↓oI0, ↓oI, ↓oLt, ↓oLe, ↓oGt, ↓oGe, ↓oNeg, ↓oIsB, ↓oIsN, ↓oEq, ↓oIx, ↓oIxN, ↓oIxL, ↓itemOf, ↓oLen, ↓oMin, ↓oMax, ↓oSum, ↓oList, ↓oDict, ↓oIsi, ↓wSlice, ↓wNoP, ↓wPart, ↓wIter, ↓stillK, ↓wRng1, ↓wRng2, ↓ints1, ↓ints2, ↓wEnum, ↓lst1, ↓wZip, ↓lst2, ↓wGet, ↓getOf, ↓wTru, ↓truOf, ↓h_chain, ↓wDnK, ↓wDnT, ↓h_lc, ↓unAt, Bool.decide_eq_true, Bool.decide_eq_false, Bool.and_true, Bool.and_false, Bool.true_and, Bool.false_and, beq_self_eq_true, Bool.true_beq, Bool.false_beq, decide_true, decide_false, eqok_int, eqok_bl, eqok_str, eqD_int, eqD_bl, eqD_str, frzS, stabs, Slot.stab, Slot.dat, Slot.arg, lenOf, enumD, zipD, List.set_cons_zero, List.set_cons_succ, List.getElem?_cons_zero, List.getElem?_cons_succ, List.getElem?_nil, List.length_cons, List.length_nil, List.cons_append, List.nil_append, List.reduceReplicate, List.map_cons, List.map_nil, Nat.reduceAdd, Nat.reduceSub, Nat.reduceLT, Nat.reduceLeDiff, Nat.zero_add, Nat.add_zero, true_and, and_true, Nat.zero_lt_succ, Int.reduceToNat, Int.reducePow, List.length_map, Int.reduceAdd, Nat.lt_add_one, Bool.true_xor, Bool.false_xor, Bool.not_not, rangeD_cons, rangeD_zero, Bool.not_true, Bool.not_false, fin, rk, rks, rk0, asB, outK, stillK, ints1, ints2, lst1, lst2, wSets, itemOf, truOf, getOf, ifB_true, ifB_false, k_nx, k_ret, k_bk, k_ct, k_ex, ent, ↓lpK, lpK, ↓DigQ]
        refine ⟨2, .int y, rfl, rfl, 2, .int y', rfl, rfl, ?_⟩
        simp -implicitDefEqProofs only [↓gOf, ↓h_while, ↓ifB_true, ↓ifB_false, ↓fin, ↓h_seq, ↓h_if, ↓wRet, ↓wRetN, ↓wRetV, ↓wAsg, ↓wFrz, ↓wFgt, ↓wDrop, ↓wAug, ↓wNext, ↓wBrk, ↓wCnt, ↓h_for, ↓wApp, ↓wSet, ↓wRaise, ↓wReverse, ↓wClear, ↓gN, ↓gT, ↓wSets, ↓rk, ↓rks, ↓rk0, ↓asB, ↓wVar, ↓wInt, ↓wBl, ↓wStr, ↓wNon, ↓wOp, ↓wUn, ↓wNot, ↓h_and, ↓h_or, ↓h_ite, ↓aNil, ↓aCons, ↓wTup, ↓wLst, ↓outK, ↓h_call, ↓oAdd, ↓oSub, ↓oMul, ↓oMod, ↓oDiv, ↓oPow, ↓oI0, ↓oI, ↓oLt, ↓oLe, ↓oGt, ↓oGe, ↓oNeg, ↓oIsB, ↓oIsN, ↓oEq, ↓oIx, ↓oIxN, ↓oIxL, ↓itemOf, ↓oLen, ↓oMin, ↓oMax, ↓oSum, ↓oList, ↓oDict, ↓oIsi, ↓wSlice, ↓wNoP, ↓wPart, ↓wIter, ↓stillK, ↓wRng1, ↓wRng2, ↓ints1, ↓ints2, ↓wEnum, ↓lst1, ↓wZip, ↓lst2, ↓wGet, ↓getOf, ↓wTru, ↓truOf, ↓h_chain, ↓wDnK, ↓wDnT, ↓h_lc, ↓unAt, Bool.decide_eq_true, Bool.decide_eq_false, Bool.and_true, Bool.and_false, Bool.true_and, Bool.false_and, beq_self_eq_true, Bool.true_beq, Bool.false_beq, decide_true, decide_false, eqok_int, eqok_bl, eqok_str, eqD_int, eqD_bl, eqD_str, frzS, stabs, Slot.stab, Slot.dat, Slot.arg, lenOf, enumD, zipD, List.set_cons_zero, List.set_cons_succ, List.getElem?_cons_zero, List.getElem?_cons_succ, List.getElem?_nil, List.length_cons, List.length_nil, List.cons_append, List.nil_append, List.reduceReplicate, List.map_cons, List.map_nil, Nat.reduceAdd, Nat.reduceSub, Nat.reduceLT, Nat.reduceLeDiff, Nat.zero_add, Nat.add_zero, true_and, and_true, Nat.zero_lt_succ, Int.reduceToNat, Int.reducePow, List.length_map, Int.reduceAdd, Nat.lt_add_one, Bool.true_xor, Bool.false_xor, Bool.not_not, rangeD_cons, rangeD_zero, Bool.not_true, Bool.not_false, fin, rk, rks, rk0, asB, outK, stillK, ints1, ints2, lst1, lst2, wSets, itemOf, truOf, getOf, ifB_true, ifB_false, k_nx, k_ret, k_bk, k_ct, k_ex, ent, ↓lpK, lpK, ↓DigQ]
        refine ifN_of (fun hn => ?_) (fun hn => ⟨rfl, hn⟩)
        simp -implicitDefEqProofs only [↓gOf, ↓h_while, ↓ifB_true, ↓ifB_false, ↓fin, ↓h_seq, ↓h_if, ↓wRet, ↓wRetN, ↓wRetV, ↓wAsg, ↓wFrz, ↓wFgt, ↓wDrop, ↓wAug, ↓wNext, ↓wBrk, ↓wCnt, ↓h_for, ↓wApp, ↓wSet, ↓wRaise, ↓wReverse, ↓wClear, ↓gN, ↓gT, ↓wSets, ↓rk, ↓rks, ↓rk0, ↓asB, ↓wVar, ↓wInt, ↓wBl, ↓wStr, ↓wNon, ↓wOp, ↓wUn, ↓wNot, ↓h_and, ↓h_or, ↓h_ite, ↓aNil, ↓aCons, ↓wTup, ↓wLst, ↓outK, ↓h_call, ↓oAdd, ↓oSub, ↓oMul, ↓oMod, ↓oDiv, ↓oPow, ↓oI0, ↓oI, ↓oLt, ↓oLe, ↓oGt, ↓oGe, ↓oNeg, ↓oIsB, ↓oIsN, ↓oEq, ↓oIx, ↓oIxN, ↓oIxL, ↓itemOf, ↓oLen, ↓oMin, ↓oMax, ↓oSum, ↓oList, ↓oDict, ↓oIsi, ↓wSlice, ↓wNoP, ↓wPart, ↓wIter, ↓stillK, ↓wRng1, ↓wRng2, ↓ints1, ↓ints2, ↓wEnum, ↓lst1, ↓wZip, ↓lst2, ↓wGet, ↓getOf, ↓wTru, ↓truOf, ↓h_chain, ↓wDnK, ↓wDnT, ↓h_lc, ↓unAt, Bool.decide_eq_true, Bool.decide_eq_false, Bool.and_true, Bool.and_false, Bool.true_and, Bool.false_and, beq_self_eq_true, Bool.true_beq, Bool.false_beq, decide_true, decide_false, eqok_int, eqok_bl, eqok_str, eqD_int, eqD_bl, eqD_str, frzS, stabs, Slot.stab, Slot.dat, Slot.arg, lenOf, enumD, zipD, List.set_cons_zero, List.set_cons_succ, List.getElem?_cons_zero, List.getElem?_cons_succ, List.getElem?_nil, List.length_cons, List.length_nil, List.cons_append, List.nil_append, List.reduceReplicate, List.map_cons, List.map_nil, Nat.reduceAdd, Nat.reduceSub, Nat.reduceLT, Nat.reduceLeDiff, Nat.zero_add, Nat.add_zero, true_and, and_true, Nat.zero_lt_succ, Int.reduceToNat, Int.reducePow, List.length_map, Int.reduceAdd, Nat.lt_add_one, Bool.true_xor, Bool.false_xor, Bool.not_not, rangeD_cons, rangeD_zero, Bool.not_true, Bool.not_false, fin, rk, rks, rk0, asB, outK, stillK, ints1, ints2, lst1, lst2, wSets, itemOf, truOf, getOf, ifB_true, ifB_false, k_nx, k_ret, k_bk, k_ct, k_ex, ent, ↓lpK, lpK, ↓DigQ]
        exact ⟨2, .int y, rfl, rfl, 2, .int y', rfl, rfl, h⟩
    · simp -implicitDefEqProofs only [↓w_law_due_b1, ↓gOf, ↓h_while, ↓ifB_true, ↓ifB_false, ↓fin, ↓h_seq, ↓h_if, ↓wRet, ↓wRetN, ↓wRetV, ↓wAsg, ↓wFrz, ↓wFgt, ↓wDrop, ↓wAug, ↓wNext, ↓wBrk, ↓wCnt, ↓h_for, ↓wApp, ↓wSet, ↓wRaise, ↓wReverse, ↓wClear, ↓gN, ↓gT, ↓wSets, ↓rk, ↓rks, ↓rk0, ↓asB, ↓wVar, ↓wInt, ↓wBl, ↓wStr, ↓wNon, ↓wOp, ↓wUn, ↓wNot, ↓h_and, ↓h_or, ↓h_ite, ↓aNil, ↓aCons, ↓wTup, ↓wLst, ↓outK, ↓h_call, ↓oAdd, ↓oSub, ↓oMul, ↓oMod, ↓oDiv, ↓oPow, ↓oI0, ↓oI, ↓oLt, ↓oLe, ↓oGt, ↓oGe, ↓oNeg, ↓oIsB, ↓oIsN, ↓oEq, ↓oIx, ↓oIxN, ↓oIxL, ↓itemOf, ↓oLen, ↓oMin, ↓oMax, ↓oSum, ↓oList, ↓oDict, ↓oIsi, ↓wSlice, ↓wNoP, ↓wPart, ↓wIter, ↓stillK, ↓wRng1, ↓wRng2, ↓ints1, ↓ints2, ↓wEnum, ↓lst1, ↓wZip, ↓lst2, ↓wGet, ↓getOf, ↓wTru, ↓truOf, ↓h_chain, ↓wDnK, ↓wDnT, ↓h_lc, ↓unAt, Bool.decide_eq_true, Bool.decide_eq_false, Bool.and_true, Bool.and_false, Bool.true_and, Bool.false_and, beq_self_eq_true, Bool.true_beq, Bool.false_beq, decide_true, decide_false, eqok_int, eqok_bl, eqok_str, eqD_int, eqD_bl, eqD_str, frzS, stabs, Slot.stab, Slot.dat, Slot.arg, lenOf, enumD, zipD, List.set_cons_zero, List.set_cons_succ, List.getElem?_cons_zero, List.getElem?_cons_succ, List.getElem?_nil, List.length_cons, List.length_nil, List.cons_append, List.nil_append, List.reduceReplicate, List.map_cons, List.map_nil, Nat.reduceAdd, Nat.reduceSub, Nat.reduceLT, Nat.reduceLeDiff, Nat.zero_add, Nat.add_zero, true_and, and_true, Nat.zero_lt_succ, Int.reduceToNat, Int.reducePow, List.length_map, Int.reduceAdd, Nat.lt_add_one, Bool.true_xor, Bool.false_xor, Bool.not_not, rangeD_cons, rangeD_zero, Bool.not_true, Bool.not_false, fin, rk, rks, rk0, asB, outK, stillK, ints1, ints2, lst1, lst2, wSets, itemOf, truOf, getOf, ifB_true, ifB_false, k_nx, k_ret, k_bk, k_ct, k_ex, ent, ↓lpK, lpK, ↓DigQ]
      refine ⟨1, .int n, rfl, rfl, 1, .int n', rfl, rfl, ?_⟩
      simp -implicitDefEqProofs only [↓gOf, ↓h_while, ↓ifB_true, ↓ifB_false, ↓fin, ↓h_seq, ↓h_if, ↓wRet, ↓wRetN, ↓wRetV, ↓wAsg, ↓wFrz, ↓wFgt, ↓wDrop, ↓wAug, ↓wNext, ↓wBrk, ↓wCnt, ↓h_for, ↓wApp, ↓wSet, ↓wRaise, ↓wReverse, ↓wClear, ↓gN, ↓gT, ↓wSets, ↓rk, ↓rks, ↓rk0, ↓asB, ↓wVar, ↓wInt, ↓wBl, ↓wStr, ↓wNon, ↓wOp, ↓wUn, ↓wNot, ↓h_and, ↓h_or, ↓h_ite, ↓aNil, ↓aCons, ↓wTup, ↓wLst, ↓outK, ↓h_call, ↓oAdd, ↓oSub, ↓oMul, ↓oMod, ↓oDiv, ↓oPow, ↓oI0, ↓oI, ↓oLt, ↓oLe, ↓oGt, ↓oGe, ↓oNeg, ↓oIsB, ↓oIsN, ↓oEq, ↓oIx, ↓oIxN, ↓oIxL, ↓itemOf, ↓oLen, ↓oMin, ↓oMax, ↓oSum, ↓oList, ↓oDict, ↓oIsi, ↓wSlice, ↓wNoP, ↓wPart, ↓wIter, ↓stillK, ↓wRng1, ↓wRng2, ↓ints1, ↓ints2, ↓wEnum, ↓lst1, ↓wZip, ↓lst2, ↓wGet, ↓getOf, ↓wTru, ↓truOf, ↓h_chain, ↓wDnK, ↓wDnT, ↓h_lc, ↓unAt, Bool.decide_eq_true, Bool.decide_eq_false, Bool.and_true, Bool.and_false, Bool.true_and, Bool.false_and, beq_self_eq_true, Bool.true_beq, Bool.false_beq, decide_true, decide_false, eqok_int, eqok_bl, eqok_str, eqD_int, eqD_bl, eqD_str, frzS, stabs, Slot.stab, Slot.dat, Slot.arg, lenOf, enumD, zipD, List.set_cons_zero, List.set_cons_succ, List.getElem?_cons_zero, List.getElem?_cons_succ, List.getElem?_nil, List.length_cons, List.length_nil, List.cons_append, List.nil_append, List.reduceReplicate, List.map_cons, List.map_nil, Nat.reduceAdd, Nat.reduceSub, Nat.reduceLT, Nat.reduceLeDiff, Nat.zero_add, Nat.add_zero, true_and, and_true, Nat.zero_lt_succ, Int.reduceToNat, Int.reducePow, List.length_map, Int.reduceAdd, Nat.lt_add_one, Bool.true_xor, Bool.false_xor, Bool.not_not, rangeD_cons, rangeD_zero, Bool.not_true, Bool.not_false, fin, rk, rks, rk0, asB, outK, stillK, ints1, ints2, lst1, lst2, wSets, itemOf, truOf, getOf, ifB_true, ifB_false, k_nx, k_ret, k_bk, k_ct, k_ex, ent, ↓lpK, lpK, ↓DigQ]
      refine ifN_of (fun hn => ?_) (fun hn => ⟨rfl, hn⟩)
      rw [if_neg hn] at h
      simp -implicitDefEqProofs only [↓gOf, ↓h_while, ↓ifB_true, ↓ifB_false, ↓fin, ↓h_seq, ↓h_if, ↓wRet, ↓wRetN, ↓wRetV, ↓wAsg, ↓wFrz, ↓wFgt, ↓wDrop, ↓wAug, ↓wNext, ↓wBrk, ↓wCnt, ↓h_for, ↓wApp, ↓wSet, ↓wRaise, ↓wReverse, ↓wClear, ↓gN, ↓gT, ↓wSets, ↓rk, ↓rks, ↓rk0, ↓asB, ↓wVar, ↓wInt, ↓wBl, ↓wStr, ↓wNon, ↓wOp, ↓wUn, ↓wNot, ↓h_and, ↓h_or, ↓h_ite, ↓aNil, ↓aCons, ↓wTup, ↓wLst, ↓outK, ↓h_call, ↓oAdd, ↓oSub, ↓oMul, ↓oMod, ↓oDiv, ↓oPow, ↓oI0, ↓oI, ↓oLt, ↓oLe, ↓oGt, ↓oGe, ↓oNeg, ↓oIsB, ↓oIsN, ↓oEq, ↓oIx, ↓oIxN, ↓oIxL, ↓itemOf, ↓oLen, ↓oMin, ↓oMax, ↓oSum, ↓oList, ↓oDict, ↓oIsi, ↓wSlice, ↓wNoP, ↓wPart, ↓wIter, ↓stillK, ↓wRng1, ↓wRng2, ↓ints1, ↓ints2, ↓wEnum, ↓lst1, ↓wZip, ↓lst2, ↓wGet, ↓getOf, ↓wTru, ↓truOf, ↓h_chain, ↓wDnK, ↓wDnT, ↓h_lc, ↓unAt, Bool.decide_eq_true, Bool.decide_eq_false, Bool.and_true, Bool.and_false, Bool.true_and, Bool.false_and, beq_self_eq_true, Bool.true_beq, Bool.false_beq, decide_true, decide_false, eqok_int, eqok_bl, eqok_str, eqD_int, eqD_bl, eqD_str, frzS, stabs, Slot.stab, Slot.dat, Slot.arg, lenOf, enumD, zipD, List.set_cons_zero, List.set_cons_succ, List.getElem?_cons_zero, List.getElem?_cons_succ, List.getElem?_nil, List.length_cons, List.length_nil, List.cons_append, List.nil_append, List.reduceReplicate, List.map_cons, List.map_nil, Nat.reduceAdd, Nat.reduceSub, Nat.reduceLT, Nat.reduceLeDiff, Nat.zero_add, Nat.add_zero, true_and, and_true, Nat.zero_lt_succ, Int.reduceToNat, Int.reducePow, List.length_map, Int.reduceAdd, Nat.lt_add_one, Bool.true_xor, Bool.false_xor, Bool.not_not, rangeD_cons, rangeD_zero, Bool.not_true, Bool.not_false, fin, rk, rks, rk0, asB, outK, stillK, ints1, ints2, lst1, lst2, wSets, itemOf, truOf, getOf, ifB_true, ifB_false, k_nx, k_ret, k_bk, k_ct, k_ex, ent, ↓lpK, lpK, ↓DigQ]
      exact ⟨1, .int n, rfl, rfl, 1, .int n', rfl, rfl, h⟩
  · simp -implicitDefEqProofs only [↓w_law_due_b1, ↓gOf, ↓h_while, ↓ifB_true, ↓ifB_false, ↓fin, ↓h_seq, ↓h_if, ↓wRet, ↓wRetN, ↓wRetV, ↓wAsg, ↓wFrz, ↓wFgt, ↓wDrop, ↓wAug, ↓wNext, ↓wBrk, ↓wCnt, ↓h_for, ↓wApp, ↓wSet, ↓wRaise, ↓wReverse, ↓wClear, ↓gN, ↓gT, ↓wSets, ↓rk, ↓rks, ↓rk0, ↓asB, ↓wVar, ↓wInt, ↓wBl, ↓wStr, ↓wNon, ↓wOp, ↓wUn, ↓wNot, ↓h_and, ↓h_or, ↓h_ite, ↓aNil, ↓aCons, ↓wTup, ↓wLst, ↓outK, ↓h_call, ↓oAdd, ↓oSub, ↓oMul, ↓oMod, ↓oDiv, ↓oPow, ↓oI0, ↓oI, ↓oLt, ↓oLe, ↓oGt, ↓oGe, ↓oNeg, ↓oIsB, ↓oIsN, ↓oEq, ↓oIx, ↓oIxN, ↓oIxL, ↓itemOf, ↓oLen, ↓oMin, ↓oMax, ↓oSum, ↓oList, ↓oDict, ↓oIsi, ↓wSlice, ↓wNoP, ↓wPart, ↓wIter, ↓stillK, ↓wRng1, ↓wRng2, ↓ints1, ↓ints2, ↓wEnum, ↓lst1, ↓wZip, ↓lst2, ↓wGet, ↓getOf, ↓wTru, ↓truOf, ↓h_chain, ↓wDnK, ↓wDnT, ↓h_lc, ↓unAt, Bool.decide_eq_true, Bool.decide_eq_false, Bool.and_true, Bool.and_false, Bool.true_and, Bool.false_and, beq_self_eq_true, Bool.true_beq, Bool.false_beq, decide_true, decide_false, eqok_int, eqok_bl, eqok_str, eqD_int, eqD_bl, eqD_str, frzS, stabs, Slot.stab, Slot.dat, Slot.arg, lenOf, enumD, zipD, List.set_cons_zero, List.set_cons_succ, List.getElem?_cons_zero, List.getElem?_cons_succ, List.getElem?_nil, List.length_cons, List.length_nil, List.cons_append, List.nil_append, List.reduceReplicate, List.map_cons, List.map_nil, Nat.reduceAdd, Nat.reduceSub, Nat.reduceLT, Nat.reduceLeDiff, Nat.zero_add, Nat.add_zero, true_and, and_true, Nat.zero_lt_succ, Int.reduceToNat, Int.reducePow, List.length_map, Int.reduceAdd, Nat.lt_add_one, Bool.true_xor, Bool.false_xor, Bool.not_not, rangeD_cons, rangeD_zero, Bool.not_true, Bool.not_false, fin, rk, rks, rk0, asB, outK, stillK, ints1, ints2, lst1, lst2, wSets, itemOf, truOf, getOf, ifB_true, ifB_false, k_nx, k_ret, k_bk, k_ct, k_ex, ent, ↓lpK, lpK, ↓DigQ]
    refine ⟨0, .int a, rfl, rfl, 0, .int a', rfl, rfl, ?_⟩
    simp -implicitDefEqProofs only [↓gOf, ↓h_while, ↓ifB_true, ↓ifB_false, ↓fin, ↓h_seq, ↓h_if, ↓wRet, ↓wRetN, ↓wRetV, ↓wAsg, ↓wFrz, ↓wFgt, ↓wDrop, ↓wAug, ↓wNext, ↓wBrk, ↓wCnt, ↓h_for, ↓wApp, ↓wSet, ↓wRaise, ↓wReverse, ↓wClear, ↓gN, ↓gT, ↓wSets, ↓rk, ↓rks, ↓rk0, ↓asB, ↓wVar, ↓wInt, ↓wBl, ↓wStr, ↓wNon, ↓wOp, ↓wUn, ↓wNot, ↓h_and, ↓h_or, ↓h_ite, ↓aNil, ↓aCons, ↓wTup, ↓wLst, ↓outK, ↓h_call, ↓oAdd, ↓oSub, ↓oMul, ↓oMod, ↓oDiv, ↓oPow, ↓oI0, ↓oI, ↓oLt, ↓oLe, ↓oGt, ↓oGe, ↓oNeg, ↓oIsB, ↓oIsN, ↓oEq, ↓oIx, ↓oIxN, ↓oIxL, ↓itemOf, ↓oLen, ↓oMin, ↓oMax, ↓oSum, ↓oList, ↓oDict, ↓oIsi, ↓wSlice, ↓wNoP, ↓wPart, ↓wIter, ↓stillK, ↓wRng1, ↓wRng2, ↓ints1, ↓ints2, ↓wEnum, ↓lst1, ↓wZip, ↓lst2, ↓wGet, ↓getOf, ↓wTru, ↓truOf, ↓h_chain, ↓wDnK, ↓wDnT, ↓h_lc, ↓unAt, Bool.decide_eq_true, Bool.decide_eq_false, Bool.and_true, Bool.and_false, Bool.true_and, Bool.false_and, beq_self_eq_true, Bool.true_beq, Bool.false_beq, decide_true, decide_false, eqok_int, eqok_bl, eqok_str, eqD_int, eqD_bl, eqD_str, frzS, stabs, Slot.stab, Slot.dat, Slot.arg, lenOf, enumD, zipD, List.set_cons_zero, List.set_cons_succ, List.getElem?_cons_zero, List.getElem?_cons_succ, List.getElem?_nil, List.length_cons, List.length_nil, List.cons_append, List.nil_append, List.reduceReplicate, List.map_cons, List.map_nil, Nat.reduceAdd, Nat.reduceSub, Nat.reduceLT, Nat.reduceLeDiff, Nat.zero_add, Nat.add_zero, true_and, and_true, Nat.zero_lt_succ, Int.reduceToNat, Int.reducePow, List.length_map, Int.reduceAdd, Nat.lt_add_one, Bool.true_xor, Bool.false_xor, Bool.not_not, rangeD_cons, rangeD_zero, Bool.not_true, Bool.not_false, fin, rk, rks, rk0, asB, outK, stillK, ints1, ints2, lst1, lst2, wSets, itemOf, truOf, getOf, ifB_true, ifB_false, k_nx, k_ret, k_bk, k_ct, k_ex, ent, ↓lpK, lpK, ↓DigQ]
    refine ifN_of (fun hn => ?_) (fun hn => ⟨rfl, hn⟩)
    rw [if_neg hn] at h
    simp -implicitDefEqProofs only [↓gOf, ↓h_while, ↓ifB_true, ↓ifB_false, ↓fin, ↓h_seq, ↓h_if, ↓wRet, ↓wRetN, ↓wRetV, ↓wAsg, ↓wFrz, ↓wFgt, ↓wDrop, ↓wAug, ↓wNext, ↓wBrk, ↓wCnt, ↓h_for, ↓wApp, ↓wSet, ↓wRaise, ↓wReverse, ↓wClear, ↓gN, ↓gT, ↓wSets, ↓rk, ↓rks, ↓rk0, ↓asB, ↓wVar, ↓wInt, ↓wBl, ↓wStr, ↓wNon, ↓wOp, ↓wUn, ↓wNot, ↓h_and, ↓h_or, ↓h_ite, ↓aNil, ↓aCons, ↓wTup, ↓wLst, ↓outK, ↓h_call, ↓oAdd, ↓oSub, ↓oMul, ↓oMod, ↓oDiv, ↓oPow, ↓oI0, ↓oI, ↓oLt, ↓oLe, ↓oGt, ↓oGe, ↓oNeg, ↓oIsB, ↓oIsN, ↓oEq, ↓oIx, ↓oIxN, ↓oIxL, ↓itemOf, ↓oLen, ↓oMin, ↓oMax, ↓oSum, ↓oList, ↓oDict, ↓oIsi, ↓wSlice, ↓wNoP, ↓wPart, ↓wIter, ↓stillK, ↓wRng1, ↓wRng2, ↓ints1, ↓ints2, ↓wEnum, ↓lst1, ↓wZip, ↓lst2, ↓wGet, ↓getOf, ↓wTru, ↓truOf, ↓h_chain, ↓wDnK, ↓wDnT, ↓h_lc, ↓unAt, Bool.decide_eq_true, Bool.decide_eq_false, Bool.and_true, Bool.and_false, Bool.true_and, Bool.false_and, beq_self_eq_true, Bool.true_beq, Bool.false_beq, decide_true, decide_false, eqok_int, eqok_bl, eqok_str, eqD_int, eqD_bl, eqD_str, frzS, stabs, Slot.stab, Slot.dat, Slot.arg, lenOf, enumD, zipD, List.set_cons_zero, List.set_cons_succ, List.getElem?_cons_zero, List.getElem?_cons_succ, List.getElem?_nil, List.length_cons, List.length_nil, List.cons_append, List.nil_append, List.reduceReplicate, List.map_cons, List.map_nil, Nat.reduceAdd, Nat.reduceSub, Nat.reduceLT, Nat.reduceLeDiff, Nat.zero_add, Nat.add_zero, true_and, and_true, Nat.zero_lt_succ, Int.reduceToNat, Int.reducePow, List.length_map, Int.reduceAdd, Nat.lt_add_one, Bool.true_xor, Bool.false_xor, Bool.not_not, rangeD_cons, rangeD_zero, Bool.not_true, Bool.not_false, fin, rk, rks, rk0, asB, outK, stillK, ints1, ints2, lst1, lst2, wSets, itemOf, truOf, getOf, ifB_true, ifB_false, k_nx, k_ret, k_bk, k_ct, k_ex, ent, ↓lpK, lpK, ↓DigQ]
    exact ⟨0, .int a, rfl, rfl, 0, .int a', rfl, rfl, h⟩
theorem p_ahead (a n y : Int) (z w : D) (a' n' y' : Int) (z' w' : D) (Q : R Slot → Prop) (h : Q (.ok (.sh (.bl (lexB a n y a' n' y'))))) : g_ahead [.sh (ent a n y z w), .sh (ent a' n' y' z' w')] Q := by
  unfold lexB at h
  simp -implicitDefEqProofs only [↓g_ahead, ↓w_ahead, ↓gOf, ↓h_while, ↓ifB_true, ↓ifB_false, ↓fin, ↓h_seq, ↓h_if, ↓wRet, ↓wRetN, ↓wRetV, ↓wAsg, ↓wFrz, ↓wFgt, ↓wDrop, ↓wAug, ↓wNext, ↓wBrk, ↓wCnt, ↓h_for, ↓wApp, ↓wSet, ↓wRaise, ↓wReverse, ↓wClear, ↓gN, ↓gT, ↓wSets, ↓rk, ↓rks, ↓rk0, ↓asB, ↓wVar, ↓wInt, ↓wBl, ↓wStr, ↓wNon, ↓wOp, ↓wUn, ↓wNot, ↓h_and, ↓h_or, ↓h_ite, ↓aNil, ↓aCons, ↓wTup, ↓wLst, ↓outK, ↓h_call, ↓oAdd, ↓oSub, ↓oMul, ↓oMod, ↓oDiv, ↓oPow, ↓oI0, ↓oI, ↓oLt, ↓oLe, ↓oGt, ↓oGe, ↓oNeg, ↓oIsB, ↓oIsN, ↓oEq, ↓oIx, ↓oIxN, ↓oIxL, ↓itemOf, ↓oLen, ↓oMin, ↓oMax, ↓oSum, ↓oList, ↓oDict, ↓oIsi, ↓wSlice, ↓wNoP, ↓wPart, ↓wIter, ↓stillK, ↓wRng1, ↓wRng2, ↓ints1, ↓ints2, ↓wEnum, ↓lst1, ↓wZip, ↓lst2, ↓wGet, ↓getOf, ↓wTru, ↓truOf, ↓h_chain, ↓wDnK, ↓wDnT, ↓h_lc, ↓unAt, Bool.decide_eq_true, Bool.decide_eq_false, Bool.and_true, Bool.and_false, Bool.true_and, Bool.false_and, beq_self_eq_true, Bool.true_beq, Bool.false_beq, decide_true, decide_false, eqok_int, eqok_bl, eqok_str, eqD_int, eqD_bl, eqD_str, frzS, stabs, Slot.stab, Slot.dat, Slot.arg, lenOf, enumD, zipD, List.set_cons_zero, List.set_cons_succ, List.getElem?_cons_zero, List.getElem?_cons_succ, List.getElem?_nil, List.length_cons, List.length_nil, List.cons_append, List.nil_append, List.reduceReplicate, List.map_cons, List.map_nil, Nat.reduceAdd, Nat.reduceSub, Nat.reduceLT, Nat.reduceLeDiff, Nat.zero_add, Nat.add_zero, true_and, and_true, Nat.zero_lt_succ, Int.reduceToNat, Int.reducePow, List.length_map, Int.reduceAdd, Nat.lt_add_one, Bool.true_xor, Bool.false_xor, Bool.not_not, rangeD_cons, rangeD_zero, Bool.not_true, Bool.not_false, fin, rk, rks, rk0, asB, outK, stillK, ints1, ints2, lst1, lst2, wSets, itemOf, truOf, getOf, ifB_true, ifB_false, k_nx, k_ret, k_bk, k_ct, k_ex, ent, ↓lpK, lpK, ↓DigQ]
  refine ifN_of (fun hn => ?_) (fun hn => ?_)
  · rw [if_neg hn] at h; simp -implicitDefEqProofs only [↓gOf, ↓h_while, ↓ifB_true, ↓ifB_false, ↓fin, ↓h_seq, ↓h_if, ↓wRet, ↓wRetN, ↓wRetV, ↓wAsg, ↓wFrz, ↓wFgt, ↓wDrop, ↓wAug, ↓wNext, ↓wBrk, ↓wCnt, ↓h_for, ↓wApp, ↓wSet, ↓wRaise, ↓wReverse, ↓wClear, ↓gN, ↓gT, ↓wSets, ↓rk, ↓rks, ↓rk0, ↓asB, ↓wVar, ↓wInt, ↓wBl, ↓wStr, ↓wNon, ↓wOp, ↓wUn, ↓wNot, ↓h_and, ↓h_or, ↓h_ite, ↓aNil, ↓aCons, ↓wTup, ↓wLst, ↓outK, ↓h_call, ↓oAdd, ↓oSub, ↓oMul, ↓oMod, ↓oDiv, ↓oPow, ↓oI0, ↓oI, ↓oLt, ↓oLe, ↓oGt, ↓oGe, ↓oNeg, ↓oIsB, ↓oIsN, ↓oEq, ↓oIx, ↓oIxN, ↓oIxL, ↓itemOf, ↓oLen, ↓oMin, ↓oMax, ↓oSum, ↓oList, ↓oDict, ↓oIsi, ↓wSlice, ↓wNoP, ↓wPart, ↓wIter, ↓stillK, ↓wRng1, ↓wRng2, ↓ints1, ↓ints2, ↓wEnum, ↓lst1, ↓wZip, ↓lst2, ↓wGet, ↓getOf, ↓wTru, ↓truOf, ↓h_chain, ↓wDnK, ↓wDnT, ↓h_lc, ↓unAt, Bool.decide_eq_true, Bool.decide_eq_false, Bool.and_true, Bool.and_false, Bool.true_and, Bool.false_and, beq_self_eq_true, Bool.true_beq, Bool.false_beq, decide_true, decide_false, eqok_int, eqok_bl, eqok_str, eqD_int, eqD_bl, eqD_str, frzS, stabs, Slot.stab, Slot.dat, Slot.arg, lenOf, enumD, zipD, List.set_cons_zero, List.set_cons_succ, List.getElem?_cons_zero, List.getElem?_cons_succ, List.getElem?_nil, List.length_cons, List.length_nil, List.cons_append, List.nil_append, List.reduceReplicate, List.map_cons, List.map_nil, Nat.reduceAdd, Nat.reduceSub, Nat.reduceLT, Nat.reduceLeDiff, Nat.zero_add, Nat.add_zero, true_and, and_true, Nat.zero_lt_succ, Int.reduceToNat, Int.reducePow, List.length_map, Int.reduceAdd, Nat.lt_add_one, Bool.true_xor, Bool.false_xor, Bool.not_not, rangeD_cons, rangeD_zero, Bool.not_true, Bool.not_false, fin, rk, rks, rk0, asB, outK, stillK, ints1, ints2, lst1, lst2, wSets, itemOf, truOf, getOf, ifB_true, ifB_false, k_nx, k_ret, k_bk, k_ct, k_ex, ent, ↓lpK, lpK, ↓DigQ]; exact h
  · rw [if_pos hn] at h
    simp -implicitDefEqProofs only [↓gOf, ↓h_while, ↓ifB_true, ↓ifB_false, ↓fin, ↓h_seq, ↓h_if, ↓wRet, ↓wRetN, ↓wRetV, ↓wAsg, ↓wFrz, ↓wFgt, ↓wDrop, ↓wAug, ↓wNext, ↓wBrk, ↓wCnt, ↓h_for, ↓wApp, ↓wSet, ↓wRaise, ↓wReverse, ↓wClear, ↓gN, ↓gT, ↓wSets, ↓rk, ↓rks, ↓rk0, ↓asB, ↓wVar, ↓wInt, ↓wBl, ↓wStr, ↓wNon, ↓wOp, ↓wUn, ↓wNot, ↓h_and, ↓h_or, ↓h_ite, ↓aNil, ↓aCons, ↓wTup, ↓wLst, ↓outK, ↓h_call, ↓oAdd, ↓oSub, ↓oMul, ↓oMod, ↓oDiv, ↓oPow, ↓oI0, ↓oI, ↓oLt, ↓oLe, ↓oGt, ↓oGe, ↓oNeg, ↓oIsB, ↓oIsN, ↓oEq, ↓oIx, ↓oIxN, ↓oIxL, ↓itemOf, ↓oLen, ↓oMin, ↓oMax, ↓oSum, ↓oList, ↓oDict, ↓oIsi, ↓wSlice, ↓wNoP, ↓wPart, ↓wIter, ↓stillK, ↓wRng1, ↓wRng2, ↓ints1, ↓ints2, ↓wEnum, ↓lst1, ↓wZip, ↓lst2, ↓wGet, ↓getOf, ↓wTru, ↓truOf, ↓h_chain, ↓wDnK, ↓wDnT, ↓h_lc, ↓unAt, Bool.decide_eq_true, Bool.decide_eq_false, Bool.and_true, Bool.and_false, Bool.true_and, Bool.false_and, beq_self_eq_true, Bool.true_beq, Bool.false_beq, decide_true, decide_false, eqok_int, eqok_bl, eqok_str, eqD_int, eqD_bl, eqD_str, frzS, stabs, Slot.stab, Slot.dat, Slot.arg, lenOf, enumD, zipD, List.set_cons_zero, List.set_cons_succ, List.getElem?_cons_zero, List.getElem?_cons_succ, List.getElem?_nil, List.length_cons, List.length_nil, List.cons_append, List.nil_append, List.reduceReplicate, List.map_cons, List.map_nil, Nat.reduceAdd, Nat.reduceSub, Nat.reduceLT, Nat.reduceLeDiff, Nat.zero_add, Nat.add_zero, true_and, and_true, Nat.zero_lt_succ, Int.reduceToNat, Int.reducePow, List.length_map, Int.reduceAdd, Nat.lt_add_one, Bool.true_xor, Bool.false_xor, Bool.not_not, rangeD_cons, rangeD_zero, Bool.not_true, Bool.not_false, fin, rk, rks, rk0, asB, outK, stillK, ints1, ints2, lst1, lst2, wSets, itemOf, truOf, getOf, ifB_true, ifB_false, k_nx, k_ret, k_bk, k_ct, k_ex, ent, ↓lpK, lpK, ↓DigQ]
    refine ifN_of (fun hn => ?_) (fun hn => ?_)
    · rw [if_neg hn] at h; simp -implicitDefEqProofs only [↓gOf, ↓h_while, ↓ifB_true, ↓ifB_false, ↓fin, ↓h_seq, ↓h_if, ↓wRet, ↓wRetN, ↓wRetV, ↓wAsg, ↓wFrz, ↓wFgt, ↓wDrop, ↓wAug, ↓wNext, ↓wBrk, ↓wCnt, ↓h_for, ↓wApp, ↓wSet, ↓wRaise, ↓wReverse, ↓wClear, ↓gN, ↓gT, ↓wSets, ↓rk, ↓rks, ↓rk0, ↓asB, ↓wVar, ↓wInt, ↓wBl, ↓wStr, ↓wNon, ↓wOp, ↓wUn, ↓wNot, ↓h_and, ↓h_or, ↓h_ite, ↓aNil, ↓aCons, ↓wTup, ↓wLst, ↓outK, ↓h_call, ↓oAdd, ↓oSub, ↓oMul, ↓oMod, ↓oDiv, ↓oPow, ↓oI0, ↓oI, ↓oLt, ↓oLe, ↓oGt, ↓oGe, ↓oNeg, ↓oIsB, ↓oIsN, ↓oEq, ↓oIx, ↓oIxN, ↓oIxL, ↓itemOf, ↓oLen, ↓oMin, ↓oMax, ↓oSum, ↓oList, ↓oDict, ↓oIsi, ↓wSlice, ↓wNoP, ↓wPart, ↓wIter, ↓stillK, ↓wRng1, ↓wRng2, ↓ints1, ↓ints2, ↓wEnum, ↓lst1, ↓wZip, ↓lst2, ↓wGet, ↓getOf, ↓wTru, ↓truOf, ↓h_chain, ↓wDnK, ↓wDnT, ↓h_lc, ↓unAt, Bool.decide_eq_true, Bool.decide_eq_false, Bool.and_true, Bool.and_false, Bool.true_and, Bool.false_and, beq_self_eq_true, Bool.true_beq, Bool.false_beq, decide_true, decide_false, eqok_int, eqok_bl, eqok_str, eqD_int, eqD_bl, eqD_str, frzS, stabs, Slot.stab, Slot.dat, Slot.arg, lenOf, enumD, zipD, List.set_cons_zero, List.set_cons_succ, List.getElem?_cons_zero, List.getElem?_cons_succ, List.getElem?_nil, List.length_cons, List.length_nil, List.cons_append, List.nil_append, List.reduceReplicate, List.map_cons, List.map_nil, Nat.reduceAdd, Nat.reduceSub, Nat.reduceLT, Nat.reduceLeDiff, Nat.zero_add, Nat.add_zero, true_and, and_true, Nat.zero_lt_succ, Int.reduceToNat, Int.reducePow, List.length_map, Int.reduceAdd, Nat.lt_add_one, Bool.true_xor, Bool.false_xor, Bool.not_not, rangeD_cons, rangeD_zero, Bool.not_true, Bool.not_false, fin, rk, rks, rk0, asB, outK, stillK, ints1, ints2, lst1, lst2, wSets, itemOf, truOf, getOf, ifB_true, ifB_false, k_nx, k_ret, k_bk, k_ct, k_ex, ent, ↓lpK, lpK, ↓DigQ]; exact h
    · rw [if_pos hn] at h; simp -implicitDefEqProofs only [↓gOf, ↓h_while, ↓ifB_true, ↓ifB_false, ↓fin, ↓h_seq, ↓h_if, ↓wRet, ↓wRetN, ↓wRetV, ↓wAsg, ↓wFrz, ↓wFgt, ↓wDrop, ↓wAug, ↓wNext, ↓wBrk, ↓wCnt, ↓h_for, ↓wApp, ↓wSet, ↓wRaise, ↓wReverse, ↓wClear, ↓gN, ↓gT, ↓wSets, ↓rk, ↓rks, ↓rk0, ↓asB, ↓wVar, ↓wInt, ↓wBl, ↓wStr, ↓wNon, ↓wOp, ↓wUn, ↓wNot, ↓h_and, ↓h_or, ↓h_ite, ↓aNil, ↓aCons, ↓wTup, ↓wLst, ↓outK, ↓h_call, ↓oAdd, ↓oSub, ↓oMul, ↓oMod, ↓oDiv, ↓oPow, ↓oI0, ↓oI, ↓oLt, ↓oLe, ↓oGt, ↓oGe, ↓oNeg, ↓oIsB, ↓oIsN, ↓oEq, ↓oIx, ↓oIxN, ↓oIxL, ↓itemOf, ↓oLen, ↓oMin, ↓oMax, ↓oSum, ↓oList, ↓oDict, ↓oIsi, ↓wSlice, ↓wNoP, ↓wPart, ↓wIter, ↓stillK, ↓wRng1, ↓wRng2, ↓ints1, ↓ints2, ↓wEnum, ↓lst1, ↓wZip, ↓lst2, ↓wGet, ↓getOf, ↓wTru, ↓truOf, ↓h_chain, ↓wDnK, ↓wDnT, ↓h_lc, ↓unAt, Bool.decide_eq_true, Bool.decide_eq_false, Bool.and_true, Bool.and_false, Bool.true_and, Bool.false_and, beq_self_eq_true, Bool.true_beq, Bool.false_beq, decide_true, decide_false, eqok_int, eqok_bl, eqok_str, eqD_int, eqD_bl, eqD_str, frzS, stabs, Slot.stab, Slot.dat, Slot.arg, lenOf, enumD, zipD, List.set_cons_zero, List.set_cons_succ, List.getElem?_cons_zero, List.getElem?_cons_succ, List.getElem?_nil, List.length_cons, List.length_nil, List.cons_append, List.nil_append, List.reduceReplicate, List.map_cons, List.map_nil, Nat.reduceAdd, Nat.reduceSub, Nat.reduceLT, Nat.reduceLeDiff, Nat.zero_add, Nat.add_zero, true_and, and_true, Nat.zero_lt_succ, Int.reduceToNat, Int.reducePow, List.length_map, Int.reduceAdd, Nat.lt_add_one, Bool.true_xor, Bool.false_xor, Bool.not_not, rangeD_cons, rangeD_zero, Bool.not_true, Bool.not_false, fin, rk, rks, rk0, asB, outK, stillK, ints1, ints2, lst1, lst2, wSets, itemOf, truOf, getOf, ifB_true, ifB_false, k_nx, k_ret, k_bk, k_ct, k_ex, ent, ↓lpK, lpK, ↓DigQ]; exact h
theorem lex_self (a n y : Int) : lexB a n y a n y = false := by simp [lexB]
theorem p_tail (s : D) (ch : Int) (X Y : D) (a n y : Int) (z w : D) (a' n' y' : Int) (z' w' : D) (hx : X = ent a n y z w) (hy : Y = ent a' n' y' z' w') : w_law_t6 [.sh s, .sh X, .sh Y, .sh (.int ch), .un, .un, .un] (fin fun r => r = .ok (.sh (.bl true))) := by
  subst hx hy
  have e1 : ∀ z w, D.tup [.int a, .int n, .int y, z, w] = ent a n y z w := fun _ _ => rfl
  have e2 : D.tup [.int a', .int n', .int y', z', w'] = ent a' n' y' z' w' := rfl
  simp -implicitDefEqProofs only [↓w_law_t6, ↓gOf, ↓h_while, ↓ifB_true, ↓ifB_false, ↓fin, ↓h_seq, ↓h_if, ↓wRet, ↓wRetN, ↓wRetV, ↓wAsg, ↓wFrz, ↓wFgt, ↓wDrop, ↓wAug, ↓wNext, ↓wBrk, ↓wCnt, ↓h_for, ↓wApp, ↓wSet, ↓wRaise, ↓wReverse, ↓wClear, ↓gN, ↓gT, ↓wSets, ↓rk, ↓rks, ↓rk0, ↓asB, ↓wVar, ↓wInt, ↓wBl, ↓wStr, ↓wNon, ↓wOp, ↓wUn, ↓wNot, ↓h_and, ↓h_or, ↓h_ite, ↓aNil, ↓aCons, ↓wTup, ↓wLst, ↓outK, ↓h_call, ↓oAdd, ↓oSub, ↓oMul, ↓oMod, ↓oDiv, ↓oPow, ↓oI0, ↓oI, ↓oLt, ↓oLe, ↓oGt, ↓oGe, ↓oNeg, ↓oIsB, ↓oIsN, ↓oEq, ↓oIx, ↓oIxN, ↓oIxL, ↓itemOf, ↓oLen, ↓oMin, ↓oMax, ↓oSum, ↓oList, ↓oDict, ↓oIsi, ↓wSlice, ↓wNoP, ↓wPart, ↓wIter, ↓stillK, ↓wRng1, ↓wRng2, ↓ints1, ↓ints2, ↓wEnum, ↓lst1, ↓wZip, ↓lst2, ↓wGet, ↓getOf, ↓wTru, ↓truOf, ↓h_chain, ↓wDnK, ↓wDnT, ↓h_lc, ↓unAt, Bool.decide_eq_true, Bool.decide_eq_false, Bool.and_true, Bool.and_false, Bool.true_and, Bool.false_and, beq_self_eq_true, Bool.true_beq, Bool.false_beq, decide_true, decide_false, eqok_int, eqok_bl, eqok_str, eqD_int, eqD_bl, eqD_str, frzS, stabs, Slot.stab, Slot.dat, Slot.arg, lenOf, enumD, zipD, List.set_cons_zero, List.set_cons_succ, List.getElem?_cons_zero, List.getElem?_cons_succ, List.getElem?_nil, List.length_cons, List.length_nil, List.cons_append, List.nil_append, List.reduceReplicate, List.map_cons, List.map_nil, Nat.reduceAdd, Nat.reduceSub, Nat.reduceLT, Nat.reduceLeDiff, Nat.zero_add, Nat.add_zero, true_and, and_true, Nat.zero_lt_succ, Int.reduceToNat, Int.reducePow, List.length_map, Int.reduceAdd, Nat.lt_add_one, Bool.true_xor, Bool.false_xor, Bool.not_not, rangeD_cons, rangeD_zero, Bool.not_true, Bool.not_false, fin, rk, rks, rk0, asB, outK, stillK, ints1, ints2, lst1, lst2, wSets, itemOf, truOf, getOf, ifB_true, ifB_false, k_nx, k_ret, k_bk, k_ct, k_ex, ent, ↓lpK, lpK, ↓DigQ]
  refine p_ahead a n y z w a n y z w _ (hold ?_)
  rw [lex_self]
  simp -implicitDefEqProofs only [↓gOf, ↓h_while, ↓ifB_true, ↓ifB_false, ↓fin, ↓h_seq, ↓h_if, ↓wRet, ↓wRetN, ↓wRetV, ↓wAsg, ↓wFrz, ↓wFgt, ↓wDrop, ↓wAug, ↓wNext, ↓wBrk, ↓wCnt, ↓h_for, ↓wApp, ↓wSet, ↓wRaise, ↓wReverse, ↓wClear, ↓gN, ↓gT, ↓wSets, ↓rk, ↓rks, ↓rk0, ↓asB, ↓wVar, ↓wInt, ↓wBl, ↓wStr, ↓wNon, ↓wOp, ↓wUn, ↓wNot, ↓h_and, ↓h_or, ↓h_ite, ↓aNil, ↓aCons, ↓wTup, ↓wLst, ↓outK, ↓h_call, ↓oAdd, ↓oSub, ↓oMul, ↓oMod, ↓oDiv, ↓oPow, ↓oI0, ↓oI, ↓oLt, ↓oLe, ↓oGt, ↓oGe, ↓oNeg, ↓oIsB, ↓oIsN, ↓oEq, ↓oIx, ↓oIxN, ↓oIxL, ↓itemOf, ↓oLen, ↓oMin, ↓oMax, ↓oSum, ↓oList, ↓oDict, ↓oIsi, ↓wSlice, ↓wNoP, ↓wPart, ↓wIter, ↓stillK, ↓wRng1, ↓wRng2, ↓ints1, ↓ints2, ↓wEnum, ↓lst1, ↓wZip, ↓lst2, ↓wGet, ↓getOf, ↓wTru, ↓truOf, ↓h_chain, ↓wDnK, ↓wDnT, ↓h_lc, ↓unAt, Bool.decide_eq_true, Bool.decide_eq_false, Bool.and_true, Bool.and_false, Bool.true_and, Bool.false_and, beq_self_eq_true, Bool.true_beq, Bool.false_beq, decide_true, decide_false, eqok_int, eqok_bl, eqok_str, eqD_int, eqD_bl, eqD_str, frzS, stabs, Slot.stab, Slot.dat, Slot.arg, lenOf, enumD, zipD, List.set_cons_zero, List.set_cons_succ, List.getElem?_cons_zero, List.getElem?_cons_succ, List.getElem?_nil, List.length_cons, List.length_nil, List.cons_append, List.nil_append, List.reduceReplicate, List.map_cons, List.map_nil, Nat.reduceAdd, Nat.reduceSub, Nat.reduceLT, Nat.reduceLeDiff, Nat.zero_add, Nat.add_zero, true_and, and_true, Nat.zero_lt_succ, Int.reduceToNat, Int.reducePow, List.length_map, Int.reduceAdd, Nat.lt_add_one, Bool.true_xor, Bool.false_xor, Bool.not_not, rangeD_cons, rangeD_zero, Bool.not_true, Bool.not_false, fin, rk, rks, rk0, asB, outK, stillK, ints1, ints2, lst1, lst2, wSets, itemOf, truOf, getOf, ifB_true, ifB_false, k_nx, k_ret, k_bk, k_ct, k_ex, ent, ↓lpK, lpK, ↓DigQ]
  refine p_ahead a n y z w a n y z' w' _ (hold ?_)
  rw [lex_self]
  simp -implicitDefEqProofs only [↓gOf, ↓h_while, ↓ifB_true, ↓ifB_false, ↓fin, ↓h_seq, ↓h_if, ↓wRet, ↓wRetN, ↓wRetV, ↓wAsg, ↓wFrz, ↓wFgt, ↓wDrop, ↓wAug, ↓wNext, ↓wBrk, ↓wCnt, ↓h_for, ↓wApp, ↓wSet, ↓wRaise, ↓wReverse, ↓wClear, ↓gN, ↓gT, ↓wSets, ↓rk, ↓rks, ↓rk0, ↓asB, ↓wVar, ↓wInt, ↓wBl, ↓wStr, ↓wNon, ↓wOp, ↓wUn, ↓wNot, ↓h_and, ↓h_or, ↓h_ite, ↓aNil, ↓aCons, ↓wTup, ↓wLst, ↓outK, ↓h_call, ↓oAdd, ↓oSub, ↓oMul, ↓oMod, ↓oDiv, ↓oPow, ↓oI0, ↓oI, ↓oLt, ↓oLe, ↓oGt, ↓oGe, ↓oNeg, ↓oIsB, ↓oIsN, ↓oEq, ↓oIx, ↓oIxN, ↓oIxL, ↓itemOf, ↓oLen, ↓oMin, ↓oMax, ↓oSum, ↓oList, ↓oDict, ↓oIsi, ↓wSlice, ↓wNoP, ↓wPart, ↓wIter, ↓stillK, ↓wRng1, ↓wRng2, ↓ints1, ↓ints2, ↓wEnum, ↓lst1, ↓wZip, ↓lst2, ↓wGet, ↓getOf, ↓wTru, ↓truOf, ↓h_chain, ↓wDnK, ↓wDnT, ↓h_lc, ↓unAt, Bool.decide_eq_true, Bool.decide_eq_false, Bool.and_true, Bool.and_false, Bool.true_and, Bool.false_and, beq_self_eq_true, Bool.true_beq, Bool.false_beq, decide_true, decide_false, eqok_int, eqok_bl, eqok_str, eqD_int, eqD_bl, eqD_str, frzS, stabs, Slot.stab, Slot.dat, Slot.arg, lenOf, enumD, zipD, List.set_cons_zero, List.set_cons_succ, List.getElem?_cons_zero, List.getElem?_cons_succ, List.getElem?_nil, List.length_cons, List.length_nil, List.cons_append, List.nil_append, List.reduceReplicate, List.map_cons, List.map_nil, Nat.reduceAdd, Nat.reduceSub, Nat.reduceLT, Nat.reduceLeDiff, Nat.zero_add, Nat.add_zero, true_and, and_true, Nat.zero_lt_succ, Int.reduceToNat, Int.reducePow, List.length_map, Int.reduceAdd, Nat.lt_add_one, Bool.true_xor, Bool.false_xor, Bool.not_not, rangeD_cons, rangeD_zero, Bool.not_true, Bool.not_false, fin, rk, rks, rk0, asB, outK, stillK, ints1, ints2, lst1, lst2, wSets, itemOf, truOf, getOf, ifB_true, ifB_false, k_nx, k_ret, k_bk, k_ct, k_ex, ent, ↓lpK, lpK, ↓DigQ]
  refine p_ahead a n y z' w' a n y z w _ (hold ?_)
  rw [lex_self]
  simp -implicitDefEqProofs only [↓gOf, ↓h_while, ↓ifB_true, ↓ifB_false, ↓fin, ↓h_seq, ↓h_if, ↓wRet, ↓wRetN, ↓wRetV, ↓wAsg, ↓wFrz, ↓wFgt, ↓wDrop, ↓wAug, ↓wNext, ↓wBrk, ↓wCnt, ↓h_for, ↓wApp, ↓wSet, ↓wRaise, ↓wReverse, ↓wClear, ↓gN, ↓gT, ↓wSets, ↓rk, ↓rks, ↓rk0, ↓asB, ↓wVar, ↓wInt, ↓wBl, ↓wStr, ↓wNon, ↓wOp, ↓wUn, ↓wNot, ↓h_and, ↓h_or, ↓h_ite, ↓aNil, ↓aCons, ↓wTup, ↓wLst, ↓outK, ↓h_call, ↓oAdd, ↓oSub, ↓oMul, ↓oMod, ↓oDiv, ↓oPow, ↓oI0, ↓oI, ↓oLt, ↓oLe, ↓oGt, ↓oGe, ↓oNeg, ↓oIsB, ↓oIsN, ↓oEq, ↓oIx, ↓oIxN, ↓oIxL, ↓itemOf, ↓oLen, ↓oMin, ↓oMax, ↓oSum, ↓oList, ↓oDict, ↓oIsi, ↓wSlice, ↓wNoP, ↓wPart, ↓wIter, ↓stillK, ↓wRng1, ↓wRng2, ↓ints1, ↓ints2, ↓wEnum, ↓lst1, ↓wZip, ↓lst2, ↓wGet, ↓getOf, ↓wTru, ↓truOf, ↓h_chain, ↓wDnK, ↓wDnT, ↓h_lc, ↓unAt, Bool.decide_eq_true, Bool.decide_eq_false, Bool.and_true, Bool.and_false, Bool.true_and, Bool.false_and, beq_self_eq_true, Bool.true_beq, Bool.false_beq, decide_true, decide_false, eqok_int, eqok_bl, eqok_str, eqD_int, eqD_bl, eqD_str, frzS, stabs, Slot.stab, Slot.dat, Slot.arg, lenOf, enumD, zipD, List.set_cons_zero, List.set_cons_succ, List.getElem?_cons_zero, List.getElem?_cons_succ, List.getElem?_nil, List.length_cons, List.length_nil, List.cons_append, List.nil_append, List.reduceReplicate, List.map_cons, List.map_nil, Nat.reduceAdd, Nat.reduceSub, Nat.reduceLT, Nat.reduceLeDiff, Nat.zero_add, Nat.add_zero, true_and, and_true, Nat.zero_lt_succ, Int.reduceToNat, Int.reducePow, List.length_map, Int.reduceAdd, Nat.lt_add_one, Bool.true_xor, Bool.false_xor, Bool.not_not, rangeD_cons, rangeD_zero, Bool.not_true, Bool.not_false, fin, rk, rks, rk0, asB, outK, stillK, ints1, ints2, lst1, lst2, wSets, itemOf, truOf, getOf, ifB_true, ifB_false, k_nx, k_ret, k_bk, k_ct, k_ex, ent, ↓lpK, lpK, ↓DigQ]
  have go : ¬ (n = n' ∧ y = y') → w_law_t9 [.sh s, .sh (ent a n y z w), .sh (ent a' n' y' z' w'), .sh (.int ch), .sh (ent a n y z' w'), .un, .un] (fin fun r => r = .ok (.sh (.bl true))) := by
    intro hne
    simp -implicitDefEqProofs only [↓w_law_t9, ↓gOf, ↓h_while, ↓ifB_true, ↓ifB_false, ↓fin, ↓h_seq, ↓h_if, ↓wRet, ↓wRetN, ↓wRetV, ↓wAsg, ↓wFrz, ↓wFgt, ↓wDrop, ↓wAug, ↓wNext, ↓wBrk, ↓wCnt, ↓h_for, ↓wApp, ↓wSet, ↓wRaise, ↓wReverse, ↓wClear, ↓gN, ↓gT, ↓wSets, ↓rk, ↓rks, ↓rk0, ↓asB, ↓wVar, ↓wInt, ↓wBl, ↓wStr, ↓wNon, ↓wOp, ↓wUn, ↓wNot, ↓h_and, ↓h_or, ↓h_ite, ↓aNil, ↓aCons, ↓wTup, ↓wLst, ↓outK, ↓h_call, ↓oAdd, ↓oSub, ↓oMul, ↓oMod, ↓oDiv, ↓oPow, ↓oI0, ↓oI, ↓oLt, ↓oLe, ↓oGt, ↓oGe, ↓oNeg, ↓oIsB, ↓oIsN, ↓oEq, ↓oIx, ↓oIxN, ↓oIxL, ↓itemOf, ↓oLen, ↓oMin, ↓oMax, ↓oSum, ↓oList, ↓oDict, ↓oIsi, ↓wSlice, ↓wNoP, ↓wPart, ↓wIter, ↓stillK, ↓wRng1, ↓wRng2, ↓ints1, ↓ints2, ↓wEnum, ↓lst1, ↓wZip, ↓lst2, ↓wGet, ↓getOf, ↓wTru, ↓truOf, ↓h_chain, ↓wDnK, ↓wDnT, ↓h_lc, ↓unAt, Bool.decide_eq_true, Bool.decide_eq_false, Bool.and_true, Bool.and_false, Bool.true_and, Bool.false_and, beq_self_eq_true, Bool.true_beq, Bool.false_beq, decide_true, decide_false, eqok_int, eqok_bl, eqok_str, eqD_int, eqD_bl, eqD_str, frzS, stabs, Slot.stab, Slot.dat, Slot.arg, lenOf, enumD, zipD, List.set_cons_zero, List.set_cons_succ, List.getElem?_cons_zero, List.getElem?_cons_succ, List.getElem?_nil, List.length_cons, List.length_nil, List.cons_append, List.nil_append, List.reduceReplicate, List.map_cons, List.map_nil, Nat.reduceAdd, Nat.reduceSub, Nat.reduceLT, Nat.reduceLeDiff, Nat.zero_add, Nat.add_zero, true_and, and_true, Nat.zero_lt_succ, Int.reduceToNat, Int.reducePow, List.length_map, Int.reduceAdd, Nat.lt_add_one, Bool.true_xor, Bool.false_xor, Bool.not_not, rangeD_cons, rangeD_zero, Bool.not_true, Bool.not_false, fin, rk, rks, rk0, asB, outK, stillK, ints1, ints2, lst1, lst2, wSets, itemOf, truOf, getOf, ifB_true, ifB_false, k_nx, k_ret, k_bk, k_ct, k_ex, ent, ↓lpK, lpK, ↓DigQ]
    refine p_ahead a n y z w a' n' y' z' w' _ (hold ?_)
    simp -implicitDefEqProofs only [↓gOf, ↓h_while, ↓ifB_true, ↓ifB_false, ↓fin, ↓h_seq, ↓h_if, ↓wRet, ↓wRetN, ↓wRetV, ↓wAsg, ↓wFrz, ↓wFgt, ↓wDrop, ↓wAug, ↓wNext, ↓wBrk, ↓wCnt, ↓h_for, ↓wApp, ↓wSet, ↓wRaise, ↓wReverse, ↓wClear, ↓gN, ↓gT, ↓wSets, ↓rk, ↓rks, ↓rk0, ↓asB, ↓wVar, ↓wInt, ↓wBl, ↓wStr, ↓wNon, ↓wOp, ↓wUn, ↓wNot, ↓h_and, ↓h_or, ↓h_ite, ↓aNil, ↓aCons, ↓wTup, ↓wLst, ↓outK, ↓h_call, ↓oAdd, ↓oSub, ↓oMul, ↓oMod, ↓oDiv, ↓oPow, ↓oI0, ↓oI, ↓oLt, ↓oLe, ↓oGt, ↓oGe, ↓oNeg, ↓oIsB, ↓oIsN, ↓oEq, ↓oIx, ↓oIxN, ↓oIxL, ↓itemOf, ↓oLen, ↓oMin, ↓oMax, ↓oSum, ↓oList, ↓oDict, ↓oIsi, ↓wSlice, ↓wNoP, ↓wPart, ↓wIter, ↓stillK, ↓wRng1, ↓wRng2, ↓ints1, ↓ints2, ↓wEnum, ↓lst1, ↓wZip, ↓lst2, ↓wGet, ↓getOf, ↓wTru, ↓truOf, ↓h_chain, ↓wDnK, ↓wDnT, ↓h_lc, ↓unAt, Bool.decide_eq_true, Bool.decide_eq_false, Bool.and_true, Bool.and_false, Bool.true_and, Bool.false_and, beq_self_eq_true, Bool.true_beq, Bool.false_beq, decide_true, decide_false, eqok_int, eqok_bl, eqok_str, eqD_int, eqD_bl, eqD_str, frzS, stabs, Slot.stab, Slot.dat, Slot.arg, lenOf, enumD, zipD, List.set_cons_zero, List.set_cons_succ, List.getElem?_cons_zero, List.getElem?_cons_succ, List.getElem?_nil, List.length_cons, List.length_nil, List.cons_append, List.nil_append, List.reduceReplicate, List.map_cons, List.map_nil, Nat.reduceAdd, Nat.reduceSub, Nat.reduceLT, Nat.reduceLeDiff, Nat.zero_add, Nat.add_zero, true_and, and_true, Nat.zero_lt_succ, Int.reduceToNat, Int.reducePow, List.length_map, Int.reduceAdd, Nat.lt_add_one, Bool.true_xor, Bool.false_xor, Bool.not_not, rangeD_cons, rangeD_zero, Bool.not_true, Bool.not_false, fin, rk, rks, rk0, asB, outK, stillK, ints1, ints2, lst1, lst2, wSets, itemOf, truOf, getOf, ifB_true, ifB_false, k_nx, k_ret, k_bk, k_ct, k_ex, ent, ↓lpK, lpK, ↓DigQ]
    refine p_ahead a' n' y' z' w' a n y z w _ (hold ?_)
    simp -implicitDefEqProofs only [↓gOf, ↓h_while, ↓ifB_true, ↓ifB_false, ↓fin, ↓h_seq, ↓h_if, ↓wRet, ↓wRetN, ↓wRetV, ↓wAsg, ↓wFrz, ↓wFgt, ↓wDrop, ↓wAug, ↓wNext, ↓wBrk, ↓wCnt, ↓h_for, ↓wApp, ↓wSet, ↓wRaise, ↓wReverse, ↓wClear, ↓gN, ↓gT, ↓wSets, ↓rk, ↓rks, ↓rk0, ↓asB, ↓wVar, ↓wInt, ↓wBl, ↓wStr, ↓wNon, ↓wOp, ↓wUn, ↓wNot, ↓h_and, ↓h_or, ↓h_ite, ↓aNil, ↓aCons, ↓wTup, ↓wLst, ↓outK, ↓h_call, ↓oAdd, ↓oSub, ↓oMul, ↓oMod, ↓oDiv, ↓oPow, ↓oI0, ↓oI, ↓oLt, ↓oLe, ↓oGt, ↓oGe, ↓oNeg, ↓oIsB, ↓oIsN, ↓oEq, ↓oIx, ↓oIxN, ↓oIxL, ↓itemOf, ↓oLen, ↓oMin, ↓oMax, ↓oSum, ↓oList, ↓oDict, ↓oIsi, ↓wSlice, ↓wNoP, ↓wPart, ↓wIter, ↓stillK, ↓wRng1, ↓wRng2, ↓ints1, ↓ints2, ↓wEnum, ↓lst1, ↓wZip, ↓lst2, ↓wGet, ↓getOf, ↓wTru, ↓truOf, ↓h_chain, ↓wDnK, ↓wDnT, ↓h_lc, ↓unAt, Bool.decide_eq_true, Bool.decide_eq_false, Bool.and_true, Bool.and_false, Bool.true_and, Bool.false_and, beq_self_eq_true, Bool.true_beq, Bool.false_beq, decide_true, decide_false, eqok_int, eqok_bl, eqok_str, eqD_int, eqD_bl, eqD_str, frzS, stabs, Slot.stab, Slot.dat, Slot.arg, lenOf, enumD, zipD, List.set_cons_zero, List.set_cons_succ, List.getElem?_cons_zero, List.getElem?_cons_succ, List.getElem?_nil, List.length_cons, List.length_nil, List.cons_append, List.nil_append, List.reduceReplicate, List.map_cons, List.map_nil, Nat.reduceAdd, Nat.reduceSub, Nat.reduceLT, Nat.reduceLeDiff, Nat.zero_add, Nat.add_zero, true_and, and_true, Nat.zero_lt_succ, Int.reduceToNat, Int.reducePow, List.length_map, Int.reduceAdd, Nat.lt_add_one, Bool.true_xor, Bool.false_xor, Bool.not_not, rangeD_cons, rangeD_zero, Bool.not_true, Bool.not_false, fin, rk, rks, rk0, asB, outK, stillK, ints1, ints2, lst1, lst2, wSets, itemOf, truOf, getOf, ifB_true, ifB_false, k_nx, k_ret, k_bk, k_ct, k_ex, ent, ↓lpK, lpK, ↓DigQ]
    have hx : lexB a' n' y' a n y = !lexB a n y a' n' y' := by
      unfold lexB
      by_cases h1 : a = a'
      · subst h1
        by_cases h2 : n = n'
        · subst h2
          by_cases h3 : y < y'
          · simp [h3]; omega
          · simp [h3]; omega
        · have h2' : ¬ n' = n := fun z => h2 z.symm
          by_cases h3 : n < n'
          · simp [h2, h2', h3]; omega
          · simp [h2, h2', h3]; omega
      · have h1' : ¬ a' = a := fun z => h1 z.symm
        by_cases h3 : a < a'
        · simp [h1, h1', h3]; omega
        · simp [h1, h1', h3]; omega
    have d1 := fun Q h => p_due a n y z w a' n' y' z' w' Q h
    have d2 := fun Q h => p_due a' n' y' z' w' a n y z w Q h
    rw [hx] at d2 ⊢
    generalize lexB a n y a' n' y' = b at *
    cases b with
    | true =>
      simp -implicitDefEqProofs only [↓gOf, ↓h_while, ↓ifB_true, ↓ifB_false, ↓fin, ↓h_seq, ↓h_if, ↓wRet, ↓wRetN, ↓wRetV, ↓wAsg, ↓wFrz, ↓wFgt, ↓wDrop, ↓wAug, ↓wNext, ↓wBrk, ↓wCnt, ↓h_for, ↓wApp, ↓wSet, ↓wRaise, ↓wReverse, ↓wClear, ↓gN, ↓gT, ↓wSets, ↓rk, ↓rks, ↓rk0, ↓asB, ↓wVar, ↓wInt, ↓wBl, ↓wStr, ↓wNon, ↓wOp, ↓wUn, ↓wNot, ↓h_and, ↓h_or, ↓h_ite, ↓aNil, ↓aCons, ↓wTup, ↓wLst, ↓outK, ↓h_call, ↓oAdd, ↓oSub, ↓oMul, ↓oMod, ↓oDiv, ↓oPow, ↓oI0, ↓oI, ↓oLt, ↓oLe, ↓oGt, ↓oGe, ↓oNeg, ↓oIsB, ↓oIsN, ↓oEq, ↓oIx, ↓oIxN, ↓oIxL, ↓itemOf, ↓oLen, ↓oMin, ↓oMax, ↓oSum, ↓oList, ↓oDict, ↓oIsi, ↓wSlice, ↓wNoP, ↓wPart, ↓wIter, ↓stillK, ↓wRng1, ↓wRng2, ↓ints1, ↓ints2, ↓wEnum, ↓lst1, ↓wZip, ↓lst2, ↓wGet, ↓getOf, ↓wTru, ↓truOf, ↓h_chain, ↓wDnK, ↓wDnT, ↓h_lc, ↓unAt, Bool.decide_eq_true, Bool.decide_eq_false, Bool.and_true, Bool.and_false, Bool.true_and, Bool.false_and, beq_self_eq_true, Bool.true_beq, Bool.false_beq, decide_true, decide_false, eqok_int, eqok_bl, eqok_str, eqD_int, eqD_bl, eqD_str, frzS, stabs, Slot.stab, Slot.dat, Slot.arg, lenOf, enumD, zipD, List.set_cons_zero, List.set_cons_succ, List.getElem?_cons_zero, List.getElem?_cons_succ, List.getElem?_nil, List.length_cons, List.length_nil, List.cons_append, List.nil_append, List.reduceReplicate, List.map_cons, List.map_nil, Nat.reduceAdd, Nat.reduceSub, Nat.reduceLT, Nat.reduceLeDiff, Nat.zero_add, Nat.add_zero, true_and, and_true, Nat.zero_lt_succ, Int.reduceToNat, Int.reducePow, List.length_map, Int.reduceAdd, Nat.lt_add_one, Bool.true_xor, Bool.false_xor, Bool.not_not, rangeD_cons, rangeD_zero, Bool.not_true, Bool.not_false, fin, rk, rks, rk0, asB, outK, stillK, ints1, ints2, lst1, lst2, wSets, itemOf, truOf, getOf, ifB_true, ifB_false, k_nx, k_ret, k_bk, k_ct, k_ex, ent, ↓lpK, lpK, ↓DigQ]
      refine d1 _ (hold ?_)
      simp -implicitDefEqProofs only [↓gOf, ↓h_while, ↓ifB_true, ↓ifB_false, ↓fin, ↓h_seq, ↓h_if, ↓wRet, ↓wRetN, ↓wRetV, ↓wAsg, ↓wFrz, ↓wFgt, ↓wDrop, ↓wAug, ↓wNext, ↓wBrk, ↓wCnt, ↓h_for, ↓wApp, ↓wSet, ↓wRaise, ↓wReverse, ↓wClear, ↓gN, ↓gT, ↓wSets, ↓rk, ↓rks, ↓rk0, ↓asB, ↓wVar, ↓wInt, ↓wBl, ↓wStr, ↓wNon, ↓wOp, ↓wUn, ↓wNot, ↓h_and, ↓h_or, ↓h_ite, ↓aNil, ↓aCons, ↓wTup, ↓wLst, ↓outK, ↓h_call, ↓oAdd, ↓oSub, ↓oMul, ↓oMod, ↓oDiv, ↓oPow, ↓oI0, ↓oI, ↓oLt, ↓oLe, ↓oGt, ↓oGe, ↓oNeg, ↓oIsB, ↓oIsN, ↓oEq, ↓oIx, ↓oIxN, ↓oIxL, ↓itemOf, ↓oLen, ↓oMin, ↓oMax, ↓oSum, ↓oList, ↓oDict, ↓oIsi, ↓wSlice, ↓wNoP, ↓wPart, ↓wIter, ↓stillK, ↓wRng1, ↓wRng2, ↓ints1, ↓ints2, ↓wEnum, ↓lst1, ↓wZip, ↓lst2, ↓wGet, ↓getOf, ↓wTru, ↓truOf, ↓h_chain, ↓wDnK, ↓wDnT, ↓h_lc, ↓unAt, Bool.decide_eq_true, Bool.decide_eq_false, Bool.and_true, Bool.and_false, Bool.true_and, Bool.false_and, beq_self_eq_true, Bool.true_beq, Bool.false_beq, decide_true, decide_false, eqok_int, eqok_bl, eqok_str, eqD_int, eqD_bl, eqD_str, frzS, stabs, Slot.stab, Slot.dat, Slot.arg, lenOf, enumD, zipD, List.set_cons_zero, List.set_cons_succ, List.getElem?_cons_zero, List.getElem?_cons_succ, List.getElem?_nil, List.length_cons, List.length_nil, List.cons_append, List.nil_append, List.reduceReplicate, List.map_cons, List.map_nil, Nat.reduceAdd, Nat.reduceSub, Nat.reduceLT, Nat.reduceLeDiff, Nat.zero_add, Nat.add_zero, true_and, and_true, Nat.zero_lt_succ, Int.reduceToNat, Int.reducePow, List.length_map, Int.reduceAdd, Nat.lt_add_one, Bool.true_xor, Bool.false_xor, Bool.not_not, rangeD_cons, rangeD_zero, Bool.not_true, Bool.not_false, fin, rk, rks, rk0, asB, outK, stillK, ints1, ints2, lst1, lst2, wSets, itemOf, truOf, getOf, ifB_true, ifB_false, k_nx, k_ret, k_bk, k_ct, k_ex, ent, ↓lpK, lpK, ↓DigQ]
      refine d2 _ (hold ?_)
      simp -implicitDefEqProofs only [↓gOf, ↓h_while, ↓ifB_true, ↓ifB_false, ↓fin, ↓h_seq, ↓h_if, ↓wRet, ↓wRetN, ↓wRetV, ↓wAsg, ↓wFrz, ↓wFgt, ↓wDrop, ↓wAug, ↓wNext, ↓wBrk, ↓wCnt, ↓h_for, ↓wApp, ↓wSet, ↓wRaise, ↓wReverse, ↓wClear, ↓gN, ↓gT, ↓wSets, ↓rk, ↓rks, ↓rk0, ↓asB, ↓wVar, ↓wInt, ↓wBl, ↓wStr, ↓wNon, ↓wOp, ↓wUn, ↓wNot, ↓h_and, ↓h_or, ↓h_ite, ↓aNil, ↓aCons, ↓wTup, ↓wLst, ↓outK, ↓h_call, ↓oAdd, ↓oSub, ↓oMul, ↓oMod, ↓oDiv, ↓oPow, ↓oI0, ↓oI, ↓oLt, ↓oLe, ↓oGt, ↓oGe, ↓oNeg, ↓oIsB, ↓oIsN, ↓oEq, ↓oIx, ↓oIxN, ↓oIxL, ↓itemOf, ↓oLen, ↓oMin, ↓oMax, ↓oSum, ↓oList, ↓oDict, ↓oIsi, ↓wSlice, ↓wNoP, ↓wPart, ↓wIter, ↓stillK, ↓wRng1, ↓wRng2, ↓ints1, ↓ints2, ↓wEnum, ↓lst1, ↓wZip, ↓lst2, ↓wGet, ↓getOf, ↓wTru, ↓truOf, ↓h_chain, ↓wDnK, ↓wDnT, ↓h_lc, ↓unAt, Bool.decide_eq_true, Bool.decide_eq_false, Bool.and_true, Bool.and_false, Bool.true_and, Bool.false_and, beq_self_eq_true, Bool.true_beq, Bool.false_beq, decide_true, decide_false, eqok_int, eqok_bl, eqok_str, eqD_int, eqD_bl, eqD_str, frzS, stabs, Slot.stab, Slot.dat, Slot.arg, lenOf, enumD, zipD, List.set_cons_zero, List.set_cons_succ, List.getElem?_cons_zero, List.getElem?_cons_succ, List.getElem?_nil, List.length_cons, List.length_nil, List.cons_append, List.nil_append, List.reduceReplicate, List.map_cons, List.map_nil, Nat.reduceAdd, Nat.reduceSub, Nat.reduceLT, Nat.reduceLeDiff, Nat.zero_add, Nat.add_zero, true_and, and_true, Nat.zero_lt_succ, Int.reduceToNat, Int.reducePow, List.length_map, Int.reduceAdd, Nat.lt_add_one, Bool.true_xor, Bool.false_xor, Bool.not_not, rangeD_cons, rangeD_zero, Bool.not_true, Bool.not_false, fin, rk, rks, rk0, asB, outK, stillK, ints1, ints2, lst1, lst2, wSets, itemOf, truOf, getOf, ifB_true, ifB_false, k_nx, k_ret, k_bk, k_ct, k_ex, ent, ↓lpK, lpK, ↓DigQ]
    | false =>
      simp -implicitDefEqProofs only [↓gOf, ↓h_while, ↓ifB_true, ↓ifB_false, ↓fin, ↓h_seq, ↓h_if, ↓wRet, ↓wRetN, ↓wRetV, ↓wAsg, ↓wFrz, ↓wFgt, ↓wDrop, ↓wAug, ↓wNext, ↓wBrk, ↓wCnt, ↓h_for, ↓wApp, ↓wSet, ↓wRaise, ↓wReverse, ↓wClear, ↓gN, ↓gT, ↓wSets, ↓rk, ↓rks, ↓rk0, ↓asB, ↓wVar, ↓wInt, ↓wBl, ↓wStr, ↓wNon, ↓wOp, ↓wUn, ↓wNot, ↓h_and, ↓h_or, ↓h_ite, ↓aNil, ↓aCons, ↓wTup, ↓wLst, ↓outK, ↓h_call, ↓oAdd, ↓oSub, ↓oMul, ↓oMod, ↓oDiv, ↓oPow, ↓oI0, ↓oI, ↓oLt, ↓oLe, ↓oGt, ↓oGe, ↓oNeg, ↓oIsB, ↓oIsN, ↓oEq, ↓oIx, ↓oIxN, ↓oIxL, ↓itemOf, ↓oLen, ↓oMin, ↓oMax, ↓oSum, ↓oList, ↓oDict, ↓oIsi, ↓wSlice, ↓wNoP, ↓wPart, ↓wIter, ↓stillK, ↓wRng1, ↓wRng2, ↓ints1, ↓ints2, ↓wEnum, ↓lst1, ↓wZip, ↓lst2, ↓wGet, ↓getOf, ↓wTru, ↓truOf, ↓h_chain, ↓wDnK, ↓wDnT, ↓h_lc, ↓unAt, Bool.decide_eq_true, Bool.decide_eq_false, Bool.and_true, Bool.and_false, Bool.true_and, Bool.false_and, beq_self_eq_true, Bool.true_beq, Bool.false_beq, decide_true, decide_false, eqok_int, eqok_bl, eqok_str, eqD_int, eqD_bl, eqD_str, frzS, stabs, Slot.stab, Slot.dat, Slot.arg, lenOf, enumD, zipD, List.set_cons_zero, List.set_cons_succ, List.getElem?_cons_zero, List.getElem?_cons_succ, List.getElem?_nil, List.length_cons, List.length_nil, List.cons_append, List.nil_append, List.reduceReplicate, List.map_cons, List.map_nil, Nat.reduceAdd, Nat.reduceSub, Nat.reduceLT, Nat.reduceLeDiff, Nat.zero_add, Nat.add_zero, true_and, and_true, Nat.zero_lt_succ, Int.reduceToNat, Int.reducePow, List.length_map, Int.reduceAdd, Nat.lt_add_one, Bool.true_xor, Bool.false_xor, Bool.not_not, rangeD_cons, rangeD_zero, Bool.not_true, Bool.not_false, fin, rk, rks, rk0, asB, outK, stillK, ints1, ints2, lst1, lst2, wSets, itemOf, truOf, getOf, ifB_true, ifB_false, k_nx, k_ret, k_bk, k_ct, k_ex, ent, ↓lpK, lpK, ↓DigQ]
      refine d1 _ (hold ?_)
      simp -implicitDefEqProofs only [↓gOf, ↓h_while, ↓ifB_true, ↓ifB_false, ↓fin, ↓h_seq, ↓h_if, ↓wRet, ↓wRetN, ↓wRetV, ↓wAsg, ↓wFrz, ↓wFgt, ↓wDrop, ↓wAug, ↓wNext, ↓wBrk, ↓wCnt, ↓h_for, ↓wApp, ↓wSet, ↓wRaise, ↓wReverse, ↓wClear, ↓gN, ↓gT, ↓wSets, ↓rk, ↓rks, ↓rk0, ↓asB, ↓wVar, ↓wInt, ↓wBl, ↓wStr, ↓wNon, ↓wOp, ↓wUn, ↓wNot, ↓h_and, ↓h_or, ↓h_ite, ↓aNil, ↓aCons, ↓wTup, ↓wLst, ↓outK, ↓h_call, ↓oAdd, ↓oSub, ↓oMul, ↓oMod, ↓oDiv, ↓oPow, ↓oI0, ↓oI, ↓oLt, ↓oLe, ↓oGt, ↓oGe, ↓oNeg, ↓oIsB, ↓oIsN, ↓oEq, ↓oIx, ↓oIxN, ↓oIxL, ↓itemOf, ↓oLen, ↓oMin, ↓oMax, ↓oSum, ↓oList, ↓oDict, ↓oIsi, ↓wSlice, ↓wNoP, ↓wPart, ↓wIter, ↓stillK, ↓wRng1, ↓wRng2, ↓ints1, ↓ints2, ↓wEnum, ↓lst1, ↓wZip, ↓lst2, ↓wGet, ↓getOf, ↓wTru, ↓truOf, ↓h_chain, ↓wDnK, ↓wDnT, ↓h_lc, ↓unAt, Bool.decide_eq_true, Bool.decide_eq_false, Bool.and_true, Bool.and_false, Bool.true_and, Bool.false_and, beq_self_eq_true, Bool.true_beq, Bool.false_beq, decide_true, decide_false, eqok_int, eqok_bl, eqok_str, eqD_int, eqD_bl, eqD_str, frzS, stabs, Slot.stab, Slot.dat, Slot.arg, lenOf, enumD, zipD, List.set_cons_zero, List.set_cons_succ, List.getElem?_cons_zero, List.getElem?_cons_succ, List.getElem?_nil, List.length_cons, List.length_nil, List.cons_append, List.nil_append, List.reduceReplicate, List.map_cons, List.map_nil, Nat.reduceAdd, Nat.reduceSub, Nat.reduceLT, Nat.reduceLeDiff, Nat.zero_add, Nat.add_zero, true_and, and_true, Nat.zero_lt_succ, Int.reduceToNat, Int.reducePow, List.length_map, Int.reduceAdd, Nat.lt_add_one, Bool.true_xor, Bool.false_xor, Bool.not_not, rangeD_cons, rangeD_zero, Bool.not_true, Bool.not_false, fin, rk, rks, rk0, asB, outK, stillK, ints1, ints2, lst1, lst2, wSets, itemOf, truOf, getOf, ifB_true, ifB_false, k_nx, k_ret, k_bk, k_ct, k_ex, ent, ↓lpK, lpK, ↓DigQ]
      refine d2 _ (hold ?_)
      simp -implicitDefEqProofs only [↓gOf, ↓h_while, ↓ifB_true, ↓ifB_false, ↓fin, ↓h_seq, ↓h_if, ↓wRet, ↓wRetN, ↓wRetV, ↓wAsg, ↓wFrz, ↓wFgt, ↓wDrop, ↓wAug, ↓wNext, ↓wBrk, ↓wCnt, ↓h_for, ↓wApp, ↓wSet, ↓wRaise, ↓wReverse, ↓wClear, ↓gN, ↓gT, ↓wSets, ↓rk, ↓rks, ↓rk0, ↓asB, ↓wVar, ↓wInt, ↓wBl, ↓wStr, ↓wNon, ↓wOp, ↓wUn, ↓wNot, ↓h_and, ↓h_or, ↓h_ite, ↓aNil, ↓aCons, ↓wTup, ↓wLst, ↓outK, ↓h_call, ↓oAdd, ↓oSub, ↓oMul, ↓oMod, ↓oDiv, ↓oPow, ↓oI0, ↓oI, ↓oLt, ↓oLe, ↓oGt, ↓oGe, ↓oNeg, ↓oIsB, ↓oIsN, ↓oEq, ↓oIx, ↓oIxN, ↓oIxL, ↓itemOf, ↓oLen, ↓oMin, ↓oMax, ↓oSum, ↓oList, ↓oDict, ↓oIsi, ↓wSlice, ↓wNoP, ↓wPart, ↓wIter, ↓stillK, ↓wRng1, ↓wRng2, ↓ints1, ↓ints2, ↓wEnum, ↓lst1, ↓wZip, ↓lst2, ↓wGet, ↓getOf, ↓wTru, ↓truOf, ↓h_chain, ↓wDnK, ↓wDnT, ↓h_lc, ↓unAt, Bool.decide_eq_true, Bool.decide_eq_false, Bool.and_true, Bool.and_false, Bool.true_and, Bool.false_and, beq_self_eq_true, Bool.true_beq, Bool.false_beq, decide_true, decide_false, eqok_int, eqok_bl, eqok_str, eqD_int, eqD_bl, eqD_str, frzS, stabs, Slot.stab, Slot.dat, Slot.arg, lenOf, enumD, zipD, List.set_cons_zero, List.set_cons_succ, List.getElem?_cons_zero, List.getElem?_cons_succ, List.getElem?_nil, List.length_cons, List.length_nil, List.cons_append, List.nil_append, List.reduceReplicate, List.map_cons, List.map_nil, Nat.reduceAdd, Nat.reduceSub, Nat.reduceLT, Nat.reduceLeDiff, Nat.zero_add, Nat.add_zero, true_and, and_true, Nat.zero_lt_succ, Int.reduceToNat, Int.reducePow, List.length_map, Int.reduceAdd, Nat.lt_add_one, Bool.true_xor, Bool.false_xor, Bool.not_not, rangeD_cons, rangeD_zero, Bool.not_true, Bool.not_false, fin, rk, rks, rk0, asB, outK, stillK, ints1, ints2, lst1, lst2, wSets, itemOf, truOf, getOf, ifB_true, ifB_false, k_nx, k_ret, k_bk, k_ct, k_ex, ent, ↓lpK, lpK, ↓DigQ]
  refine ifD_of (fun h1 => ?_) (fun h1 => ?_)
  · simp -implicitDefEqProofs only [↓gOf, ↓h_while, ↓ifB_true, ↓ifB_false, ↓fin, ↓h_seq, ↓h_if, ↓wRet, ↓wRetN, ↓wRetV, ↓wAsg, ↓wFrz, ↓wFgt, ↓wDrop, ↓wAug, ↓wNext, ↓wBrk, ↓wCnt, ↓h_for, ↓wApp, ↓wSet, ↓wRaise, ↓wReverse, ↓wClear, ↓gN, ↓gT, ↓wSets, ↓rk, ↓rks, ↓rk0, ↓asB, ↓wVar, ↓wInt, ↓wBl, ↓wStr, ↓wNon, ↓wOp, ↓wUn, ↓wNot, ↓h_and, ↓h_or, ↓h_ite, ↓aNil, ↓aCons, ↓wTup, ↓wLst, ↓outK, ↓h_call, ↓oAdd, ↓oSub, ↓oMul, ↓oMod, ↓oDiv, ↓oPow, ↓oI0, ↓oI, ↓oLt, ↓oLe, ↓oGt, ↓oGe, ↓oNeg, ↓oIsB, ↓oIsN, ↓oEq, ↓oIx, ↓oIxN, ↓oIxL, ↓itemOf, ↓oLen, ↓oMin, ↓oMax, ↓oSum, ↓oList, ↓oDict, ↓oIsi, ↓wSlice, ↓wNoP, ↓wPart, ↓wIter, ↓stillK, ↓wRng1, ↓wRng2, ↓ints1, ↓ints2, ↓wEnum, ↓lst1, ↓wZip, ↓lst2, ↓wGet, ↓getOf, ↓wTru, ↓truOf, ↓h_chain, ↓wDnK, ↓wDnT, ↓h_lc, ↓unAt, Bool.decide_eq_true, Bool.decide_eq_false, Bool.and_true, Bool.and_false, Bool.true_and, Bool.false_and, beq_self_eq_true, Bool.true_beq, Bool.false_beq, decide_true, decide_false, eqok_int, eqok_bl, eqok_str, eqD_int, eqD_bl, eqD_str, frzS, stabs, Slot.stab, Slot.dat, Slot.arg, lenOf, enumD, zipD, List.set_cons_zero, List.set_cons_succ, List.getElem?_cons_zero, List.getElem?_cons_succ, List.getElem?_nil, List.length_cons, List.length_nil, List.cons_append, List.nil_append, List.reduceReplicate, List.map_cons, List.map_nil, Nat.reduceAdd, Nat.reduceSub, Nat.reduceLT, Nat.reduceLeDiff, Nat.zero_add, Nat.add_zero, true_and, and_true, Nat.zero_lt_succ, Int.reduceToNat, Int.reducePow, List.length_map, Int.reduceAdd, Nat.lt_add_one, Bool.true_xor, Bool.false_xor, Bool.not_not, rangeD_cons, rangeD_zero, Bool.not_true, Bool.not_false, fin, rk, rks, rk0, asB, outK, stillK, ints1, ints2, lst1, lst2, wSets, itemOf, truOf, getOf, ifB_true, ifB_false, k_nx, k_ret, k_bk, k_ct, k_ex, ent, ↓lpK, lpK, ↓DigQ]
    refine ifD_of (fun h2 => ?_) (fun h2 => ?_)
    · simp -implicitDefEqProofs only [↓gOf, ↓h_while, ↓ifB_true, ↓ifB_false, ↓fin, ↓h_seq, ↓h_if, ↓wRet, ↓wRetN, ↓wRetV, ↓wAsg, ↓wFrz, ↓wFgt, ↓wDrop, ↓wAug, ↓wNext, ↓wBrk, ↓wCnt, ↓h_for, ↓wApp, ↓wSet, ↓wRaise, ↓wReverse, ↓wClear, ↓gN, ↓gT, ↓wSets, ↓rk, ↓rks, ↓rk0, ↓asB, ↓wVar, ↓wInt, ↓wBl, ↓wStr, ↓wNon, ↓wOp, ↓wUn, ↓wNot, ↓h_and, ↓h_or, ↓h_ite, ↓aNil, ↓aCons, ↓wTup, ↓wLst, ↓outK, ↓h_call, ↓oAdd, ↓oSub, ↓oMul, ↓oMod, ↓oDiv, ↓oPow, ↓oI0, ↓oI, ↓oLt, ↓oLe, ↓oGt, ↓oGe, ↓oNeg, ↓oIsB, ↓oIsN, ↓oEq, ↓oIx, ↓oIxN, ↓oIxL, ↓itemOf, ↓oLen, ↓oMin, ↓oMax, ↓oSum, ↓oList, ↓oDict, ↓oIsi, ↓wSlice, ↓wNoP, ↓wPart, ↓wIter, ↓stillK, ↓wRng1, ↓wRng2, ↓ints1, ↓ints2, ↓wEnum, ↓lst1, ↓wZip, ↓lst2, ↓wGet, ↓getOf, ↓wTru, ↓truOf, ↓h_chain, ↓wDnK, ↓wDnT, ↓h_lc, ↓unAt, Bool.decide_eq_true, Bool.decide_eq_false, Bool.and_true, Bool.and_false, Bool.true_and, Bool.false_and, beq_self_eq_true, Bool.true_beq, Bool.false_beq, decide_true, decide_false, eqok_int, eqok_bl, eqok_str, eqD_int, eqD_bl, eqD_str, frzS, stabs, Slot.stab, Slot.dat, Slot.arg, lenOf, enumD, zipD, List.set_cons_zero, List.set_cons_succ, List.getElem?_cons_zero, List.getElem?_cons_succ, List.getElem?_nil, List.length_cons, List.length_nil, List.cons_append, List.nil_append, List.reduceReplicate, List.map_cons, List.map_nil, Nat.reduceAdd, Nat.reduceSub, Nat.reduceLT, Nat.reduceLeDiff, Nat.zero_add, Nat.add_zero, true_and, and_true, Nat.zero_lt_succ, Int.reduceToNat, Int.reducePow, List.length_map, Int.reduceAdd, Nat.lt_add_one, Bool.true_xor, Bool.false_xor, Bool.not_not, rangeD_cons, rangeD_zero, Bool.not_true, Bool.not_false, fin, rk, rks, rk0, asB, outK, stillK, ints1, ints2, lst1, lst2, wSets, itemOf, truOf, getOf, ifB_true, ifB_false, k_nx, k_ret, k_bk, k_ct, k_ex, ent, ↓lpK, lpK, ↓DigQ]
    · simp -implicitDefEqProofs only [↓gOf, ↓h_while, ↓ifB_true, ↓ifB_false, ↓fin, ↓h_seq, ↓h_if, ↓wRet, ↓wRetN, ↓wRetV, ↓wAsg, ↓wFrz, ↓wFgt, ↓wDrop, ↓wAug, ↓wNext, ↓wBrk, ↓wCnt, ↓h_for, ↓wApp, ↓wSet, ↓wRaise, ↓wReverse, ↓wClear, ↓gN, ↓gT, ↓wSets, ↓rk, ↓rks, ↓rk0, ↓asB, ↓wVar, ↓wInt, ↓wBl, ↓wStr, ↓wNon, ↓wOp, ↓wUn, ↓wNot, ↓h_and, ↓h_or, ↓h_ite, ↓aNil, ↓aCons, ↓wTup, ↓wLst, ↓outK, ↓h_call, ↓oAdd, ↓oSub, ↓oMul, ↓oMod, ↓oDiv, ↓oPow, ↓oI0, ↓oI, ↓oLt, ↓oLe, ↓oGt, ↓oGe, ↓oNeg, ↓oIsB, ↓oIsN, ↓oEq, ↓oIx, ↓oIxN, ↓oIxL, ↓itemOf, ↓oLen, ↓oMin, ↓oMax, ↓oSum, ↓oList, ↓oDict, ↓oIsi, ↓wSlice, ↓wNoP, ↓wPart, ↓wIter, ↓stillK, ↓wRng1, ↓wRng2, ↓ints1, ↓ints2, ↓wEnum, ↓lst1, ↓wZip, ↓lst2, ↓wGet, ↓getOf, ↓wTru, ↓truOf, ↓h_chain, ↓wDnK, ↓wDnT, ↓h_lc, ↓unAt, Bool.decide_eq_true, Bool.decide_eq_false, Bool.and_true, Bool.and_false, Bool.true_and, Bool.false_and, beq_self_eq_true, Bool.true_beq, Bool.false_beq, decide_true, decide_false, eqok_int, eqok_bl, eqok_str, eqD_int, eqD_bl, eqD_str, frzS, stabs, Slot.stab, Slot.dat, Slot.arg, lenOf, enumD, zipD, List.set_cons_zero, List.set_cons_succ, List.getElem?_cons_zero, List.getElem?_cons_succ, List.getElem?_nil, List.length_cons, List.length_nil, List.cons_append, List.nil_append, List.reduceReplicate, List.map_cons, List.map_nil, Nat.reduceAdd, Nat.reduceSub, Nat.reduceLT, Nat.reduceLeDiff, Nat.zero_add, Nat.add_zero, true_and, and_true, Nat.zero_lt_succ, Int.reduceToNat, Int.reducePow, List.length_map, Int.reduceAdd, Nat.lt_add_one, Bool.true_xor, Bool.false_xor, Bool.not_not, rangeD_cons, rangeD_zero, Bool.not_true, Bool.not_false, fin, rk, rks, rk0, asB, outK, stillK, ints1, ints2, lst1, lst2, wSets, itemOf, truOf, getOf, ifB_true, ifB_false, k_nx, k_ret, k_bk, k_ct, k_ex, ent, ↓lpK, lpK, ↓DigQ]
      exact go (fun z => h2 z.2)
  · simp -implicitDefEqProofs only [↓gOf, ↓h_while, ↓ifB_true, ↓ifB_false, ↓fin, ↓h_seq, ↓h_if, ↓wRet, ↓wRetN, ↓wRetV, ↓wAsg, ↓wFrz, ↓wFgt, ↓wDrop, ↓wAug, ↓wNext, ↓wBrk, ↓wCnt, ↓h_for, ↓wApp, ↓wSet, ↓wRaise, ↓wReverse, ↓wClear, ↓gN, ↓gT, ↓wSets, ↓rk, ↓rks, ↓rk0, ↓asB, ↓wVar, ↓wInt, ↓wBl, ↓wStr, ↓wNon, ↓wOp, ↓wUn, ↓wNot, ↓h_and, ↓h_or, ↓h_ite, ↓aNil, ↓aCons, ↓wTup, ↓wLst, ↓outK, ↓h_call, ↓oAdd, ↓oSub, ↓oMul, ↓oMod, ↓oDiv, ↓oPow, ↓oI0, ↓oI, ↓oLt, ↓oLe, ↓oGt, ↓oGe, ↓oNeg, ↓oIsB, ↓oIsN, ↓oEq, ↓oIx, ↓oIxN, ↓oIxL, ↓itemOf, ↓oLen, ↓oMin, ↓oMax, ↓oSum, ↓oList, ↓oDict, ↓oIsi, ↓wSlice, ↓wNoP, ↓wPart, ↓wIter, ↓stillK, ↓wRng1, ↓wRng2, ↓ints1, ↓ints2, ↓wEnum, ↓lst1, ↓wZip, ↓lst2, ↓wGet, ↓getOf, ↓wTru, ↓truOf, ↓h_chain, ↓wDnK, ↓wDnT, ↓h_lc, ↓unAt, Bool.decide_eq_true, Bool.decide_eq_false, Bool.and_true, Bool.and_false, Bool.true_and, Bool.false_and, beq_self_eq_true, Bool.true_beq, Bool.false_beq, decide_true, decide_false, eqok_int, eqok_bl, eqok_str, eqD_int, eqD_bl, eqD_str, frzS, stabs, Slot.stab, Slot.dat, Slot.arg, lenOf, enumD, zipD, List.set_cons_zero, List.set_cons_succ, List.getElem?_cons_zero, List.getElem?_cons_succ, List.getElem?_nil, List.length_cons, List.length_nil, List.cons_append, List.nil_append, List.reduceReplicate, List.map_cons, List.map_nil, Nat.reduceAdd, Nat.reduceSub, Nat.reduceLT, Nat.reduceLeDiff, Nat.zero_add, Nat.add_zero, true_and, and_true, Nat.zero_lt_succ, Int.reduceToNat, Int.reducePow, List.length_map, Int.reduceAdd, Nat.lt_add_one, Bool.true_xor, Bool.false_xor, Bool.not_not, rangeD_cons, rangeD_zero, Bool.not_true, Bool.not_false, fin, rk, rks, rk0, asB, outK, stillK, ints1, ints2, lst1, lst2, wSets, itemOf, truOf, getOf, ifB_true, ifB_false, k_nx, k_ret, k_bk, k_ct, k_ex, ent, ↓lpK, lpK, ↓DigQ]
    exact go (fun z => h1 z.1)
theorem law_holds : ∀ ns : List Int, ns.length ≤ 63 → g_law [.sh (.lst (ns.map D.int))] fun r => r = .ok (.sh (.bl true)) := by
  intro ns hn
  simp -implicitDefEqProofs only [↓g_law, ↓w_law, ↓gOf, ↓h_while, ↓ifB_true, ↓ifB_false, ↓fin, ↓h_seq, ↓h_if, ↓wRet, ↓wRetN, ↓wRetV, ↓wAsg, ↓wFrz, ↓wFgt, ↓wDrop, ↓wAug, ↓wNext, ↓wBrk, ↓wCnt, ↓h_for, ↓wApp, ↓wSet, ↓wRaise, ↓wReverse, ↓wClear, ↓gN, ↓gT, ↓wSets, ↓rk, ↓rks, ↓rk0, ↓asB, ↓wVar, ↓wInt, ↓wBl, ↓wStr, ↓wNon, ↓wOp, ↓wUn, ↓wNot, ↓h_and, ↓h_or, ↓h_ite, ↓aNil, ↓aCons, ↓wTup, ↓wLst, ↓outK, ↓h_call, ↓oAdd, ↓oSub, ↓oMul, ↓oMod, ↓oDiv, ↓oPow, ↓oI0, ↓oI, ↓oLt, ↓oLe, ↓oGt, ↓oGe, ↓oNeg, ↓oIsB, ↓oIsN, ↓oEq, ↓oIx, ↓oIxN, ↓oIxL, ↓itemOf, ↓oLen, ↓oMin, ↓oMax, ↓oSum, ↓oList, ↓oDict, ↓oIsi, ↓wSlice, ↓wNoP, ↓wPart, ↓wIter, ↓stillK, ↓wRng1, ↓wRng2, ↓ints1, ↓ints2, ↓wEnum, ↓lst1, ↓wZip, ↓lst2, ↓wGet, ↓getOf, ↓wTru, ↓truOf, ↓h_chain, ↓wDnK, ↓wDnT, ↓h_lc, ↓unAt, Bool.decide_eq_true, Bool.decide_eq_false, Bool.and_true, Bool.and_false, Bool.true_and, Bool.false_and, beq_self_eq_true, Bool.true_beq, Bool.false_beq, decide_true, decide_false, eqok_int, eqok_bl, eqok_str, eqD_int, eqD_bl, eqD_str, frzS, stabs, Slot.stab, Slot.dat, Slot.arg, lenOf, enumD, zipD, List.set_cons_zero, List.set_cons_succ, List.getElem?_cons_zero, List.getElem?_cons_succ, List.getElem?_nil, List.length_cons, List.length_nil, List.cons_append, List.nil_append, List.reduceReplicate, List.map_cons, List.map_nil, Nat.reduceAdd, Nat.reduceSub, Nat.reduceLT, Nat.reduceLeDiff, Nat.zero_add, Nat.add_zero, true_and, and_true, Nat.zero_lt_succ, Int.reduceToNat, Int.reducePow, List.length_map, Int.reduceAdd, Nat.lt_add_one, Bool.true_xor, Bool.false_xor, Bool.not_not, rangeD_cons, rangeD_zero, Bool.not_true, Bool.not_false, fin, rk, rks, rk0, asB, outK, stillK, ints1, ints2, lst1, lst2, wSets, itemOf, truOf, getOf, ifB_true, ifB_false, k_nx, k_ret, k_bk, k_ct, k_ex, ent, ↓lpK, lpK, ↓DigQ]
  refine p_cell ns 1 _ fun c1 => hold ?_
  simp -implicitDefEqProofs only [↓gOf, ↓h_while, ↓ifB_true, ↓ifB_false, ↓fin, ↓h_seq, ↓h_if, ↓wRet, ↓wRetN, ↓wRetV, ↓wAsg, ↓wFrz, ↓wFgt, ↓wDrop, ↓wAug, ↓wNext, ↓wBrk, ↓wCnt, ↓h_for, ↓wApp, ↓wSet, ↓wRaise, ↓wReverse, ↓wClear, ↓gN, ↓gT, ↓wSets, ↓rk, ↓rks, ↓rk0, ↓asB, ↓wVar, ↓wInt, ↓wBl, ↓wStr, ↓wNon, ↓wOp, ↓wUn, ↓wNot, ↓h_and, ↓h_or, ↓h_ite, ↓aNil, ↓aCons, ↓wTup, ↓wLst, ↓outK, ↓h_call, ↓oAdd, ↓oSub, ↓oMul, ↓oMod, ↓oDiv, ↓oPow, ↓oI0, ↓oI, ↓oLt, ↓oLe, ↓oGt, ↓oGe, ↓oNeg, ↓oIsB, ↓oIsN, ↓oEq, ↓oIx, ↓oIxN, ↓oIxL, ↓itemOf, ↓oLen, ↓oMin, ↓oMax, ↓oSum, ↓oList, ↓oDict, ↓oIsi, ↓wSlice, ↓wNoP, ↓wPart, ↓wIter, ↓stillK, ↓wRng1, ↓wRng2, ↓ints1, ↓ints2, ↓wEnum, ↓lst1, ↓wZip, ↓lst2, ↓wGet, ↓getOf, ↓wTru, ↓truOf, ↓h_chain, ↓wDnK, ↓wDnT, ↓h_lc, ↓unAt, Bool.decide_eq_true, Bool.decide_eq_false, Bool.and_true, Bool.and_false, Bool.true_and, Bool.false_and, beq_self_eq_true, Bool.true_beq, Bool.false_beq, decide_true, decide_false, eqok_int, eqok_bl, eqok_str, eqD_int, eqD_bl, eqD_str, frzS, stabs, Slot.stab, Slot.dat, Slot.arg, lenOf, enumD, zipD, List.set_cons_zero, List.set_cons_succ, List.getElem?_cons_zero, List.getElem?_cons_succ, List.getElem?_nil, List.length_cons, List.length_nil, List.cons_append, List.nil_append, List.reduceReplicate, List.map_cons, List.map_nil, Nat.reduceAdd, Nat.reduceSub, Nat.reduceLT, Nat.reduceLeDiff, Nat.zero_add, Nat.add_zero, true_and, and_true, Nat.zero_lt_succ, Int.reduceToNat, Int.reducePow, List.length_map, Int.reduceAdd, Nat.lt_add_one, Bool.true_xor, Bool.false_xor, Bool.not_not, rangeD_cons, rangeD_zero, Bool.not_true, Bool.not_false, fin, rk, rks, rk0, asB, outK, stillK, ints1, ints2, lst1, lst2, wSets, itemOf, truOf, getOf, ifB_true, ifB_false, k_nx, k_ret, k_bk, k_ct, k_ex, ent, ↓lpK, lpK, ↓DigQ]
  refine p_entry _ _ fun a n y z w => hold ?_
  simp -implicitDefEqProofs only [↓gOf, ↓h_while, ↓ifB_true, ↓ifB_false, ↓fin, ↓h_seq, ↓h_if, ↓wRet, ↓wRetN, ↓wRetV, ↓wAsg, ↓wFrz, ↓wFgt, ↓wDrop, ↓wAug, ↓wNext, ↓wBrk, ↓wCnt, ↓h_for, ↓wApp, ↓wSet, ↓wRaise, ↓wReverse, ↓wClear, ↓gN, ↓gT, ↓wSets, ↓rk, ↓rks, ↓rk0, ↓asB, ↓wVar, ↓wInt, ↓wBl, ↓wStr, ↓wNon, ↓wOp, ↓wUn, ↓wNot, ↓h_and, ↓h_or, ↓h_ite, ↓aNil, ↓aCons, ↓wTup, ↓wLst, ↓outK, ↓h_call, ↓oAdd, ↓oSub, ↓oMul, ↓oMod, ↓oDiv, ↓oPow, ↓oI0, ↓oI, ↓oLt, ↓oLe, ↓oGt, ↓oGe, ↓oNeg, ↓oIsB, ↓oIsN, ↓oEq, ↓oIx, ↓oIxN, ↓oIxL, ↓itemOf, ↓oLen, ↓oMin, ↓oMax, ↓oSum, ↓oList, ↓oDict, ↓oIsi, ↓wSlice, ↓wNoP, ↓wPart, ↓wIter, ↓stillK, ↓wRng1, ↓wRng2, ↓ints1, ↓ints2, ↓wEnum, ↓lst1, ↓wZip, ↓lst2, ↓wGet, ↓getOf, ↓wTru, ↓truOf, ↓h_chain, ↓wDnK, ↓wDnT, ↓h_lc, ↓unAt, Bool.decide_eq_true, Bool.decide_eq_false, Bool.and_true, Bool.and_false, Bool.true_and, Bool.false_and, beq_self_eq_true, Bool.true_beq, Bool.false_beq, decide_true, decide_false, eqok_int, eqok_bl, eqok_str, eqD_int, eqD_bl, eqD_str, frzS, stabs, Slot.stab, Slot.dat, Slot.arg, lenOf, enumD, zipD, List.set_cons_zero, List.set_cons_succ, List.getElem?_cons_zero, List.getElem?_cons_succ, List.getElem?_nil, List.length_cons, List.length_nil, List.cons_append, List.nil_append, List.reduceReplicate, List.map_cons, List.map_nil, Nat.reduceAdd, Nat.reduceSub, Nat.reduceLT, Nat.reduceLeDiff, Nat.zero_add, Nat.add_zero, true_and, and_true, Nat.zero_lt_succ, Int.reduceToNat, Int.reducePow, List.length_map, Int.reduceAdd, Nat.lt_add_one, Bool.true_xor, Bool.false_xor, Bool.not_not, rangeD_cons, rangeD_zero, Bool.not_true, Bool.not_false, fin, rk, rks, rk0, asB, outK, stillK, ints1, ints2, lst1, lst2, wSets, itemOf, truOf, getOf, ifB_true, ifB_false, k_nx, k_ret, k_bk, k_ct, k_ex, ent, ↓lpK, lpK, ↓DigQ]
  refine p_cell ns 2 _ fun c2 => hold ?_
  simp -implicitDefEqProofs only [↓gOf, ↓h_while, ↓ifB_true, ↓ifB_false, ↓fin, ↓h_seq, ↓h_if, ↓wRet, ↓wRetN, ↓wRetV, ↓wAsg, ↓wFrz, ↓wFgt, ↓wDrop, ↓wAug, ↓wNext, ↓wBrk, ↓wCnt, ↓h_for, ↓wApp, ↓wSet, ↓wRaise, ↓wReverse, ↓wClear, ↓gN, ↓gT, ↓wSets, ↓rk, ↓rks, ↓rk0, ↓asB, ↓wVar, ↓wInt, ↓wBl, ↓wStr, ↓wNon, ↓wOp, ↓wUn, ↓wNot, ↓h_and, ↓h_or, ↓h_ite, ↓aNil, ↓aCons, ↓wTup, ↓wLst, ↓outK, ↓h_call, ↓oAdd, ↓oSub, ↓oMul, ↓oMod, ↓oDiv, ↓oPow, ↓oI0, ↓oI, ↓oLt, ↓oLe, ↓oGt, ↓oGe, ↓oNeg, ↓oIsB, ↓oIsN, ↓oEq, ↓oIx, ↓oIxN, ↓oIxL, ↓itemOf, ↓oLen, ↓oMin, ↓oMax, ↓oSum, ↓oList, ↓oDict, ↓oIsi, ↓wSlice, ↓wNoP, ↓wPart, ↓wIter, ↓stillK, ↓wRng1, ↓wRng2, ↓ints1, ↓ints2, ↓wEnum, ↓lst1, ↓wZip, ↓lst2, ↓wGet, ↓getOf, ↓wTru, ↓truOf, ↓h_chain, ↓wDnK, ↓wDnT, ↓h_lc, ↓unAt, Bool.decide_eq_true, Bool.decide_eq_false, Bool.and_true, Bool.and_false, Bool.true_and, Bool.false_and, beq_self_eq_true, Bool.true_beq, Bool.false_beq, decide_true, decide_false, eqok_int, eqok_bl, eqok_str, eqD_int, eqD_bl, eqD_str, frzS, stabs, Slot.stab, Slot.dat, Slot.arg, lenOf, enumD, zipD, List.set_cons_zero, List.set_cons_succ, List.getElem?_cons_zero, List.getElem?_cons_succ, List.getElem?_nil, List.length_cons, List.length_nil, List.cons_append, List.nil_append, List.reduceReplicate, List.map_cons, List.map_nil, Nat.reduceAdd, Nat.reduceSub, Nat.reduceLT, Nat.reduceLeDiff, Nat.zero_add, Nat.add_zero, true_and, and_true, Nat.zero_lt_succ, Int.reduceToNat, Int.reducePow, List.length_map, Int.reduceAdd, Nat.lt_add_one, Bool.true_xor, Bool.false_xor, Bool.not_not, rangeD_cons, rangeD_zero, Bool.not_true, Bool.not_false, fin, rk, rks, rk0, asB, outK, stillK, ints1, ints2, lst1, lst2, wSets, itemOf, truOf, getOf, ifB_true, ifB_false, k_nx, k_ret, k_bk, k_ct, k_ex, ent, ↓lpK, lpK, ↓DigQ]
  refine p_entry _ _ fun a' n' y' z' w' => hold ?_
  simp -implicitDefEqProofs only [↓gOf, ↓h_while, ↓ifB_true, ↓ifB_false, ↓fin, ↓h_seq, ↓h_if, ↓wRet, ↓wRetN, ↓wRetV, ↓wAsg, ↓wFrz, ↓wFgt, ↓wDrop, ↓wAug, ↓wNext, ↓wBrk, ↓wCnt, ↓h_for, ↓wApp, ↓wSet, ↓wRaise, ↓wReverse, ↓wClear, ↓gN, ↓gT, ↓wSets, ↓rk, ↓rks, ↓rk0, ↓asB, ↓wVar, ↓wInt, ↓wBl, ↓wStr, ↓wNon, ↓wOp, ↓wUn, ↓wNot, ↓h_and, ↓h_or, ↓h_ite, ↓aNil, ↓aCons, ↓wTup, ↓wLst, ↓outK, ↓h_call, ↓oAdd, ↓oSub, ↓oMul, ↓oMod, ↓oDiv, ↓oPow, ↓oI0, ↓oI, ↓oLt, ↓oLe, ↓oGt, ↓oGe, ↓oNeg, ↓oIsB, ↓oIsN, ↓oEq, ↓oIx, ↓oIxN, ↓oIxL, ↓itemOf, ↓oLen, ↓oMin, ↓oMax, ↓oSum, ↓oList, ↓oDict, ↓oIsi, ↓wSlice, ↓wNoP, ↓wPart, ↓wIter, ↓stillK, ↓wRng1, ↓wRng2, ↓ints1, ↓ints2, ↓wEnum, ↓lst1, ↓wZip, ↓lst2, ↓wGet, ↓getOf, ↓wTru, ↓truOf, ↓h_chain, ↓wDnK, ↓wDnT, ↓h_lc, ↓unAt, Bool.decide_eq_true, Bool.decide_eq_false, Bool.and_true, Bool.and_false, Bool.true_and, Bool.false_and, beq_self_eq_true, Bool.true_beq, Bool.false_beq, decide_true, decide_false, eqok_int, eqok_bl, eqok_str, eqD_int, eqD_bl, eqD_str, frzS, stabs, Slot.stab, Slot.dat, Slot.arg, lenOf, enumD, zipD, List.set_cons_zero, List.set_cons_succ, List.getElem?_cons_zero, List.getElem?_cons_succ, List.getElem?_nil, List.length_cons, List.length_nil, List.cons_append, List.nil_append, List.reduceReplicate, List.map_cons, List.map_nil, Nat.reduceAdd, Nat.reduceSub, Nat.reduceLT, Nat.reduceLeDiff, Nat.zero_add, Nat.add_zero, true_and, and_true, Nat.zero_lt_succ, Int.reduceToNat, Int.reducePow, List.length_map, Int.reduceAdd, Nat.lt_add_one, Bool.true_xor, Bool.false_xor, Bool.not_not, rangeD_cons, rangeD_zero, Bool.not_true, Bool.not_false, fin, rk, rks, rk0, asB, outK, stillK, ints1, ints2, lst1, lst2, wSets, itemOf, truOf, getOf, ifB_true, ifB_false, k_nx, k_ret, k_bk, k_ct, k_ex, ent, ↓lpK, lpK, ↓DigQ]
  refine p_cell ns 0 _ fun c0 => hold ?_
  simp -implicitDefEqProofs only [↓gOf, ↓h_while, ↓ifB_true, ↓ifB_false, ↓fin, ↓h_seq, ↓h_if, ↓wRet, ↓wRetN, ↓wRetV, ↓wAsg, ↓wFrz, ↓wFgt, ↓wDrop, ↓wAug, ↓wNext, ↓wBrk, ↓wCnt, ↓h_for, ↓wApp, ↓wSet, ↓wRaise, ↓wReverse, ↓wClear, ↓gN, ↓gT, ↓wSets, ↓rk, ↓rks, ↓rk0, ↓asB, ↓wVar, ↓wInt, ↓wBl, ↓wStr, ↓wNon, ↓wOp, ↓wUn, ↓wNot, ↓h_and, ↓h_or, ↓h_ite, ↓aNil, ↓aCons, ↓wTup, ↓wLst, ↓outK, ↓h_call, ↓oAdd, ↓oSub, ↓oMul, ↓oMod, ↓oDiv, ↓oPow, ↓oI0, ↓oI, ↓oLt, ↓oLe, ↓oGt, ↓oGe, ↓oNeg, ↓oIsB, ↓oIsN, ↓oEq, ↓oIx, ↓oIxN, ↓oIxL, ↓itemOf, ↓oLen, ↓oMin, ↓oMax, ↓oSum, ↓oList, ↓oDict, ↓oIsi, ↓wSlice, ↓wNoP, ↓wPart, ↓wIter, ↓stillK, ↓wRng1, ↓wRng2, ↓ints1, ↓ints2, ↓wEnum, ↓lst1, ↓wZip, ↓lst2, ↓wGet, ↓getOf, ↓wTru, ↓truOf, ↓h_chain, ↓wDnK, ↓wDnT, ↓h_lc, ↓unAt, Bool.decide_eq_true, Bool.decide_eq_false, Bool.and_true, Bool.and_false, Bool.true_and, Bool.false_and, beq_self_eq_true, Bool.true_beq, Bool.false_beq, decide_true, decide_false, eqok_int, eqok_bl, eqok_str, eqD_int, eqD_bl, eqD_str, frzS, stabs, Slot.stab, Slot.dat, Slot.arg, lenOf, enumD, zipD, List.set_cons_zero, List.set_cons_succ, List.getElem?_cons_zero, List.getElem?_cons_succ, List.getElem?_nil, List.length_cons, List.length_nil, List.cons_append, List.nil_append, List.reduceReplicate, List.map_cons, List.map_nil, Nat.reduceAdd, Nat.reduceSub, Nat.reduceLT, Nat.reduceLeDiff, Nat.zero_add, Nat.add_zero, true_and, and_true, Nat.zero_lt_succ, Int.reduceToNat, Int.reducePow, List.length_map, Int.reduceAdd, Nat.lt_add_one, Bool.true_xor, Bool.false_xor, Bool.not_not, rangeD_cons, rangeD_zero, Bool.not_true, Bool.not_false, fin, rk, rks, rk0, asB, outK, stillK, ints1, ints2, lst1, lst2, wSets, itemOf, truOf, getOf, ifB_true, ifB_false, k_nx, k_ret, k_bk, k_ct, k_ex, ent, ↓lpK, lpK, ↓DigQ]
  refine p_digits [4] (by unfold SizesOk; decide) (by decide) c0 _ ?_
  simp -implicitDefEqProofs only [↓gOf, ↓h_while, ↓ifB_true, ↓ifB_false, ↓fin, ↓h_seq, ↓h_if, ↓wRet, ↓wRetN, ↓wRetV, ↓wAsg, ↓wFrz, ↓wFgt, ↓wDrop, ↓wAug, ↓wNext, ↓wBrk, ↓wCnt, ↓h_for, ↓wApp, ↓wSet, ↓wRaise, ↓wReverse, ↓wClear, ↓gN, ↓gT, ↓wSets, ↓rk, ↓rks, ↓rk0, ↓asB, ↓wVar, ↓wInt, ↓wBl, ↓wStr, ↓wNon, ↓wOp, ↓wUn, ↓wNot, ↓h_and, ↓h_or, ↓h_ite, ↓aNil, ↓aCons, ↓wTup, ↓wLst, ↓outK, ↓h_call, ↓oAdd, ↓oSub, ↓oMul, ↓oMod, ↓oDiv, ↓oPow, ↓oI0, ↓oI, ↓oLt, ↓oLe, ↓oGt, ↓oGe, ↓oNeg, ↓oIsB, ↓oIsN, ↓oEq, ↓oIx, ↓oIxN, ↓oIxL, ↓itemOf, ↓oLen, ↓oMin, ↓oMax, ↓oSum, ↓oList, ↓oDict, ↓oIsi, ↓wSlice, ↓wNoP, ↓wPart, ↓wIter, ↓stillK, ↓wRng1, ↓wRng2, ↓ints1, ↓ints2, ↓wEnum, ↓lst1, ↓wZip, ↓lst2, ↓wGet, ↓getOf, ↓wTru, ↓truOf, ↓h_chain, ↓wDnK, ↓wDnT, ↓h_lc, ↓unAt, Bool.decide_eq_true, Bool.decide_eq_false, Bool.and_true, Bool.and_false, Bool.true_and, Bool.false_and, beq_self_eq_true, Bool.true_beq, Bool.false_beq, decide_true, decide_false, eqok_int, eqok_bl, eqok_str, eqD_int, eqD_bl, eqD_str, frzS, stabs, Slot.stab, Slot.dat, Slot.arg, lenOf, enumD, zipD, List.set_cons_zero, List.set_cons_succ, List.getElem?_cons_zero, List.getElem?_cons_succ, List.getElem?_nil, List.length_cons, List.length_nil, List.cons_append, List.nil_append, List.reduceReplicate, List.map_cons, List.map_nil, Nat.reduceAdd, Nat.reduceSub, Nat.reduceLT, Nat.reduceLeDiff, Nat.zero_add, Nat.add_zero, true_and, and_true, Nat.zero_lt_succ, Int.reduceToNat, Int.reducePow, List.length_map, Int.reduceAdd, Nat.lt_add_one, Bool.true_xor, Bool.false_xor, Bool.not_not, rangeD_cons, rangeD_zero, Bool.not_true, Bool.not_false, fin, rk, rks, rk0, asB, outK, stillK, ints1, ints2, lst1, lst2, wSets, itemOf, truOf, getOf, ifB_true, ifB_false, k_nx, k_ret, k_bk, k_ct, k_ex, ent, ↓lpK, lpK, ↓DigQ]
  intro ch ch1 ch2
  refine hold ?_
  simp -implicitDefEqProofs only [↓gOf, ↓h_while, ↓ifB_true, ↓ifB_false, ↓fin, ↓h_seq, ↓h_if, ↓wRet, ↓wRetN, ↓wRetV, ↓wAsg, ↓wFrz, ↓wFgt, ↓wDrop, ↓wAug, ↓wNext, ↓wBrk, ↓wCnt, ↓h_for, ↓wApp, ↓wSet, ↓wRaise, ↓wReverse, ↓wClear, ↓gN, ↓gT, ↓wSets, ↓rk, ↓rks, ↓rk0, ↓asB, ↓wVar, ↓wInt, ↓wBl, ↓wStr, ↓wNon, ↓wOp, ↓wUn, ↓wNot, ↓h_and, ↓h_or, ↓h_ite, ↓aNil, ↓aCons, ↓wTup, ↓wLst, ↓outK, ↓h_call, ↓oAdd, ↓oSub, ↓oMul, ↓oMod, ↓oDiv, ↓oPow, ↓oI0, ↓oI, ↓oLt, ↓oLe, ↓oGt, ↓oGe, ↓oNeg, ↓oIsB, ↓oIsN, ↓oEq, ↓oIx, ↓oIxN, ↓oIxL, ↓itemOf, ↓oLen, ↓oMin, ↓oMax, ↓oSum, ↓oList, ↓oDict, ↓oIsi, ↓wSlice, ↓wNoP, ↓wPart, ↓wIter, ↓stillK, ↓wRng1, ↓wRng2, ↓ints1, ↓ints2, ↓wEnum, ↓lst1, ↓wZip, ↓lst2, ↓wGet, ↓getOf, ↓wTru, ↓truOf, ↓h_chain, ↓wDnK, ↓wDnT, ↓h_lc, ↓unAt, Bool.decide_eq_true, Bool.decide_eq_false, Bool.and_true, Bool.and_false, Bool.true_and, Bool.false_and, beq_self_eq_true, Bool.true_beq, Bool.false_beq, decide_true, decide_false, eqok_int, eqok_bl, eqok_str, eqD_int, eqD_bl, eqD_str, frzS, stabs, Slot.stab, Slot.dat, Slot.arg, lenOf, enumD, zipD, List.set_cons_zero, List.set_cons_succ, List.getElem?_cons_zero, List.getElem?_cons_succ, List.getElem?_nil, List.length_cons, List.length_nil, List.cons_append, List.nil_append, List.reduceReplicate, List.map_cons, List.map_nil, Nat.reduceAdd, Nat.reduceSub, Nat.reduceLT, Nat.reduceLeDiff, Nat.zero_add, Nat.add_zero, true_and, and_true, Nat.zero_lt_succ, Int.reduceToNat, Int.reducePow, List.length_map, Int.reduceAdd, Nat.lt_add_one, Bool.true_xor, Bool.false_xor, Bool.not_not, rangeD_cons, rangeD_zero, Bool.not_true, Bool.not_false, fin, rk, rks, rk0, asB, outK, stillK, ints1, ints2, lst1, lst2, wSets, itemOf, truOf, getOf, ifB_true, ifB_false, k_nx, k_ret, k_bk, k_ct, k_ex, ent, ↓lpK, lpK, ↓DigQ]
  refine ifD_of (fun e1 => ?_) (fun e1 => ?_)
  · simp -implicitDefEqProofs only [↓gOf, ↓h_while, ↓ifB_true, ↓ifB_false, ↓fin, ↓h_seq, ↓h_if, ↓wRet, ↓wRetN, ↓wRetV, ↓wAsg, ↓wFrz, ↓wFgt, ↓wDrop, ↓wAug, ↓wNext, ↓wBrk, ↓wCnt, ↓h_for, ↓wApp, ↓wSet, ↓wRaise, ↓wReverse, ↓wClear, ↓gN, ↓gT, ↓wSets, ↓rk, ↓rks, ↓rk0, ↓asB, ↓wVar, ↓wInt, ↓wBl, ↓wStr, ↓wNon, ↓wOp, ↓wUn, ↓wNot, ↓h_and, ↓h_or, ↓h_ite, ↓aNil, ↓aCons, ↓wTup, ↓wLst, ↓outK, ↓h_call, ↓oAdd, ↓oSub, ↓oMul, ↓oMod, ↓oDiv, ↓oPow, ↓oI0, ↓oI, ↓oLt, ↓oLe, ↓oGt, ↓oGe, ↓oNeg, ↓oIsB, ↓oIsN, ↓oEq, ↓oIx, ↓oIxN, ↓oIxL, ↓itemOf, ↓oLen, ↓oMin, ↓oMax, ↓oSum, ↓oList, ↓oDict, ↓oIsi, ↓wSlice, ↓wNoP, ↓wPart, ↓wIter, ↓stillK, ↓wRng1, ↓wRng2, ↓ints1, ↓ints2, ↓wEnum, ↓lst1, ↓wZip, ↓lst2, ↓wGet, ↓getOf, ↓wTru, ↓truOf, ↓h_chain, ↓wDnK, ↓wDnT, ↓h_lc, ↓unAt, Bool.decide_eq_true, Bool.decide_eq_false, Bool.and_true, Bool.and_false, Bool.true_and, Bool.false_and, beq_self_eq_true, Bool.true_beq, Bool.false_beq, decide_true, decide_false, eqok_int, eqok_bl, eqok_str, eqD_int, eqD_bl, eqD_str, frzS, stabs, Slot.stab, Slot.dat, Slot.arg, lenOf, enumD, zipD, List.set_cons_zero, List.set_cons_succ, List.getElem?_cons_zero, List.getElem?_cons_succ, List.getElem?_nil, List.length_cons, List.length_nil, List.cons_append, List.nil_append, List.reduceReplicate, List.map_cons, List.map_nil, Nat.reduceAdd, Nat.reduceSub, Nat.reduceLT, Nat.reduceLeDiff, Nat.zero_add, Nat.add_zero, true_and, and_true, Nat.zero_lt_succ, Int.reduceToNat, Int.reducePow, List.length_map, Int.reduceAdd, Nat.lt_add_one, Bool.true_xor, Bool.false_xor, Bool.not_not, rangeD_cons, rangeD_zero, Bool.not_true, Bool.not_false, fin, rk, rks, rk0, asB, outK, stillK, ints1, ints2, lst1, lst2, wSets, itemOf, truOf, getOf, ifB_true, ifB_false, k_nx, k_ret, k_bk, k_ct, k_ex, ent, ↓lpK, lpK, ↓DigQ]
    refine ifD_of (fun e2 => (by omega : False).elim) (fun e2 => ?_)
    simp -implicitDefEqProofs only [↓gOf, ↓h_while, ↓ifB_true, ↓ifB_false, ↓fin, ↓h_seq, ↓h_if, ↓wRet, ↓wRetN, ↓wRetV, ↓wAsg, ↓wFrz, ↓wFgt, ↓wDrop, ↓wAug, ↓wNext, ↓wBrk, ↓wCnt, ↓h_for, ↓wApp, ↓wSet, ↓wRaise, ↓wReverse, ↓wClear, ↓gN, ↓gT, ↓wSets, ↓rk, ↓rks, ↓rk0, ↓asB, ↓wVar, ↓wInt, ↓wBl, ↓wStr, ↓wNon, ↓wOp, ↓wUn, ↓wNot, ↓h_and, ↓h_or, ↓h_ite, ↓aNil, ↓aCons, ↓wTup, ↓wLst, ↓outK, ↓h_call, ↓oAdd, ↓oSub, ↓oMul, ↓oMod, ↓oDiv, ↓oPow, ↓oI0, ↓oI, ↓oLt, ↓oLe, ↓oGt, ↓oGe, ↓oNeg, ↓oIsB, ↓oIsN, ↓oEq, ↓oIx, ↓oIxN, ↓oIxL, ↓itemOf, ↓oLen, ↓oMin, ↓oMax, ↓oSum, ↓oList, ↓oDict, ↓oIsi, ↓wSlice, ↓wNoP, ↓wPart, ↓wIter, ↓stillK, ↓wRng1, ↓wRng2, ↓ints1, ↓ints2, ↓wEnum, ↓lst1, ↓wZip, ↓lst2, ↓wGet, ↓getOf, ↓wTru, ↓truOf, ↓h_chain, ↓wDnK, ↓wDnT, ↓h_lc, ↓unAt, Bool.decide_eq_true, Bool.decide_eq_false, Bool.and_true, Bool.and_false, Bool.true_and, Bool.false_and, beq_self_eq_true, Bool.true_beq, Bool.false_beq, decide_true, decide_false, eqok_int, eqok_bl, eqok_str, eqD_int, eqD_bl, eqD_str, frzS, stabs, Slot.stab, Slot.dat, Slot.arg, lenOf, enumD, zipD, List.set_cons_zero, List.set_cons_succ, List.getElem?_cons_zero, List.getElem?_cons_succ, List.getElem?_nil, List.length_cons, List.length_nil, List.cons_append, List.nil_append, List.reduceReplicate, List.map_cons, List.map_nil, Nat.reduceAdd, Nat.reduceSub, Nat.reduceLT, Nat.reduceLeDiff, Nat.zero_add, Nat.add_zero, true_and, and_true, Nat.zero_lt_succ, Int.reduceToNat, Int.reducePow, List.length_map, Int.reduceAdd, Nat.lt_add_one, Bool.true_xor, Bool.false_xor, Bool.not_not, rangeD_cons, rangeD_zero, Bool.not_true, Bool.not_false, fin, rk, rks, rk0, asB, outK, stillK, ints1, ints2, lst1, lst2, wSets, itemOf, truOf, getOf, ifB_true, ifB_false, k_nx, k_ret, k_bk, k_ct, k_ex, ent, ↓lpK, lpK, ↓DigQ]
    refine ifD_of (fun e2 => (by omega : False).elim) (fun e2 => ?_)
    simp -implicitDefEqProofs only [↓gOf, ↓h_while, ↓ifB_true, ↓ifB_false, ↓fin, ↓h_seq, ↓h_if, ↓wRet, ↓wRetN, ↓wRetV, ↓wAsg, ↓wFrz, ↓wFgt, ↓wDrop, ↓wAug, ↓wNext, ↓wBrk, ↓wCnt, ↓h_for, ↓wApp, ↓wSet, ↓wRaise, ↓wReverse, ↓wClear, ↓gN, ↓gT, ↓wSets, ↓rk, ↓rks, ↓rk0, ↓asB, ↓wVar, ↓wInt, ↓wBl, ↓wStr, ↓wNon, ↓wOp, ↓wUn, ↓wNot, ↓h_and, ↓h_or, ↓h_ite, ↓aNil, ↓aCons, ↓wTup, ↓wLst, ↓outK, ↓h_call, ↓oAdd, ↓oSub, ↓oMul, ↓oMod, ↓oDiv, ↓oPow, ↓oI0, ↓oI, ↓oLt, ↓oLe, ↓oGt, ↓oGe, ↓oNeg, ↓oIsB, ↓oIsN, ↓oEq, ↓oIx, ↓oIxN, ↓oIxL, ↓itemOf, ↓oLen, ↓oMin, ↓oMax, ↓oSum, ↓oList, ↓oDict, ↓oIsi, ↓wSlice, ↓wNoP, ↓wPart, ↓wIter, ↓stillK, ↓wRng1, ↓wRng2, ↓ints1, ↓ints2, ↓wEnum, ↓lst1, ↓wZip, ↓lst2, ↓wGet, ↓getOf, ↓wTru, ↓truOf, ↓h_chain, ↓wDnK, ↓wDnT, ↓h_lc, ↓unAt, Bool.decide_eq_true, Bool.decide_eq_false, Bool.and_true, Bool.and_false, Bool.true_and, Bool.false_and, beq_self_eq_true, Bool.true_beq, Bool.false_beq, decide_true, decide_false, eqok_int, eqok_bl, eqok_str, eqD_int, eqD_bl, eqD_str, frzS, stabs, Slot.stab, Slot.dat, Slot.arg, lenOf, enumD, zipD, List.set_cons_zero, List.set_cons_succ, List.getElem?_cons_zero, List.getElem?_cons_succ, List.getElem?_nil, List.length_cons, List.length_nil, List.cons_append, List.nil_append, List.reduceReplicate, List.map_cons, List.map_nil, Nat.reduceAdd, Nat.reduceSub, Nat.reduceLT, Nat.reduceLeDiff, Nat.zero_add, Nat.add_zero, true_and, and_true, Nat.zero_lt_succ, Int.reduceToNat, Int.reducePow, List.length_map, Int.reduceAdd, Nat.lt_add_one, Bool.true_xor, Bool.false_xor, Bool.not_not, rangeD_cons, rangeD_zero, Bool.not_true, Bool.not_false, fin, rk, rks, rk0, asB, outK, stillK, ints1, ints2, lst1, lst2, wSets, itemOf, truOf, getOf, ifB_true, ifB_false, k_nx, k_ret, k_bk, k_ct, k_ex, ent, ↓lpK, lpK, ↓DigQ]
    exact p_tail _ _ _ _ _ _ _ _ _ _ _ _ _ _ rfl rfl
  · simp -implicitDefEqProofs only [↓gOf, ↓h_while, ↓ifB_true, ↓ifB_false, ↓fin, ↓h_seq, ↓h_if, ↓wRet, ↓wRetN, ↓wRetV, ↓wAsg, ↓wFrz, ↓wFgt, ↓wDrop, ↓wAug, ↓wNext, ↓wBrk, ↓wCnt, ↓h_for, ↓wApp, ↓wSet, ↓wRaise, ↓wReverse, ↓wClear, ↓gN, ↓gT, ↓wSets, ↓rk, ↓rks, ↓rk0, ↓asB, ↓wVar, ↓wInt, ↓wBl, ↓wStr, ↓wNon, ↓wOp, ↓wUn, ↓wNot, ↓h_and, ↓h_or, ↓h_ite, ↓aNil, ↓aCons, ↓wTup, ↓wLst, ↓outK, ↓h_call, ↓oAdd, ↓oSub, ↓oMul, ↓oMod, ↓oDiv, ↓oPow, ↓oI0, ↓oI, ↓oLt, ↓oLe, ↓oGt, ↓oGe, ↓oNeg, ↓oIsB, ↓oIsN, ↓oEq, ↓oIx, ↓oIxN, ↓oIxL, ↓itemOf, ↓oLen, ↓oMin, ↓oMax, ↓oSum, ↓oList, ↓oDict, ↓oIsi, ↓wSlice, ↓wNoP, ↓wPart, ↓wIter, ↓stillK, ↓wRng1, ↓wRng2, ↓ints1, ↓ints2, ↓wEnum, ↓lst1, ↓wZip, ↓lst2, ↓wGet, ↓getOf, ↓wTru, ↓truOf, ↓h_chain, ↓wDnK, ↓wDnT, ↓h_lc, ↓unAt, Bool.decide_eq_true, Bool.decide_eq_false, Bool.and_true, Bool.and_false, Bool.true_and, Bool.false_and, beq_self_eq_true, Bool.true_beq, Bool.false_beq, decide_true, decide_false, eqok_int, eqok_bl, eqok_str, eqD_int, eqD_bl, eqD_str, frzS, stabs, Slot.stab, Slot.dat, Slot.arg, lenOf, enumD, zipD, List.set_cons_zero, List.set_cons_succ, List.getElem?_cons_zero, List.getElem?_cons_succ, List.getElem?_nil, List.length_cons, List.length_nil, List.cons_append, List.nil_append, List.reduceReplicate, List.map_cons, List.map_nil, Nat.reduceAdd, Nat.reduceSub, Nat.reduceLT, Nat.reduceLeDiff, Nat.zero_add, Nat.add_zero, true_and, and_true, Nat.zero_lt_succ, Int.reduceToNat, Int.reducePow, List.length_map, Int.reduceAdd, Nat.lt_add_one, Bool.true_xor, Bool.false_xor, Bool.not_not, rangeD_cons, rangeD_zero, Bool.not_true, Bool.not_false, fin, rk, rks, rk0, asB, outK, stillK, ints1, ints2, lst1, lst2, wSets, itemOf, truOf, getOf, ifB_true, ifB_false, k_nx, k_ret, k_bk, k_ct, k_ex, ent, ↓lpK, lpK, ↓DigQ]
    refine ifD_of (fun e2 => ?_) (fun e2 => ?_)
    · simp -implicitDefEqProofs only [↓gOf, ↓h_while, ↓ifB_true, ↓ifB_false, ↓fin, ↓h_seq, ↓h_if, ↓wRet, ↓wRetN, ↓wRetV, ↓wAsg, ↓wFrz, ↓wFgt, ↓wDrop, ↓wAug, ↓wNext, ↓wBrk, ↓wCnt, ↓h_for, ↓wApp, ↓wSet, ↓wRaise, ↓wReverse, ↓wClear, ↓gN, ↓gT, ↓wSets, ↓rk, ↓rks, ↓rk0, ↓asB, ↓wVar, ↓wInt, ↓wBl, ↓wStr, ↓wNon, ↓wOp, ↓wUn, ↓wNot, ↓h_and, ↓h_or, ↓h_ite, ↓aNil, ↓aCons, ↓wTup, ↓wLst, ↓outK, ↓h_call, ↓oAdd, ↓oSub, ↓oMul, ↓oMod, ↓oDiv, ↓oPow, ↓oI0, ↓oI, ↓oLt, ↓oLe, ↓oGt, ↓oGe, ↓oNeg, ↓oIsB, ↓oIsN, ↓oEq, ↓oIx, ↓oIxN, ↓oIxL, ↓itemOf, ↓oLen, ↓oMin, ↓oMax, ↓oSum, ↓oList, ↓oDict, ↓oIsi, ↓wSlice, ↓wNoP, ↓wPart, ↓wIter, ↓stillK, ↓wRng1, ↓wRng2, ↓ints1, ↓ints2, ↓wEnum, ↓lst1, ↓wZip, ↓lst2, ↓wGet, ↓getOf, ↓wTru, ↓truOf, ↓h_chain, ↓wDnK, ↓wDnT, ↓h_lc, ↓unAt, Bool.decide_eq_true, Bool.decide_eq_false, Bool.and_true, Bool.and_false, Bool.true_and, Bool.false_and, beq_self_eq_true, Bool.true_beq, Bool.false_beq, decide_true, decide_false, eqok_int, eqok_bl, eqok_str, eqD_int, eqD_bl, eqD_str, frzS, stabs, Slot.stab, Slot.dat, Slot.arg, lenOf, enumD, zipD, List.set_cons_zero, List.set_cons_succ, List.getElem?_cons_zero, List.getElem?_cons_succ, List.getElem?_nil, List.length_cons, List.length_nil, List.cons_append, List.nil_append, List.reduceReplicate, List.map_cons, List.map_nil, Nat.reduceAdd, Nat.reduceSub, Nat.reduceLT, Nat.reduceLeDiff, Nat.zero_add, Nat.add_zero, true_and, and_true, Nat.zero_lt_succ, Int.reduceToNat, Int.reducePow, List.length_map, Int.reduceAdd, Nat.lt_add_one, Bool.true_xor, Bool.false_xor, Bool.not_not, rangeD_cons, rangeD_zero, Bool.not_true, Bool.not_false, fin, rk, rks, rk0, asB, outK, stillK, ints1, ints2, lst1, lst2, wSets, itemOf, truOf, getOf, ifB_true, ifB_false, k_nx, k_ret, k_bk, k_ct, k_ex, ent, ↓lpK, lpK, ↓DigQ]
      refine ifD_of (fun e2 => (by omega : False).elim) (fun e2 => ?_)
      simp -implicitDefEqProofs only [↓gOf, ↓h_while, ↓ifB_true, ↓ifB_false, ↓fin, ↓h_seq, ↓h_if, ↓wRet, ↓wRetN, ↓wRetV, ↓wAsg, ↓wFrz, ↓wFgt, ↓wDrop, ↓wAug, ↓wNext, ↓wBrk, ↓wCnt, ↓h_for, ↓wApp, ↓wSet, ↓wRaise, ↓wReverse, ↓wClear, ↓gN, ↓gT, ↓wSets, ↓rk, ↓rks, ↓rk0, ↓asB, ↓wVar, ↓wInt, ↓wBl, ↓wStr, ↓wNon, ↓wOp, ↓wUn, ↓wNot, ↓h_and, ↓h_or, ↓h_ite, ↓aNil, ↓aCons, ↓wTup, ↓wLst, ↓outK, ↓h_call, ↓oAdd, ↓oSub, ↓oMul, ↓oMod, ↓oDiv, ↓oPow, ↓oI0, ↓oI, ↓oLt, ↓oLe, ↓oGt, ↓oGe, ↓oNeg, ↓oIsB, ↓oIsN, ↓oEq, ↓oIx, ↓oIxN, ↓oIxL, ↓itemOf, ↓oLen, ↓oMin, ↓oMax, ↓oSum, ↓oList, ↓oDict, ↓oIsi, ↓wSlice, ↓wNoP, ↓wPart, ↓wIter, ↓stillK, ↓wRng1, ↓wRng2, ↓ints1, ↓ints2, ↓wEnum, ↓lst1, ↓wZip, ↓lst2, ↓wGet, ↓getOf, ↓wTru, ↓truOf, ↓h_chain, ↓wDnK, ↓wDnT, ↓h_lc, ↓unAt, Bool.decide_eq_true, Bool.decide_eq_false, Bool.and_true, Bool.and_false, Bool.true_and, Bool.false_and, beq_self_eq_true, Bool.true_beq, Bool.false_beq, decide_true, decide_false, eqok_int, eqok_bl, eqok_str, eqD_int, eqD_bl, eqD_str, frzS, stabs, Slot.stab, Slot.dat, Slot.arg, lenOf, enumD, zipD, List.set_cons_zero, List.set_cons_succ, List.getElem?_cons_zero, List.getElem?_cons_succ, List.getElem?_nil, List.length_cons, List.length_nil, List.cons_append, List.nil_append, List.reduceReplicate, List.map_cons, List.map_nil, Nat.reduceAdd, Nat.reduceSub, Nat.reduceLT, Nat.reduceLeDiff, Nat.zero_add, Nat.add_zero, true_and, and_true, Nat.zero_lt_succ, Int.reduceToNat, Int.reducePow, List.length_map, Int.reduceAdd, Nat.lt_add_one, Bool.true_xor, Bool.false_xor, Bool.not_not, rangeD_cons, rangeD_zero, Bool.not_true, Bool.not_false, fin, rk, rks, rk0, asB, outK, stillK, ints1, ints2, lst1, lst2, wSets, itemOf, truOf, getOf, ifB_true, ifB_false, k_nx, k_ret, k_bk, k_ct, k_ex, ent, ↓lpK, lpK, ↓DigQ]
      exact p_tail _ _ _ _ _ _ _ _ _ _ _ _ _ _ rfl rfl
    · simp -implicitDefEqProofs only [↓gOf, ↓h_while, ↓ifB_true, ↓ifB_false, ↓fin, ↓h_seq, ↓h_if, ↓wRet, ↓wRetN, ↓wRetV, ↓wAsg, ↓wFrz, ↓wFgt, ↓wDrop, ↓wAug, ↓wNext, ↓wBrk, ↓wCnt, ↓h_for, ↓wApp, ↓wSet, ↓wRaise, ↓wReverse, ↓wClear, ↓gN, ↓gT, ↓wSets, ↓rk, ↓rks, ↓rk0, ↓asB, ↓wVar, ↓wInt, ↓wBl, ↓wStr, ↓wNon, ↓wOp, ↓wUn, ↓wNot, ↓h_and, ↓h_or, ↓h_ite, ↓aNil, ↓aCons, ↓wTup, ↓wLst, ↓outK, ↓h_call, ↓oAdd, ↓oSub, ↓oMul, ↓oMod, ↓oDiv, ↓oPow, ↓oI0, ↓oI, ↓oLt, ↓oLe, ↓oGt, ↓oGe, ↓oNeg, ↓oIsB, ↓oIsN, ↓oEq, ↓oIx, ↓oIxN, ↓oIxL, ↓itemOf, ↓oLen, ↓oMin, ↓oMax, ↓oSum, ↓oList, ↓oDict, ↓oIsi, ↓wSlice, ↓wNoP, ↓wPart, ↓wIter, ↓stillK, ↓wRng1, ↓wRng2, ↓ints1, ↓ints2, ↓wEnum, ↓lst1, ↓wZip, ↓lst2, ↓wGet, ↓getOf, ↓wTru, ↓truOf, ↓h_chain, ↓wDnK, ↓wDnT, ↓h_lc, ↓unAt, Bool.decide_eq_true, Bool.decide_eq_false, Bool.and_true, Bool.and_false, Bool.true_and, Bool.false_and, beq_self_eq_true, Bool.true_beq, Bool.false_beq, decide_true, decide_false, eqok_int, eqok_bl, eqok_str, eqD_int, eqD_bl, eqD_str, frzS, stabs, Slot.stab, Slot.dat, Slot.arg, lenOf, enumD, zipD, List.set_cons_zero, List.set_cons_succ, List.getElem?_cons_zero, List.getElem?_cons_succ, List.getElem?_nil, List.length_cons, List.length_nil, List.cons_append, List.nil_append, List.reduceReplicate, List.map_cons, List.map_nil, Nat.reduceAdd, Nat.reduceSub, Nat.reduceLT, Nat.reduceLeDiff, Nat.zero_add, Nat.add_zero, true_and, and_true, Nat.zero_lt_succ, Int.reduceToNat, Int.reducePow, List.length_map, Int.reduceAdd, Nat.lt_add_one, Bool.true_xor, Bool.false_xor, Bool.not_not, rangeD_cons, rangeD_zero, Bool.not_true, Bool.not_false, fin, rk, rks, rk0, asB, outK, stillK, ints1, ints2, lst1, lst2, wSets, itemOf, truOf, getOf, ifB_true, ifB_false, k_nx, k_ret, k_bk, k_ct, k_ex, ent, ↓lpK, lpK, ↓DigQ]
      refine ifD_of (fun e2 => ?_) (fun e2 => ?_)
      · simp -implicitDefEqProofs only [↓gOf, ↓h_while, ↓ifB_true, ↓ifB_false, ↓fin, ↓h_seq, ↓h_if, ↓wRet, ↓wRetN, ↓wRetV, ↓wAsg, ↓wFrz, ↓wFgt, ↓wDrop, ↓wAug, ↓wNext, ↓wBrk, ↓wCnt, ↓h_for, ↓wApp, ↓wSet, ↓wRaise, ↓wReverse, ↓wClear, ↓gN, ↓gT, ↓wSets, ↓rk, ↓rks, ↓rk0, ↓asB, ↓wVar, ↓wInt, ↓wBl, ↓wStr, ↓wNon, ↓wOp, ↓wUn, ↓wNot, ↓h_and, ↓h_or, ↓h_ite, ↓aNil, ↓aCons, ↓wTup, ↓wLst, ↓outK, ↓h_call, ↓oAdd, ↓oSub, ↓oMul, ↓oMod, ↓oDiv, ↓oPow, ↓oI0, ↓oI, ↓oLt, ↓oLe, ↓oGt, ↓oGe, ↓oNeg, ↓oIsB, ↓oIsN, ↓oEq, ↓oIx, ↓oIxN, ↓oIxL, ↓itemOf, ↓oLen, ↓oMin, ↓oMax, ↓oSum, ↓oList, ↓oDict, ↓oIsi, ↓wSlice, ↓wNoP, ↓wPart, ↓wIter, ↓stillK, ↓wRng1, ↓wRng2, ↓ints1, ↓ints2, ↓wEnum, ↓lst1, ↓wZip, ↓lst2, ↓wGet, ↓getOf, ↓wTru, ↓truOf, ↓h_chain, ↓wDnK, ↓wDnT, ↓h_lc, ↓unAt, Bool.decide_eq_true, Bool.decide_eq_false, Bool.and_true, Bool.and_false, Bool.true_and, Bool.false_and, beq_self_eq_true, Bool.true_beq, Bool.false_beq, decide_true, decide_false, eqok_int, eqok_bl, eqok_str, eqD_int, eqD_bl, eqD_str, frzS, stabs, Slot.stab, Slot.dat, Slot.arg, lenOf, enumD, zipD, List.set_cons_zero, List.set_cons_succ, List.getElem?_cons_zero, List.getElem?_cons_succ, List.getElem?_nil, List.length_cons, List.length_nil, List.cons_append, List.nil_append, List.reduceReplicate, List.map_cons, List.map_nil, Nat.reduceAdd, Nat.reduceSub, Nat.reduceLT, Nat.reduceLeDiff, Nat.zero_add, Nat.add_zero, true_and, and_true, Nat.zero_lt_succ, Int.reduceToNat, Int.reducePow, List.length_map, Int.reduceAdd, Nat.lt_add_one, Bool.true_xor, Bool.false_xor, Bool.not_not, rangeD_cons, rangeD_zero, Bool.not_true, Bool.not_false, fin, rk, rks, rk0, asB, outK, stillK, ints1, ints2, lst1, lst2, wSets, itemOf, truOf, getOf, ifB_true, ifB_false, k_nx, k_ret, k_bk, k_ct, k_ex, ent, ↓lpK, lpK, ↓DigQ]
        exact p_tail _ _ _ _ _ _ _ _ _ _ _ _ _ _ rfl rfl
      · simp -implicitDefEqProofs only [↓gOf, ↓h_while, ↓ifB_true, ↓ifB_false, ↓fin, ↓h_seq, ↓h_if, ↓wRet, ↓wRetN, ↓wRetV, ↓wAsg, ↓wFrz, ↓wFgt, ↓wDrop, ↓wAug, ↓wNext, ↓wBrk, ↓wCnt, ↓h_for, ↓wApp, ↓wSet, ↓wRaise, ↓wReverse, ↓wClear, ↓gN, ↓gT, ↓wSets, ↓rk, ↓rks, ↓rk0, ↓asB, ↓wVar, ↓wInt, ↓wBl, ↓wStr, ↓wNon, ↓wOp, ↓wUn, ↓wNot, ↓h_and, ↓h_or, ↓h_ite, ↓aNil, ↓aCons, ↓wTup, ↓wLst, ↓outK, ↓h_call, ↓oAdd, ↓oSub, ↓oMul, ↓oMod, ↓oDiv, ↓oPow, ↓oI0, ↓oI, ↓oLt, ↓oLe, ↓oGt, ↓oGe, ↓oNeg, ↓oIsB, ↓oIsN, ↓oEq, ↓oIx, ↓oIxN, ↓oIxL, ↓itemOf, ↓oLen, ↓oMin, ↓oMax, ↓oSum, ↓oList, ↓oDict, ↓oIsi, ↓wSlice, ↓wNoP, ↓wPart, ↓wIter, ↓stillK, ↓wRng1, ↓wRng2, ↓ints1, ↓ints2, ↓wEnum, ↓lst1, ↓wZip, ↓lst2, ↓wGet, ↓getOf, ↓wTru, ↓truOf, ↓h_chain, ↓wDnK, ↓wDnT, ↓h_lc, ↓unAt, Bool.decide_eq_true, Bool.decide_eq_false, Bool.and_true, Bool.and_false, Bool.true_and, Bool.false_and, beq_self_eq_true, Bool.true_beq, Bool.false_beq, decide_true, decide_false, eqok_int, eqok_bl, eqok_str, eqD_int, eqD_bl, eqD_str, frzS, stabs, Slot.stab, Slot.dat, Slot.arg, lenOf, enumD, zipD, List.set_cons_zero, List.set_cons_succ, List.getElem?_cons_zero, List.getElem?_cons_succ, List.getElem?_nil, List.length_cons, List.length_nil, List.cons_append, List.nil_append, List.reduceReplicate, List.map_cons, List.map_nil, Nat.reduceAdd, Nat.reduceSub, Nat.reduceLT, Nat.reduceLeDiff, Nat.zero_add, Nat.add_zero, true_and, and_true, Nat.zero_lt_succ, Int.reduceToNat, Int.reducePow, List.length_map, Int.reduceAdd, Nat.lt_add_one, Bool.true_xor, Bool.false_xor, Bool.not_not, rangeD_cons, rangeD_zero, Bool.not_true, Bool.not_false, fin, rk, rks, rk0, asB, outK, stillK, ints1, ints2, lst1, lst2, wSets, itemOf, truOf, getOf, ifB_true, ifB_false, k_nx, k_ret, k_bk, k_ct, k_ex, ent, ↓lpK, lpK, ↓DigQ]
        exact p_tail _ _ _ _ _ _ _ _ _ _ _ _ _ _ rfl rfl

end DL

set_option Elab.async false
set_option linter.all false
set_option maxRecDepth 100000
set_option maxHeartbeats 4000000
namespace DL
open PySem PySem.Spec PyProof.Rows L2
def topS (i : Nat) : Stmt := PySem.Challenge.pw_feastfall_k03_the_higher_of_two.main.body.getD i (.Pass ⟨0, 0, 0, 0⟩)
abbrev s_ahead : Stmt := topS 1
abbrev n_ahead : List Str := ["one", "other"]
theorem sc_ahead : FnScope n_ahead ["one", "other"] (defScope s_ahead) := ⟨rfl, rfl, rfl, by decide +kernel, rfl, by decide +kernel, by decide +kernel⟩
abbrev s_law_cell : Stmt := topS 3
abbrev n_law_cell : List Str := ["_law_script", "_law_place"]
theorem sc_law_cell : FnScope n_law_cell ["_law_script", "_law_place"] (defScope s_law_cell) := ⟨rfl, rfl, rfl, by decide +kernel, rfl, by decide +kernel, by decide +kernel⟩
abbrev s_law_seed : Stmt := topS 4
abbrev n_law_seed : List Str := ["_law_cell_here", "_law_one", "_law_two"]
theorem sc_law_seed : FnScope n_law_seed ["_law_cell_here"] (defScope s_law_seed) := ⟨rfl, rfl, rfl, by decide +kernel, rfl, by decide +kernel, by decide +kernel⟩
abbrev s_law_digits : Stmt := topS 5
abbrev n_law_digits : List Str := ["_law_cell_here", "_law_sizes", "_law_rest", "_law_found", "_law_k", "_law_size"]
theorem sc_law_digits : FnScope n_law_digits ["_law_cell_here", "_law_sizes"] (defScope s_law_digits) := ⟨rfl, rfl, rfl, by decide +kernel, rfl, by decide +kernel, by decide +kernel⟩
abbrev s_law_entry : Stmt := topS 6
abbrev n_law_entry : List Str := ["_law_cell_here", "_law_big", "_law_rank", "_law_small", "_law_number", "_law_year", "_law_way", "_law_own"]
theorem sc_law_entry : FnScope n_law_entry ["_law_cell_here"] (defScope s_law_entry) := ⟨rfl, rfl, rfl, by decide +kernel, rfl, by decide +kernel, by decide +kernel⟩
abbrev s_law_due : Stmt := topS 7
abbrev n_law_due : List Str := ["_law_one", "_law_other", "_law_place"]
theorem sc_law_due : FnScope n_law_due ["_law_one", "_law_other"] (defScope s_law_due) := ⟨rfl, rfl, rfl, by decide +kernel, rfl, by decide +kernel, by decide +kernel⟩
abbrev s_law : Stmt := topS 8
abbrev n_law : List Str := ["_law_script", "_law_one", "_law_other", "_law_choice", "_law_alike", "_law_first", "_law_second"]
theorem sc_law : FnScope n_law ["_law_script"] (defScope s_law) := ⟨rfl, rfl, rfl, by decide +kernel, rfl, by decide +kernel, by decide +kernel⟩
structure Txt (K : PySem.W.Frag) (mg : Str → Option Value) : Prop where
  d_ahead : DefAt K mg "ahead" s_ahead ["one", "other"]
  d_law_cell : DefAt K mg "_law_cell" s_law_cell ["_law_script", "_law_place"]
  d_law_seed : DefAt K mg "_law_seed" s_law_seed ["_law_cell_here"]
  d_law_digits : DefAt K mg "_law_digits" s_law_digits ["_law_cell_here", "_law_sizes"]
  d_law_entry : DefAt K mg "_law_entry" s_law_entry ["_law_cell_here"]
  d_law_due : DefAt K mg "_law_due" s_law_due ["_law_one", "_law_other"]
  d_law : DefAt K mg "law" s_law ["_law_script"]
  n_enumerate : mg "enumerate" = none
  n_len : mg "len" = none
  n_max : mg "max" = none
  n_range : mg "range" = none
section
variable {P : Program} {w : World} {K : PySem.W.Frag} {mg : Str → Option Value} {base : Heap}
theorem at_ahead (T : Txt K mg) : FnAt P w K mg base "ahead" 1 2 g_ahead :=
  fn_at (N := n_ahead) T.d_ahead sc_ahead (by decide) wm_ahead rfl fun f cdv A outer s H S0 E hr => by
    have hu := room65 hr
    exact (ds_cons (ds_if (dt_ne hu (de_ixN 0 hu (de_var 0)) (de_ixN 0 hu (de_var 1)))
 (ds_one (ds_ret (de_lt (de_ixN 0 hu (de_var 0)) (de_ixN 0 hu (de_var 1)))))
 ds_nil)
 (ds_cons (ds_if (dt_ne hu (de_ixN 1 hu (de_var 0)) (de_ixN 1 hu (de_var 1)))
 (ds_one (ds_ret (de_lt (de_ixN 1 hu (de_var 0)) (de_ixN 1 hu (de_var 1)))))
 ds_nil)
 (ds_one (ds_ret (de_lt (de_ixN 2 hu (de_var 0)) (de_ixN 2 hu (de_var 1)))))))
theorem at_law_cell (T : Txt K mg) : FnAt P w K mg base "_law_cell" 1 2 g_law_cell :=
  fn_at (N := n_law_cell) T.d_law_cell sc_law_cell (by decide) wm_law_cell rfl fun f cdv A outer s H S0 E hr => by
    have hu := room65 hr
    exact (ds_cons (ds_if (dt_lt (de_var 1) (de_len T.n_len (de_var 0)))
 (ds_one (ds_ret (de_ix hu (de_var 0) (de_var 1))))
 ds_nil)
 (ds_one (ds_ret de_int)))
theorem at_law_seed (T : Txt K mg) : FnAt P w K mg base "_law_seed" 1 1 g_law_seed :=
  fn_at (N := n_law_seed) T.d_law_seed sc_law_seed (by decide) wm_law_seed rfl fun f cdv A outer s H S0 E hr => by
    have hu := room65 hr
    exact (ds_cons (ds_if (dt_ge (de_var 0) (de_pow de_int de_int))
 (ds_one (ds_retV 0))
 ds_nil)
 (ds_cons (ds_set 1 sc_law_seed.nd (de_mod (de_mul (de_mod (de_add (de_mul (de_var 0) de_int) de_int) de_int) de_int) de_int))
 (ds_cons (ds_set 2 sc_law_seed.nd (de_mod (de_mul (de_mod (de_add (de_mul (de_var 0) de_int) de_int) de_int) de_int) de_int))
 (ds_one (ds_ret (de_add (de_mul (de_var 1) de_int) (de_var 2)))))))
theorem at_law_digits (T : Txt K mg) : FnAt P w K mg base "_law_digits" 2 2 g_law_digits :=
  fn_at (N := n_law_digits) T.d_law_digits sc_law_digits (by decide) wm_law_digits rfl fun f cdv A outer s H S0 E hr => by
    have hu := room65 hr
    exact (ds_cons (ds_set 2 sc_law_digits.nd (de_own (at_law_seed T) hr (by decide) (takes_of rfl rfl rfl rfl) (da_cons (de_var 0) da_nil) (len_cons (m_var 0) m_nil len_nil) rfl))
 (ds_cons (ds_set 3 sc_law_digits.nd (de_lst da_nil))
 (ds_cons (ds_frz 1 (ds_for (passes_of rfl) rfl (di_enum T.n_enumerate (da_cons (de_var 1) da_nil)) (dg_tup rfl sc_law_digits.nd (nac (nac NamesAt.nil)))
 (ds_cons (ds_if (dt_lt (de_var 2) (de_var 5))
 (ds_one (ds_set 2 sc_law_digits.nd (de_own (at_law_seed T) hr (by decide) (takes_of rfl rfl rfl rfl) (da_cons (de_add (de_add (de_var 2) (de_mul de_int (de_var 4))) (de_mod (de_var 0) de_int)) da_nil) (len_cons (mono_op (mono_op (m_var 2) (mono_op m_int (m_var 4) oI_mono) oI0_mono) (mono_op (m_var 0) m_int oI_mono) oI0_mono) m_nil len_nil) rfl)))
 ds_nil)
 (ds_cons (ds_append 3 (de_mod (de_var 2) (de_var 5)) (hpe := fun h => pe_bm PySem.F.plainAttrs_list PySem.F.slot_list_append PySem.F.type_list_append mt_append (pv 3) (pa_cons h pa_nil)))
 (ds_one (ds_set 2 sc_law_digits.nd (de_div (de_var 2) (de_var 5))))))))
 (ds_one (ds_retV 3)))))
theorem at_law_entry (T : Txt K mg) : FnAt P w K mg base "_law_entry" 3 1 g_law_entry :=
  fn_at (N := n_law_entry) T.d_law_entry sc_law_entry (by decide) wm_law_entry rfl fun f cdv A outer s H S0 E hr => by
    have hu := room65 hr
    exact (ds_cons (ds_set 1 sc_law_entry.nd (de_add (de_pow de_int de_int) de_int))
 (ds_cons (ds_frz 1 (ds_asg (dg_tup rfl sc_law_entry.nd (nac (nac (nac (nac (nac (nac NamesAt.nil))))))) (de_own (at_law_digits T) hr (by decide) (takes_of rfl rfl rfl rfl) (da_cons (de_var 0) (da_cons (de_lst (da_cons de_int (da_cons de_int (da_cons (de_var 1) (da_cons (de_var 1) (da_cons de_int (da_cons (de_var 1) da_nil))))))) da_nil)) (len_cons (m_var 0) (m_cons (m_lst (m_cons m_int (m_cons m_int (m_cons (m_var 1) (m_cons (m_var 1) (m_cons m_int (m_cons (m_var 1) m_nil))))))) m_nil) (len_cons (m_lst (m_cons m_int (m_cons m_int (m_cons (m_var 1) (m_cons (m_var 1) (m_cons m_int (m_cons (m_var 1) m_nil))))))) m_nil len_nil)) rfl)))
 (ds_cons (ds_if (dt_eq hu (de_var 3) de_int)
 (ds_cons (ds_set 4 sc_law_entry.nd (de_mod (de_var 4) de_int))
 (ds_one (ds_set 5 sc_law_entry.nd (de_mod (de_var 5) de_int))))
 ds_nil)
 (ds_one (ds_frz 7 (ds_frz 5 (ds_frz 4 (ds_ret (de_tup (da_cons (de_add de_int (de_var 2)) (da_cons (de_var 4) (da_cons (de_var 5) (da_cons (de_ix hu (de_lst (da_cons de_str (da_cons de_str (da_cons de_str da_nil)))) (de_var 6)) (da_cons (de_var 7) da_nil))))))))))))))
theorem at_law_due (T : Txt K mg) : FnAt P w K mg base "_law_due" 1 2 g_law_due :=
  fn_at (N := n_law_due) T.d_law_due sc_law_due (by decide) wm_law_due rfl fun f cdv A outer s H S0 E hr => by
    have hu := room65 hr
    exact (ds_cons (ds_for (passes_of rfl) rfl (di_range1 T.n_range (da_cons de_int da_nil)) (dg_name 2 sc_law_due.nd)
 (ds_one (ds_if (dt_ne hu (de_ix hu (de_var 0) (de_var 2)) (de_ix hu (de_var 1) (de_var 2)))
 (ds_one (ds_ret (de_lt (de_ix hu (de_var 0) (de_var 2)) (de_ix hu (de_var 1) (de_var 2)))))
 ds_nil)))
 (ds_one (ds_ret de_bl)))
theorem at_law (T : Txt K mg) {fa : Addr} (hfa : mg "law" = some (.ref fa)) : ∃ fd : FuncData, (∀ (s : Shared) (v : Value), BindsTo s fd ⟨[v], []⟩ [("_law_script", v)]) ∧ ∀ base : Heap, K.In base → base.Ns mainGlobals mg → FnOk P w K mg base (L2.CX P w) 4 fa fd ["_law_script"] (spLaw K) :=
  law_at (N := n_law) T.d_law sc_law (by decide) wm_law hfa law_holds fun base _ _ f cdv A outer s H S0 E hr => by
    have hu := room65 hr
    exact (ds_cons (ds_set 1 sc_law.nd (de_own (at_law_entry T) hr (by decide) (takes_of rfl rfl rfl rfl) (da_cons (de_own (at_law_cell T) hr (by decide) (takes_of rfl rfl rfl rfl) (da_cons (de_var 0) (da_cons de_int da_nil)) (len_cons (m_var 0) (m_cons m_int m_nil) (len_cons m_int m_nil len_nil)) rfl) da_nil) (len_cons (m_call gm_law_cell (m_cons (m_var 0) (m_cons m_int m_nil))) m_nil len_nil) rfl))
 (ds_cons (ds_set 2 sc_law.nd (de_own (at_law_entry T) hr (by decide) (takes_of rfl rfl rfl rfl) (da_cons (de_own (at_law_cell T) hr (by decide) (takes_of rfl rfl rfl rfl) (da_cons (de_var 0) (da_cons de_int da_nil)) (len_cons (m_var 0) (m_cons m_int m_nil) (len_cons m_int m_nil len_nil)) rfl) da_nil) (len_cons (m_call gm_law_cell (m_cons (m_var 0) (m_cons m_int m_nil))) m_nil len_nil) rfl))
 (ds_cons (ds_set 3 sc_law.nd (de_ixN 0 hu (de_own (at_law_digits T) hr (by decide) (takes_of rfl rfl rfl rfl) (da_cons (de_own (at_law_cell T) hr (by decide) (takes_of rfl rfl rfl rfl) (da_cons (de_var 0) (da_cons de_int da_nil)) (len_cons (m_var 0) (m_cons m_int m_nil) (len_cons m_int m_nil len_nil)) rfl) (da_cons (de_lst (da_cons de_int da_nil)) da_nil)) (len_cons (m_call gm_law_cell (m_cons (m_var 0) (m_cons m_int m_nil))) (m_cons (m_lst (m_cons m_int m_nil)) m_nil) (len_cons (m_lst (m_cons m_int m_nil)) m_nil len_nil)) rfl)))
 (ds_cons (ds_if (dt_eq hu (de_var 3) de_int)
 (ds_one (ds_set 2 sc_law.nd (de_tup (da_cons (de_ixN 0 hu (de_var 1)) (da_cons (de_ixN 1 hu (de_var 2)) (da_cons (de_ixN 2 hu (de_var 2)) (da_cons (de_ixN 3 hu (de_var 2)) (da_cons (de_ixN 4 hu (de_var 2)) da_nil))))))))
 ds_nil)
 (ds_cons (ds_if (dt_eq hu (de_var 3) de_int)
 (ds_one (ds_set 2 sc_law.nd (de_tup (da_cons (de_ixN 0 hu (de_var 1)) (da_cons (de_ixN 1 hu (de_var 1)) (da_cons (de_ixN 2 hu (de_var 2)) (da_cons (de_ixN 3 hu (de_var 2)) (da_cons (de_ixN 4 hu (de_var 2)) da_nil))))))))
 ds_nil)
 (ds_cons (ds_if (dt_eq hu (de_var 3) de_int)
 (ds_one (ds_set 2 sc_law.nd (de_tup (da_cons (de_ixN 0 hu (de_var 1)) (da_cons (de_max2 rfl T.n_max de_int (de_sub (de_ixN 1 hu (de_var 1)) de_int)) (da_cons (de_ixN 2 hu (de_var 2)) (da_cons (de_ixN 3 hu (de_var 1)) (da_cons (de_ixN 4 hu (de_var 1)) da_nil))))))))
 ds_nil)
 (ds_cons (ds_set 4 sc_law.nd (de_tup (da_cons (de_ixN 0 hu (de_var 1)) (da_cons (de_ixN 1 hu (de_var 1)) (da_cons (de_ixN 2 hu (de_var 1)) (da_cons (de_ixN 3 hu (de_var 2)) (da_cons (de_ixN 4 hu (de_var 2)) da_nil)))))))
 (ds_cons (ds_if (dt_bool (dw_or (dt_isnB (de_own (at_ahead T) hr (by decide) (takes_of rfl rfl rfl rfl) (da_cons (de_var 1) (da_cons (de_var 1) da_nil)) (len_cons (m_var 1) (m_cons (m_var 1) m_nil) (len_cons (m_var 1) m_nil len_nil)) rfl) de_bl) (dw_or (dt_isnB (de_own (at_ahead T) hr (by decide) (takes_of rfl rfl rfl rfl) (da_cons (de_var 1) (da_cons (de_var 4) da_nil)) (len_cons (m_var 1) (m_cons (m_var 4) m_nil) (len_cons (m_var 4) m_nil len_nil)) rfl) de_bl) (dw_or1 (dt_isnB (de_own (at_ahead T) hr (by decide) (takes_of rfl rfl rfl rfl) (da_cons (de_var 4) (da_cons (de_var 1) da_nil)) (len_cons (m_var 4) (m_cons (m_var 1) m_nil) (len_cons (m_var 1) m_nil len_nil)) rfl) de_bl)))))
 (ds_one (ds_ret de_bl))
 ds_nil)
 (ds_cons (ds_if (dt_bool (dw_and (dt_eq hu (de_ixN 1 hu (de_var 1)) (de_ixN 1 hu (de_var 2))) (dw_and1 (dt_eq hu (de_ixN 2 hu (de_var 1)) (de_ixN 2 hu (de_var 2))))))
 (ds_one (ds_ret de_bl))
 ds_nil)
 (ds_cons (ds_set 5 sc_law.nd (de_own (at_ahead T) hr (by decide) (takes_of rfl rfl rfl rfl) (da_cons (de_var 1) (da_cons (de_var 2) da_nil)) (len_cons (m_var 1) (m_cons (m_var 2) m_nil) (len_cons (m_var 2) m_nil len_nil)) rfl))
 (ds_cons (ds_set 6 sc_law.nd (de_own (at_ahead T) hr (by decide) (takes_of rfl rfl rfl rfl) (da_cons (de_var 2) (da_cons (de_var 1) da_nil)) (len_cons (m_var 2) (m_cons (m_var 1) m_nil) (len_cons (m_var 1) m_nil len_nil)) rfl))
 (ds_cons (ds_if (dt_bool (dw_or (dt_bool (dw_and (dt_isnB (de_var 5) de_bl) (dw_and1 (dt_isnB (de_var 5) de_bl)))) (dw_or1 (dt_bool (dw_and (dt_isnB (de_var 6) de_bl) (dw_and1 (dt_isnB (de_var 6) de_bl)))))))
 (ds_one (ds_ret de_bl))
 ds_nil)
 (ds_one (ds_ret (de_and (de_eq hu (de_var 5) (de_own (at_law_due T) hr (by decide) (takes_of rfl rfl rfl rfl) (da_cons (de_var 1) (da_cons (de_var 2) da_nil)) (len_cons (m_var 1) (m_cons (m_var 2) m_nil) (len_cons (m_var 2) m_nil len_nil)) rfl)) (de_and (de_eq hu (de_var 6) (de_own (at_law_due T) hr (by decide) (takes_of rfl rfl rfl rfl) (da_cons (de_var 2) (da_cons (de_var 1) da_nil)) (len_cons (m_var 2) (m_cons (m_var 1) m_nil) (len_cons (m_var 1) m_nil len_nil)) rfl)) (de_one (de_ne hu (de_var 5) (de_var 6)))))))))))))))))))
end
theorem all_mk {K : PySem.W.Frag} {h : Heap} {mg : Str → Option Value} (X : K.In h) (G : h.Ns mainGlobals mg)
    {f0 f1 f2 f3 f4 f5 f6 : Addr} {od0 an0 od1 an1 od2 an2 od3 an3 od4 an4 od5 an5 od6 an6 : Option Addr} {sl0 sl1 sl2 sl3 sl4 sl5 sl6 : Array (Option Value)} {oc0 kV0 dc0 pm0 cd0 ct0 oc1 kV1 dc1 pm1 cd1 ct1 oc2 kV2 dc2 pm2 cd2 ct2 oc3 kV3 dc3 pm3 cd3 ct3 oc4 kV4 dc4 pm4 cd4 ct4 oc5 kV5 dc5 pm5 cd5 ct5 oc6 kV6 dc6 pm6 cd6 ct6 : Value}
    (a0 : PySem.W.nsIn K mainGlobals "ahead" = some (some (.ref f0))) (l0 : K.lookup f0 = some ⟨oc0, od0, .func (PySem.W.fnOf "ahead" "ahead" (defArgs s_ahead) (defBody s_ahead) (defScope s_ahead) .none kV0 dc0 pm0 an0 cd0 ct0), sl0⟩) (c0 : PySem.W.codeIn K cd0 "ahead" = true) (k0 : PySem.W.keepIn K (.ref f0) = true)
    (a1 : PySem.W.nsIn K mainGlobals "_law_cell" = some (some (.ref f1))) (l1 : K.lookup f1 = some ⟨oc1, od1, .func (PySem.W.fnOf "_law_cell" "_law_cell" (defArgs s_law_cell) (defBody s_law_cell) (defScope s_law_cell) .none kV1 dc1 pm1 an1 cd1 ct1), sl1⟩) (c1 : PySem.W.codeIn K cd1 "_law_cell" = true) (k1 : PySem.W.keepIn K (.ref f1) = true)
    (a2 : PySem.W.nsIn K mainGlobals "_law_seed" = some (some (.ref f2))) (l2 : K.lookup f2 = some ⟨oc2, od2, .func (PySem.W.fnOf "_law_seed" "_law_seed" (defArgs s_law_seed) (defBody s_law_seed) (defScope s_law_seed) .none kV2 dc2 pm2 an2 cd2 ct2), sl2⟩) (c2 : PySem.W.codeIn K cd2 "_law_seed" = true) (k2 : PySem.W.keepIn K (.ref f2) = true)
    (a3 : PySem.W.nsIn K mainGlobals "_law_digits" = some (some (.ref f3))) (l3 : K.lookup f3 = some ⟨oc3, od3, .func (PySem.W.fnOf "_law_digits" "_law_digits" (defArgs s_law_digits) (defBody s_law_digits) (defScope s_law_digits) .none kV3 dc3 pm3 an3 cd3 ct3), sl3⟩) (c3 : PySem.W.codeIn K cd3 "_law_digits" = true) (k3 : PySem.W.keepIn K (.ref f3) = true)
    (a4 : PySem.W.nsIn K mainGlobals "_law_entry" = some (some (.ref f4))) (l4 : K.lookup f4 = some ⟨oc4, od4, .func (PySem.W.fnOf "_law_entry" "_law_entry" (defArgs s_law_entry) (defBody s_law_entry) (defScope s_law_entry) .none kV4 dc4 pm4 an4 cd4 ct4), sl4⟩) (c4 : PySem.W.codeIn K cd4 "_law_entry" = true) (k4 : PySem.W.keepIn K (.ref f4) = true)
    (a5 : PySem.W.nsIn K mainGlobals "_law_due" = some (some (.ref f5))) (l5 : K.lookup f5 = some ⟨oc5, od5, .func (PySem.W.fnOf "_law_due" "_law_due" (defArgs s_law_due) (defBody s_law_due) (defScope s_law_due) .none kV5 dc5 pm5 an5 cd5 ct5), sl5⟩) (c5 : PySem.W.codeIn K cd5 "_law_due" = true) (k5 : PySem.W.keepIn K (.ref f5) = true)
    (a6 : PySem.W.nsIn K mainGlobals "law" = some (some (.ref f6))) (l6 : K.lookup f6 = some ⟨oc6, od6, .func (PySem.W.fnOf "law" "law" (defArgs s_law) (defBody s_law) (defScope s_law) .none kV6 dc6 pm6 an6 cd6 ct6), sl6⟩) (c6 : PySem.W.codeIn K cd6 "law" = true) (k6 : PySem.W.keepIn K (.ref f6) = true)
    (z_enumerate : PySem.W.nsIn K mainGlobals "enumerate" = some none)
    (z_len : PySem.W.nsIn K mainGlobals "len" = some none)
    (z_max : PySem.W.nsIn K mainGlobals "max" = some none)
    (z_range : PySem.W.nsIn K mainGlobals "range" = some none) : Txt K mg :=
  { d_ahead := def_at X G a0 l0 c0 k0 fun us hl => match us, hl with | [_, _], _ => rfl,
    d_law_cell := def_at X G a1 l1 c1 k1 fun us hl => match us, hl with | [_, _], _ => rfl,
    d_law_seed := def_at X G a2 l2 c2 k2 fun us hl => match us, hl with | [_], _ => rfl,
    d_law_digits := def_at X G a3 l3 c3 k3 fun us hl => match us, hl with | [_, _], _ => rfl,
    d_law_entry := def_at X G a4 l4 c4 k4 fun us hl => match us, hl with | [_], _ => rfl,
    d_law_due := def_at X G a5 l5 c5 k5 fun us hl => match us, hl with | [_, _], _ => rfl,
    d_law := def_at X G a6 l6 c6 k6 fun us hl => match us, hl with | [_], _ => rfl,
    n_enumerate := PySem.W.mg_none_of X G z_enumerate,
    n_len := PySem.W.mg_none_of X G z_len,
    n_max := PySem.W.mg_none_of X G z_max,
    n_range := PySem.W.mg_none_of X G z_range }

end DL

open PySem PySem.Spec PyProof.Rows L2

set_option maxRecDepth 100000 in
set_option maxHeartbeats 0 in
theorem PySem.Challenge.cw_feastfall_k03_the_higher_of_two_holds : PySem.Challenge.rw_feastfall_k03_the_higher_of_two.Holds := by
  w_on; o_law; k_head; (case hw => w_witness2)
  k_fill
  refine L2.walk_of (l := PySem.Challenge.rw_feastfall_k03_the_higher_of_two) (n := 63) (k := 4) (x := "_law_script") (CX := fun w => L2.CX PySem.Challenge.rw_feastfall_k03_the_higher_of_two.prog w) (sp := fun w => DL.spLaw _) rfl (by decide) rfl ⟨rfl, by decide, by decide⟩ (fun w h Y => PySem.W.kIn_of Y) ?F (fun _ _ a ns hl _ hS => ⟨a, ns, rfl, hS, hl, fun _ => rfl⟩) (fun _ _ _ _ _ h => DL.noCX h)
  case F =>
    intro w mg fa h KX G hmg
    refine DL.at_law (?T) hmg
    refine' DL.all_mk KX G ?a0 ?l0 ?c0 ?k0 ?a1 ?l1 ?c1 ?k1 ?a2 ?l2 ?c2 ?k2 ?a3 ?l3 ?c3 ?k3 ?a4 ?l4 ?c4 ?k4 ?a5 ?l5 ?c5 ?k5 ?a6 ?l6 ?c6 ?k6 ?z_enumerate ?z_len ?z_max ?z_range
    (case a0 => k_is)
    (case l0 => k_is)
    (case c0 => k_is)
    (case k0 => k_is)
    (case a1 => k_is)
    (case l1 => k_is)
    (case c1 => k_is)
    (case k1 => k_is)
    (case a2 => k_is)
    (case l2 => k_is)
    (case c2 => k_is)
    (case k2 => k_is)
    (case a3 => k_is)
    (case l3 => k_is)
    (case c3 => k_is)
    (case k3 => k_is)
    (case a4 => k_is)
    (case l4 => k_is)
    (case c4 => k_is)
    (case k4 => k_is)
    (case a5 => k_is)
    (case l5 => k_is)
    (case c5 => k_is)
    (case k5 => k_is)
    (case a6 => k_is)
    (case l6 => k_is)
    (case c6 => k_is)
    (case k6 => k_is)
    (case z_enumerate => k_is)
    (case z_len => k_is)
    (case z_max => k_is)
    (case z_range => k_is)
